import PyProof.Rows.All
import HandS.WideBits
import Wide.All
import OpenK.AllK
import Wide.FinOn
import KE.KStateDown
import HandS.ForMost
import HandS.ForExc
import HandS.Walk
import HandS.Defaults
import HandS.IsInst
import HandS.HeadEnd
import HandS.HeadHook2
import HandS.Head2
import HandS.Zip
import HandS.Flow
import HandS.TupAny
import HandS.Style
import HandS.Wide
import HandS.Deep
import HandS.SortInts
import HandS.More
import HandS.MakeKwOnly
import HandS.Lambda
import HandS.EndTab
import HandS.HeadHook4
import HandS.HeadWalk
import HandS.ExcIs
import HandS.Iter
import KE.KDictKeyed
import KE.KDictMeth
import KE.SortKeyHeap
import KE.DataCmp
import HandS.Text
import PyProof.StrBlock2
import HandS.TryOnly
import KE.KDictZip
import KE.KUnpackStar
import HandS.RaiseMore
import HandS.Strs
import KE.KDictPairs
import HandS.DictTup
import KE.KDictDisplayH
import HandS.DictComp
import HandS.Set
import HandS.SetTxt0
import HandS.SetFor
import HandS.SetBool
import KE.DataMinMax
import HandS.Conv
import KE.DataMinKey
import KE.GoesMore
import KE.GoesEnumKw
import KE.KDictWalk
import KE.KDictSum
import HandS.TupSets
import KE.SortData
import HandS.Exc
import PySem.Challenge.RW_formclear_k06_signs_of_surds
set_option Elab.async false
set_option linter.all false
set_option maxRecDepth 100000
set_option maxHeartbeats 16000000
namespace Fm
open PySem
abbrev Key:=L2.Key
inductive D where
 | non
 | bl (b : Bool)
 | int (i : Int)
 | str (x : Str)
 | tup (xs : List D)
 | lst (xs : List D)
 | dct (kvs : List (Key × D))
 | tok
 | scr (ns : List Int)
 | exc (n : Nat)
 | dcn (kvs : List (NestedKey × D))
end Fm
namespace Fm
open PySem PySem.Spec PyProof.Rows L2
def freeNames : List Str:=["len", "abs", "all", "any", "sum", "tuple", "list", "sorted", "isinstance", "int", "bool", "str", "range", "zip", "enumerate", "ValueError", "dict", "set", "max", "min"]
mutual
def dvB (K : PySem.W.Frag) : D → Value → Bool
 | .non,u=>He.relB .non u
 | .bl b,u=>He.relB (.bl b) u
 | .int i,u=>He.relB (.int i) u
 | .str x,u=>He.relB (.str x) u
 | .tup ds,.ref a=>(match K.lookup a with
  | some ⟨.type c,none,.seq its _,_⟩=>decide (c = "tuple") && (decide (its.size ≤ sizeLine) && dvsB K ds its.toList)
  | _=>false)
 | _,_=>false
def dvsB (K : PySem.W.Frag) : List D → List Value → Bool
 | [],[]=>true
 | d :: ds,u :: us=>dvB K d u && dvsB K ds us
 | _,_=>false
end
def mgB (K : PySem.W.Frag) (x : Str) (d : D) : Bool:=match PySem.W.nsIn K mainGlobals x with
 | some (some u)=>dvB K d u
 | _=>false
def clOf (ex : List (Nat × Str)) (K : PySem.W.Frag) (n : Nat) : Addr:=match ex.lookup n with
 | some x=>He.ga K x
 | none=>0
def isBlt (o : Option (Option Value)) (id : String) : Bool:=match o with
 | some (some (.builtin i))=>decide (i = id)
 | _=>false
def isNo (o : Option (Option Value)) : Bool:=match o with
 | some none=>true
 | _=>false
def excCB (K : PySem.W.Frag) (D : Addr) : Bool:=isBlt (PySem.W.findIn K (.ref D) "__getattribute__") "BaseException.__getattribute__" && isNo (PySem.W.findIn K (.ref D) "__getattr__") && decide (PySem.W.subIn K (.ref D) (.type "BaseException") = some true) && PySem.W.hasDictIn K D && isBlt (PySem.W.findIn K (.ref D) "__class__") "object.__class__" &&
 isBlt (PySem.W.specialIn K (.builtin "object.__class__") "__get__") "getset_descriptor.__get__" && decide (PySem.W.takesIn K (.builtin "object.__class__") = some true) && decide (PySem.W.mroIn K D (.type "object") = some true)
def nineB (ex : List (Nat × Str)) (K : PySem.W.Frag) : Bool:=(List.range 9).all fun m=>excCB K (clOf ex K m) && decide (PySem.W.kitOne K (.ref (clOf ex K m)) (.type "ValueError") = some true) && decide (PySem.W.exmOne K (.ref (clOf ex K m)) (.ref (He.ga K "FormError")) = some true) &&
 (List.range 9).all fun n=>decide (PySem.W.kitOne K (.ref (clOf ex K m)) (.ref (clOf ex K n)) = some (decide (m = n)))
def tfOf (hd : Bool) (lks : List Str) : List He.Defn:=(if hd then [(("law" : Str),none)] else ([] : List He.Defn)) ++ lks.map fun x=>((x,none) : He.Defn)
def exB (hd : Bool) (lks : List Str) (ex : List (Nat × Str)) (cst : List (Str × D)) (K : PySem.W.Frag) : Bool:=(cst.all fun p=>mgB K p.1 p.2) && (!hd || nineB ex K) && decide (((tfOf hd lks).map fun q=>(He.cT K q).2).Nodup)
def faOf (fn : List He.DefD) (ex : List (Nat × Str)) (hd : Bool) : List He.Fa:=fn.map (fun d=>.glo d.at_.1) ++ (ex.map (fun q=>.glo q.2) ++ (ex.map (fun q=>.exc q.2) ++ (freeNames.map .free ++ (if hd then [.glo "FormError"] else []))))
end Fm
namespace Lw
open PySem PySem.Spec PyProof.Rows L2 Fm
def top (i : Nat) : Stmt:=PySem.Challenge.pw_formclear_k06_signs_of_surds.main.body.getD i (.Pass ⟨0,0,0,0⟩)
def exs : List (Nat × Str):=[]
abbrev hd : Bool:=false
def cst : List (Str × D):=[("NOUGHT",(D.tup [(D.int 0),(D.int 1)])),("FINE",(D.int 16777216))]
abbrev lks : List Str:=[]
def d_greatest : He.DefD:=⟨("greatest",none), "greatest", "greatest",defArgs (top 2),defBody (top 2),defScope (top 2),[],[]⟩
def d_frac : He.DefD:=⟨("frac",none), "frac", "frac",defArgs (top 3),defBody (top 3),defScope (top 3),[],[]⟩
def d_frac_plus : He.DefD:=⟨("frac_plus",none), "frac_plus", "frac_plus",defArgs (top 4),defBody (top 4),defScope (top 4),[],[]⟩
def d_frac_times : He.DefD:=⟨("frac_times",none), "frac_times", "frac_times",defArgs (top 5),defBody (top 5),defScope (top 5),[],[]⟩
def d_whole_root : He.DefD:=⟨("whole_root",none), "whole_root", "whole_root",defArgs (top 6),defBody (top 6),defScope (top 6),[],[]⟩
def d_gathered : He.DefD:=⟨("gathered",none), "gathered", "gathered",defArgs (top 9),defBody (top 9),defScope (top 9),[],[]⟩
def d_surd : He.DefD:=⟨("surd",none), "surd", "surd",defArgs (top 10),defBody (top 10),defScope (top 10),[],[]⟩
def d_added : He.DefD:=⟨("added",none), "added", "added",defArgs (top 11),defBody (top 11),defScope (top 11),[],[]⟩
def d_scaled_by : He.DefD:=⟨("scaled_by",none), "scaled_by", "scaled_by",defArgs (top 12),defBody (top 12),defScope (top 12),[],[]⟩
def d_opposite : He.DefD:=⟨("opposite",none), "opposite", "opposite",defArgs (top 13),defBody (top 13),defScope (top 13),[],[]⟩
def d_multiplied : He.DefD:=⟨("multiplied",none), "multiplied", "multiplied",defArgs (top 14),defBody (top 14),defScope (top 14),[],[]⟩
def d_least_prime : He.DefD:=⟨("least_prime",none), "least_prime", "least_prime",defArgs (top 15),defBody (top 15),defScope (top 15),[],[]⟩
def d_parted : He.DefD:=⟨("parted",none), "parted", "parted",defArgs (top 16),defBody (top 16),defScope (top 16),[],[]⟩
def d_norm_of : He.DefD:=⟨("norm_of",none), "norm_of", "norm_of",defArgs (top 17),defBody (top 17),defScope (top 17),[],[]⟩
def d_sign : He.DefD:=⟨("sign",none), "sign", "sign",defArgs (top 18),defBody (top 18),defScope (top 18),[],[]⟩
def d_below : He.DefD:=⟨("below",none), "below", "below",defArgs (top 19),defBody (top 19),defScope (top 19),[],[]⟩
def d_floor : He.DefD:=⟨("floor",none), "floor", "floor",defArgs (top 20),defBody (top 20),defScope (top 20),[],[]⟩
def d_figures : He.DefD:=⟨("figures",none), "figures", "figures",defArgs (top 21),defBody (top 21),defScope (top 21),[],[]⟩
def d__law_draw : He.DefD:=⟨("_law_draw",none), "_law_draw", "_law_draw",defArgs (top 23),defBody (top 23),defScope (top 23),[],[]⟩
def d__law_frac : He.DefD:=⟨("_law_frac",none), "_law_frac", "_law_frac",defArgs (top 25),defBody (top 25),defScope (top 25),[],[]⟩
def d__law_a_frac : He.DefD:=⟨("_law_a_frac",none), "_law_a_frac", "_law_a_frac",defArgs (top 26),defBody (top 26),defScope (top 26),[],[]⟩
def d__law_root : He.DefD:=⟨("_law_root",none), "_law_root", "_law_root",defArgs (top 27),defBody (top 27),defScope (top 27),[],[]⟩
def d__law_near : He.DefD:=⟨("_law_near",none), "_law_near", "_law_near",defArgs (top 28),defBody (top 28),defScope (top 28),[],[]⟩
def d__law_a_surd : He.DefD:=⟨("_law_a_surd",none), "_law_a_surd", "_law_a_surd",defArgs (top 29),defBody (top 29),defScope (top 29),[],[]⟩
def d__law_is : He.DefD:=⟨("_law_is",none), "_law_is", "_law_is",defArgs (top 30),defBody (top 30),defScope (top 30),[],[]⟩
def d__law_sign_of : He.DefD:=⟨("_law_sign_of",none), "_law_sign_of", "_law_sign_of",defArgs (top 31),defBody (top 31),defScope (top 31),[],[]⟩
def d__law_begun : He.DefD:=⟨("_law_begun",none), "_law_begun", "_law_begun",defArgs (top 24),defBody (top 24),defScope (top 24),[],[]⟩
def d_law : He.DefD:=⟨("law",none), "law", "law",defArgs (top 32),defBody (top 32),defScope (top 32),[],[]⟩
def fn : List He.DefD:=[d_greatest,d_frac,d_frac_plus,d_frac_times,d_whole_root,d_gathered,d_surd,d_added,d_scaled_by,d_opposite,d_multiplied,d_least_prime,d_parted,d_norm_of,d_sign,d_below,d_floor,d_figures,d__law_draw,d__law_frac,d__law_a_frac,d__law_root,d__law_near,d__law_a_surd,d__law_is,d__law_sign_of,d__law_begun,d_law]
abbrev fa : List He.Fa:=faOf fn exs hd
abbrev R : PySem.W.OpenRow:=PySem.W.OpenLaw.row PySem.Challenge.rw_formclear_k06_signs_of_surds
abbrev hk : PySem.W.Hook:=He.hookX 6 fa fn [] (tfOf hd lks) (exB hd lks exs cst)
def ob (s : PySem.W.SharedT) : He.AlX:=He.obsX 6 fa fn [] (tfOf hd lks) (exB hd lks exs cst) (HandSHeadRun.getT s)
def loose : List Str:=(["NOUGHT", "greatest", "frac", "frac_plus", "frac_times", "whole_root", "FINE", "gathered", "surd", "added", "scaled_by", "opposite", "multiplied", "least_prime", "parted", "norm_of", "sign", "below", "floor", "figures"] : List Str) ++ (["_law_draw", "_law_begun", "_law_frac", "_law_a_frac", "_law_root", "_law_near", "_law_a_surd", "_law_is", "_law_sign_of"] : List Str)
theorem run (w : World) : HandSHeadRun.RunEq R (PySem.W.view R.prog [32]) hk ob 4000 loose w:=by
 intro os
 kernel_rfl
end Lw
namespace Fm
open PySem
instance : Inhabited D:=⟨.non⟩
mutual
def D.py : D → PyData
 | .non=>.none
 | .bl b=>.bool b
 | .int i=>.int i
 | .str x=>.str x
 | .tup xs=>.tuple (pys xs)
 | .lst xs=>.list (pys xs)
 | .dct _=>.dict []
 | .tok=>.dict []
 | .scr _=>.dict []
 | .exc _=>.dict []
 | .dcn _=>.dict []
def pys : List D → List PyData
 | []=>[]
 | x :: xs=>x.py :: pys xs
end
def eqD (a b : D) : Bool:=PyData.eqv a.py b.py
def lay (a : D) : Bool:=PyData.canLay0 a.py
def dep (a : D) : Nat:=PyData.depth a.py
structure Tw where
 count : Int
 rests : List (Int × Int)
def lkT (r : List (Int × Int)) (k : Int) : Option Int:=(r.find? fun p=>decide (p.1 = k)).map (·.2)
def putT (r : List (Int × Int)) (k v : Int) : List (Int × Int):=
 if r.any (fun p=>decide (p.1 = k)) then r.map (fun p=>if p.1 = k then (p.1,v) else p) else r ++ [(k,v)]
inductive Res (α : Type) where
 | ok (a : α) (t : Tw)
 | exc (n : Nat) (t : Tw)
 | bad
def Res.bind {α β : Type} : Res α → (α → Tw → Res β) → Res β
 | .ok a t,f=>f a t
 | .exc n t,_=>.exc n t
 | .bad,_=>.bad
@[simp] theorem Res.bind_ok {α β : Type} (a : α) (t : Tw) (f : α → Tw → Res β) : (Res.ok a t).bind f = f a t:=rfl
@[simp] theorem Res.bind_exc {α β : Type} (n : Nat) (t : Tw) (f : α → Tw → Res β) : (Res.exc n t : Res α).bind f = .exc n t:=rfl
@[simp] theorem Res.bind_bad {α β : Type} (f : α → Tw → Res β) : (Res.bad : Res α).bind f = .bad:=rfl
def lift {α : Type} (o : Option α) (t : Tw) : Res α:=match o with
 | some a=>.ok a t
 | none=>.bad
@[simp] theorem lift_some {α : Type} (a : α) (t : Tw) : lift (some a) t = .ok a t:=rfl
@[simp] theorem lift_none {α : Type} (t : Tw) : lift (none : Option α) t = .bad:=rfl
def okMul (i j : Int) : Bool:=decide (i.natAbs.log2 + j.natAbs.log2 < 134000000)
def okDiv (j : Int) : Bool:=decide (j ≠ 0)
def okPow (i j : Int) : Bool:=decide (0 ≤ j) && decide (j ≤ 1000000) && decide (i.natAbs < 2 ^ 64)
def okLen (n : Nat) : Bool:=decide (n ≤ 16777216)
def addD : D → D → Option D
 | .int i,.int j=>some (.int (i + j))
 | .str x,.str y=>if okLen (x.length + y.length) then some (.str (x ++ y)) else none
 | .tup xs,.tup ys=>if okLen (xs.length + ys.length) then some (.tup (xs ++ ys)) else none
 | _,_=>none
def catD : D → D → Option D
 | .lst xs,.lst ys=>if okLen (xs.length + ys.length) then some (.lst (xs ++ ys)) else none
 | _,_=>none
def subD : D → D → Option D
 | .int i,.int j=>some (.int (i - j))
 | _,_=>none
def repL (n : Nat) (xs : List D) : List D:=(List.replicate n xs).flatten
def mulD : D → D → Option D
 | .int i,.int j=>if okMul i j then some (.int (i * j)) else none
 | .str x,.int n=>if decide (0 ≤ n) && decide (n ≤ 1000) && decide (x.length ≤ 1000) then some (.str (PySem.Txt.mul x n)) else none
 | .lst xs,.int n=>if decide (0 ≤ n) && decide (n ≤ 1000) && decide (xs.length ≤ 1000) then some (.lst (repL n.toNat xs)) else none
 | _,_=>none
def fdivD : D → D → Option D
 | .int i,.int j=>if okDiv j then some (.int (i.fdiv j)) else none
 | _,_=>none
def modD : D → D → Option D
 | .int i,.int j=>if j = 0 then none else some (.int (i.fmod j))
 | _,_=>none
def powD : D → D → Option D
 | .int i,.int j=>if okPow i j then some (.int (i ^ j.toNat)) else none
 | _,_=>none
def shlD : D → D → Option D
 | .int i,.int j=>if okPow i j then some (.int (i * 2 ^ j.toNat)) else none
 | _,_=>none
def negD : D → Option D
 | .int i=>some (.int (-i))
 | _=>none
def truD : D → Option Bool
 | .non=>some false
 | .bl b=>some b
 | .int i=>some (i != 0)
 | .str x=>if okLen x.length then some ((x.length : Int) != 0) else none
 | .tup xs=>some (!xs.isEmpty)
 | .lst xs=>some (!xs.isEmpty)
 | .scr ns=>some (!ns.isEmpty)
 | _=>none
def notD (a : D) : Option D:=(truD a).map fun b=>.bl (!b)
def okEq (a b : D) : Bool:=lay a && lay b && decide (min (dep a) (dep b) ≤ 190)
def eqOp (a b : D) : Option D:=if okEq a b then some (.bl (eqD a b)) else none
def neOp (a b : D) : Option D:=if okEq a b then some (.bl (!eqD a b)) else none
def okLt (a b : D) : Bool:=lay a && lay b && PySem.W.alike a.py b.py && decide (min (dep a) (dep b) ≤ 190)
def ltOp : D → D → Option D
 | .int i,.int j=>some (.bl (decide (i < j)))
 | .str x,.str y=>some (.bl (decide (x.cps.toList < y.cps.toList)))
 | .tup xs,.tup ys=>if okLt (.tup xs) (.tup ys) then some (.bl (PySem.W.dataLt (D.py (.tup xs)) (D.py (.tup ys)))) else none
 | _,_=>none
def leOp : D → D → Option D
 | .int i,.int j=>some (.bl (decide (i ≤ j)))
 | _,_=>none
def gtOp : D → D → Option D
 | .int i,.int j=>some (.bl (decide (j < i)))
 | _,_=>none
def geOp : D → D → Option D
 | .int i,.int j=>some (.bl (decide (j ≤ i)))
 | _,_=>none
def inB : D → D → Option Bool
 | a,.tup xs=>if lay a && (xs.all lay) && decide (dep a ≤ 190) then some (xs.any fun z=>eqD z a) else none
 | a,.lst xs=>if lay a && (xs.all lay) && decide (dep a ≤ 190) then some (xs.any fun z=>eqD z a) else none
 | .str x,.str y=>if decide (x.cps.size = 1) then some (decide (x.cps.getD 0 0 ∈ y.cps.toList)) else none
 | _,_=>none
def isN (a : D) : Bool:=match a with
 | .non=>true
 | _=>false
def cmpD : CmpOp → D → D → Option D
 | .Eq,a,b=>eqOp a b
 | .NotEq,a,b=>neOp a b
 | .Lt,a,b=>ltOp a b
 | .LtE,a,b=>leOp a b
 | .Gt,a,b=>gtOp a b
 | .GtE,a,b=>geOp a b
 | .Is,a,.non=>some (.bl (isN a))
 | .Is,.bl c,.bl b=>some (.bl (c == b))
 | .IsNot,a,.non=>some (.bl (!isN a))
 | .IsNot,.bl c,.bl b=>some (.bl (!(c == b)))
 | .In,a,b=>(inB a b).map .bl
 | .NotIn,a,b=>(inB a b).map fun r=>.bl (!r)
 | _,_,_=>none
mutual
def nkD : D → Option NestedKey
 | .non=>some .none
 | .int i=>some (.num i)
 | .str x=>some (.text x)
 | .tup xs=>(nkDs xs).map .tup
 | _=>none
def nkDs : List D → Option (List NestedKey)
 | []=>some []
 | x :: xs=>(nkD x).bind fun k=>(nkDs xs).map (k :: ·)
end
mutual
def kdN : NestedKey → D
 | .none=>.non
 | .num i=>.int i
 | .text x=>.str x
 | .tup ks=>.tup (kdNs ks)
def kdNs : List NestedKey → List D
 | []=>[]
 | k :: ks=>kdN k :: kdNs ks
end
def keyT : D → Option NestedKey
 | .tup xs=>(nkD (.tup xs)).bind fun k=>if decide (k.depth ≤ 8) then some k else none
 | _=>none
def lookN (kvs : List (NestedKey × D)) (k : NestedKey) : Option D:=(kvs.find? fun kv=>decide (kv.1 = k)).map (·.2)
def putN (kvs : List (NestedKey × D)) (k : NestedKey) (d : D) : List (NestedKey × D):=
 if kvs.any (fun kv=>decide (kv.1 = k)) then kvs.map (fun kv=>if kv.1 = k then (kv.1,d) else kv) else kvs ++ [(k,d)]
def keyD : D → Option Key
 | .int i=>some (.inl i)
 | .str x=>some (.inr x)
 | _=>none
def lookD (kvs : List (Key × D)) (k : Key) : Option D:=(kvs.find? fun kv=>decide (kv.1 = k)).map (·.2)
def putD (kvs : List (Key × D)) (k : Key) (d : D) : List (Key × D):=
 if kvs.any (fun kv=>decide (kv.1 = k)) then kvs.map (fun kv=>if kv.1 = k then (kv.1,d) else kv) else kvs ++ [(k,d)]
def mergeD (kvs : List (Key × D)) : List (Str × D) → List (Key × D)
 | []=>kvs
 | p :: r=>mergeD (putD kvs (.inr p.1) p.2) r
def ixD : D → D → Option D
 | .scr ns,.int i=>(L2.atI ns i).map D.int
 | .tup xs,.int i=>L2.atI xs i
 | .lst xs,.int i=>L2.atI xs i
 | .str x,.int i=>if okLen x.length then (L2.atI x.cps.toList i).map fun c=>.str ⟨#[c]⟩ else none
 | _,_=>none
def dixD : D → D → Option D
 | .dct kvs,k=>(keyD k).bind fun k=>lookD kvs k
 | .dcn kvs,k=>(keyT k).bind fun k=>lookN kvs k
 | _,_=>none
def cutL {α : Type} (xs : List α) (lo hi : Option Int) : List α:=(xs.drop (HT.sIx xs.length 0 lo)).take (HT.sIx xs.length xs.length hi - HT.sIx xs.length 0 lo)
def optI : Option D → Option (Option Int)
 | none=>some none
 | some (.int i)=>some (some i)
 | _=>none
def cutD (a : D) (l h : Option Int) : Option D:=match a with
 | .tup xs=>some (.tup (cutL xs l h))
 | .lst xs=>some (.lst (cutL xs l h))
 | _=>none
def revD : D → Option D
 | .tup xs=>some (.tup xs.reverse)
 | .lst xs=>some (.lst xs.reverse)
 | _=>none
def lenD : D → Option D
 | .tup xs=>some (.int xs.length)
 | .lst xs=>some (.int xs.length)
 | .str x=>if okLen x.length then some (.int x.length) else none
 | .scr ns=>some (.int ns.length)
 | _=>none
inductive Ty where
 | int | bool | str | tuple | list
def Ty.name : Ty → String
 | .int=>"int"
 | .bool=>"bool"
 | .str=>"str"
 | .tuple=>"tuple"
 | .list=>"list"
def isaD (a : D) (T : Ty) : Option Bool:=match a,T with
 | .tok,_=>none
 | .scr _,_=>none
 | .exc _,_=>none
 | .dct _,_=>none
 | .dcn _,_=>none
 | .bl _,.bool=>some true
 | .bl _,.int=>some true
 | .int _,.int=>some true
 | .str _,.str=>some true
 | .tup _,.tuple=>some true
 | .lst _,.list=>some true
 | _,_=>some false
inductive Blt where
 | len | abs | all | any | sum | max | tuple | list | sorted | int | dictN | dictK | klist
def bls : List D → Option (List Bool)
 | []=>some []
 | .bl b :: r=>(bls r).map (b :: ·)
 | _ :: _=>none
def intsD : List D → Option (List Int)
 | []=>some []
 | .int i :: r=>(intsD r).map (i :: ·)
 | _ :: _=>none
def insI (x : Int) : List Int → List Int
 | []=>[x]
 | y :: r=>if x ≤ y then x :: y :: r else y :: insI x r
def srtI : List Int → List Int
 | []=>[]
 | x :: r=>insI x (srtI r)
def keysI : List (Key × D) → Option (List Int)
 | []=>some []
 | (.inl i,_) :: r=>(keysI r).map (i :: ·)
 | _ :: _=>none
def prsN : List D → Option (List (NestedKey × D))
 | []=>some []
 | .tup [k,v] :: r=>(keyT k).bind fun k=>(prsN r).map ((k,v) :: ·)
 | _ :: _=>none
def putsN (es : List (NestedKey × D)) : List (NestedKey × D) → List (NestedKey × D)
 | []=>es
 | p :: r=>putsN (putN es p.1 p.2) r
def prsK : List D → Option (List (Key × D))
 | []=>some []
 | .tup [k,v] :: r=>(keyD k).bind fun k=>(prsK r).map ((k,v) :: ·)
 | _ :: _=>none
def joinD (kvs : List (Key × D)) : List (Key × D) → List (Key × D)
 | []=>kvs
 | p :: r=>joinD (putD kvs p.1 p.2) r
def maxI : Int → List Int → Int
 | m,[]=>m
 | m,x :: r=>maxI (if m < x then x else m) r
def blt1 : Blt → D → Option D
 | .dictK,.tup xs=>(prsK xs).map fun ps=>.dct (joinD [] ps)
 | .dictK,.lst xs=>(prsK xs).map fun ps=>.dct (joinD [] ps)
 | .dictN,.tup xs=>(prsN xs).map fun ps=>.dcn (putsN [] ps)
 | .dictN,.lst xs=>(prsN xs).map fun ps=>.dcn (putsN [] ps)
 | .len,a=>lenD a
 | .abs,.int i=>some (.int (if i < 0 then -i else i))
 | .all,.lst xs=>(bls xs).map fun bs=>.bl (bs.all id)
 | .any,.lst xs=>(bls xs).map fun bs=>.bl (bs.any id)
 | .sum,.lst xs=>(intsD xs).map fun ns=>.int ns.sum
 | .max,.lst xs=>(intsD xs).bind fun ns=>match ns with
  | []=>none
  | n :: r=>some (.int (maxI n r))
 | .tuple,.lst xs=>some (.tup xs)
 | .tuple,.tup xs=>some (.tup xs)
 | .list,.lst xs=>some (.lst xs)
 | .list,.tup xs=>some (.lst xs)
 | .klist,.dcn es=>some (.lst (es.map fun p=>kdN p.1))
 | .int,.int i=>some (.int i)
 | .int,.bl b=>some (.int (if b then 1 else 0))
 | .int,.str x=>if decide (x.length ≤ 640) then (PySem.intText? x).map D.int else none
 | .sorted,.lst xs=>(intsD xs).map fun ns=>.lst ((srtI ns).map D.int)
 | .sorted,.dct kvs=>(keysI kvs).bind fun ns=>if decide (ns.length < 64) then some (.lst ((srtI ns).map D.int)) else none
 | _,_=>none
def strsD : List D → Option (List Str)
 | []=>some []
 | .str x :: r=>(strsD r).map (x :: ·)
 | _ :: _=>none
def idxD : Bool → D → D → Option D
 | false,.tup xs,.str z=>(strsD xs).bind fun ys=>if decide (z ∈ ys) then some (.int (ys.idxOf z : Nat)) else none
 | true,.lst xs,.str z=>(strsD xs).bind fun ys=>if decide (z ∈ ys) && (lay (.lst xs) && lay (.str z)) then some (.int (ys.idxOf z : Nat)) else none
 | true,.lst xs,.tup ys=>if (lay (.lst xs) && lay (.tup ys)) && (decide (dep (.lst xs) ≤ 64) && decide (dep (.tup ys) ≤ 64)) then (xs.findIdx? fun z=>eqD z (.tup ys)).map fun i=>.int (i : Nat) else none
 | _,_,_=>none
def isSq : Bool → D → Bool
 | false,.tup _=>true
 | true,.lst _=>true
 | _,_=>false
inductive Cst where
 | non | bl (b : Bool) | int (i : Int) | str (x : Str)
def Cst.d : Cst → D
 | .non=>.non
 | .bl b=>.bl b
 | .int i=>.int i
 | .str x=>.str x
mutual
inductive E where
 | cst (c : Cst)
 | var (i : Nat)
 | bor (i : Nat)
 | glob (g : Nat)
 | bin (op : Operator) (a b : E)
 | neg (a : E)
 | not (a : E)
 | and (a b : E)
 | or (a b : E)
 | ite (c a b : E)
 | cmp (op : CmpOp) (a b : E)
 | chain (o1 o2 : CmpOp) (a b c : E)
 | ix (a b : E)
 | dix (a b : E)
 | cat (a b : E)
 | cut (a : E) (lo hi : O)
 | tup (es : Es)
 | lst (es : Es)
 | call (c : Nat) (es ks : Es)
 | blt (b : Blt) (a : E)
 | isa (a : E) (T : Ty)
 | comp (own : List (Str × Nat)) (elt : E) (tg : Tg) (it : I) (cd : O)
 | get (a k d : E)
 | tcount (i : Nat)
 | tget (i : Nat) (k d : E)
 | dsp (kvs : List (Str × Cst))
 | rev (a : E)
 | heard (e : E)
 | nost (e : E)
 | isx (a : E) (n : Nat)
 | isv (a : E)
 | dspE (ks : List Str) (es : Es)
 | dn0
 | idxG (g : Nat) (b : E)
 | idx (a b : E)
 | comp2 (own : List (Str × Nat)) (elt : E) (tg : Tg) (it : I) (tg1 : Tg) (it1 : I)
 | sortK (a : E) (N : List Str) (e : E)
 | sortC (a : E) (x : Str) (e : E)
 | sortN (a : E) (N : List Str) (e : E)
 | dn2 (k v l w : E)
 | dcomp2 (own : List (Str × Nat)) (k v : E) (tg : Tg) (it : I) (tg1 : Tg) (it1 : I)
 | bad
 | dn1 (k v : E)
 | ind (neg : Bool) (a b : E)
 | sitems (a : E)
 | dcomp (own : List (Str × Nat)) (k v : E) (tg : Tg) (it : I)
 | dcompK (own : List (Str × Nat)) (k v : E) (tg : Tg) (it : I)
 | maxd (a b : E)
 | maxK (a : E) (x : Str) (e : E)
 | mml (mx : Bool) (a b : E)
 | split (a b : E)
 | stp (a : E) (lo hi : Option Int) (st : Int)
 | compX (own : List (Str × Nat)) (elt : E) (tg : Tg) (it : I)
 | sset (a : E)
 | pset (a : E)
 | iset (a : E)
 | slen (a : E)
 | sortL (a : E)
 | sset2 (own : List (Str × Nat)) (elt : E) (tg : Tg) (it : I) (tg1 : Tg) (it1 : I)
inductive O where
 | none
 | some (e : E)
inductive Es where
 | nil
 | cons (e : E) (es : Es)
inductive I where
 | val (e : E)
 | rng1 (a : E)
 | rng2 (a b : E)
 | zip (a b : E)
 | enum (a : E)
 | zipN (a b : E)
 | keys (a : E)
 | enumT (a : E)
 | zipS (a b : E)
inductive Tg where
 | name (i : Nat)
 | tup (ts : Tgs)
inductive Tgs where
 | nil
 | cons (t : Tg) (ts : Tgs)
end
mutual
inductive S where
 | asg (tg : Tg) (e : E)
 | par (is : List Nat) (es : Es)
 | star (i j : Nat) (e : E)
 | aug (i : Nat) (op : Operator) (e : E)
 | ret (e : E)
 | ite (c : E) (a b : Ss)
 | for (tg : Tg) (it : I) (b : Ss)
 | while (c : E) (b : Ss)
 | exp (e : E)
 | new (i : Nat) (e : E)
 | app (i : Nat) (e : E)
 | put (i : Nat) (k e : E)
 | upd (i : Nat) (e : E)
 | ins (i : Nat) (k e : E)
 | uns (is : List Nat) (j : Nat) (es : Es)
 | pnl (b : Bool) (j i : Nat) (e : E)
 | p3t (i j l : Nat) (e1 e2 : E)
 | p3f (i j l : Nat) (e : E)
 | putL (i : Nat) (k e : E)
 | frz (i : Nat)
 | tcnt (i : Nat) (e : E)
 | trst (i : Nat) (k e : E)
 | brk
 | cont
 | raise (n : Nat) (x : Str)
 | raiseE (n : Nat) (a : E)
 | tryN (b : Ss)
 | tryX (ns : List Nat) (i : Nat) (b : Ss)
 | ext (i : Nat) (e : E)
 | pop (i : Nat)
 | swp (i : Nat) (e1 e2 v : E)
 | bad
inductive Ss where
 | nil
 | cons (s : S) (r : Ss)
end
mutual
def Tg.slots : Tg → List Nat
 | .name i=>[i]
 | .tup ts=>ts.slots
def Tgs.slots : Tgs → List Nat
 | .nil=>[]
 | .cons t ts=>t.slots ++ ts.slots
end
inductive Sl where
 | un
 | val (d : D)
 | own (d : D)
abbrev Rho:=List Sl
def valsR (r : Rho) : Rho:=r.map fun s=>match s with
 | .own _=>.un
 | s=>s
def wipeR (r : Rho) : List Nat → Rho
 | []=>r
 | v :: vs=>(wipeR r vs).set v .un
mutual
def setT : Tg → D → Rho → Option Rho
 | .name i,d,r=>if decide (i < r.length) then some (r.set i (.val d)) else none
 | .tup ts,.tup xs,r=>setTs ts xs r
 | .tup ts,.lst xs,r=>setTs ts xs r
 | .tup _,_,_=>none
def setTs : Tgs → List D → Rho → Option Rho
 | .nil,[],r=>some r
 | .cons t ts,x :: xs,r=>(setT t x r).bind fun r1=>setTs ts xs r1
 | _,_,_=>none
end
def consO (o : Option D) (xs : List D) : List D:=match o with
 | some x=>x :: xs
 | none=>xs
def compL (f : D → Tw → Res (Option D)) : List D → Tw → Res (List D)
 | [],t=>.ok [] t
 | d :: r,t=>match f d t with
  | .ok o t1=>(compL f r t1).bind fun xs t2=>.ok (consO o xs) t2
  | _=>.bad
def compXL (f : D → Tw → Res D) : List D → Tw → Res (List D)
 | [],t=>.ok [] t
 | d :: r,t=>(f d t).bind fun x t1=>(compXL f r t1).bind fun xs t2=>.ok (x :: xs) t2
def comp2L (f : D → Tw → Res (List D)) : List D → Tw → Res (List D)
 | [],t=>.ok [] t
 | d :: r,t=>match f d t with
  | .ok ys t1=>(comp2L f r t1).bind fun zs t2=>.ok (ys ++ zs) t2
  | _=>.bad
def startR (N : List Str) (ds : List D) : Rho:=ds.map .val ++ List.replicate (N.length - ds.length) .un
def ltS (x y : Str) : Bool:=PySem.Spec.ltCps x.cps.toList y.cps.toList
def insU (x : Str) : List Str → List Str
 | []=>[x]
 | y :: r=>if x = y then y :: r else if ltS x y then x :: y :: r else y :: insU x r
def minI : Int → List Int → Int
 | m,[]=>m
 | m,x :: r=>minI (if x < m then x else m) r
def mmI (mx : Bool) (n : Int) (ns : List Int) : Int:=if mx then maxI n ns else minI n ns
def sqOf : D → Option (List D)
 | .tup xs=>some xs
 | .lst xs=>some xs
 | _=>none
def bestK : D → D → List D → List D → D
 | b,_,[],_=>b
 | b,_,_ :: _,[]=>b
 | b,bk,x :: xs,k :: ks=>if PySem.W.dataLt bk.py k.py then bestK x k xs ks else bestK b bk xs ks
def bestD : List D → List D → Option D
 | x :: xs,k :: ks=>some (bestK x k xs ks)
 | _,_=>none
def insP (x : Int × Int) : List (Int × Int) → List (Int × Int)
 | []=>[x]
 | y :: r=>if x = y then y :: r else if x.1 < y.1 ∨ (x.1 = y.1 ∧ x.2 < y.2) then x :: y :: r else y :: insP x r
def psort (ps : List (Int × Int)) : List (Int × Int):=ps.foldr insP []
def insJ (x : Int) : List Int → List Int
 | []=>[x]
 | y :: r=>if x = y then y :: r else if x < y then x :: y :: r else y :: insJ x r
def jsort (l : List Int) : List Int:=l.foldr insJ []
def pD (q : Int × Int) : D:=.tup [.int q.1,.int q.2]
def prsI : List D → Option (List (Int × Int))
 | []=>some []
 | .tup [.int x,.int y] :: r=>(prsI r).map ((x,y) :: ·)
 | _ :: _=>none
def usort (ss : List Str) : List Str:=ss.foldr insU []
def ixL (lo hi : Option Int) (st : Int) (n : Nat) : List Nat:=PySem.sliceRange (PySem.sliceBounds lo hi (some st) n).1 (PySem.sliceBounds lo hi (some st) n).2.1 (PySem.sliceBounds lo hi (some st) n).2.2
def ixT (lo hi : Option Int) (st : Int) (n : Nat) : List Nat:=(List.range (PySem.Builtin.Slice.slicePlaces (PySem.Builtin.Slice.sliceAdjust lo hi st n).1 (PySem.Builtin.Slice.sliceAdjust lo hi st n).2 st)).map fun (k : Nat)=>((PySem.Builtin.Slice.sliceAdjust lo hi st n).1 + (k : Int) * st).toNat
def pk {α : Type} (ix : List Nat) (xs : List α) : List α:=ix.filterMap (xs[·]?)
def stpD (lo hi : Option Int) (st : Int) : D → Option D
 | .tup xs=>if decide ((ixT lo hi st xs.length).length ≤ 1000000) then some (.tup (pk (ixT lo hi st xs.length) xs)) else none
 | .lst xs=>if decide ((ixL lo hi st xs.length).length ≤ 1000000) then some (.lst (pk (ixL lo hi st xs.length) xs)) else none
 | _=>none
def isTxt : D → Bool
 | .str _=>true
 | _=>false
def splitD : D → D → Option D
 | .str x,.str z=>if decide (z.length ≠ 0) && decide (x.length ≤ 1000) then some (.lst ((PySem.Txt.split x z).map D.str)) else none
 | _,_=>none
def okKeys (ks : List D) : Bool:=ks.all (fun a=>lay a && decide (dep a ≤ 190) && ks.all fun b=>PySem.W.alike a.py b.py) && (ks.all (fun a=>match a with
 | .tup (_ :: _)=>true
 | _=>false) || ks.all fun a=>match a with
 | .non=>false
 | .tup _=>false
 | _=>true)
def leK (a b : D × D) : Bool:=!PySem.W.dataLt b.2.py a.2.py
def sortD (xs ks : List D) : List D:=((xs.zip ks).mergeSort leK).map (·.1)
def strD (x : Str) : List D:=x.cps.toList.map fun c=>.str ⟨#[c]⟩
def rngD (lo : Int) (n : Nat) : List D:=(List.range n).map fun k=>.int (lo + (k : Nat))
def okRng (i : Int) : Bool:=decide (-(2 ^ 62) ≤ i) && decide (i < 2 ^ 62)
def zipD : List D → List D → List D
 | x :: xs,y :: ys=>.tup [x,y] :: zipD xs ys
 | _,_=>[]
def enumD (k : Nat) : List D → List D
 | []=>[]
 | x :: xs=>.tup [.int (k : Nat),x] :: enumD (k + 1) xs
structure Gam where
 lv : Nat
 f : Nat → Nat → List D → List D → Tw → Res D
def Gam.low (G : Gam) : Gam:=⟨G.lv - 2,fun d=>G.f (d + 2)⟩
def hWord : Nat → Str
 | 0=>"no root"
 | 1=>"no form"
 | 2=>"by nought"
 | 3=>"no quotient"
 | 4=>"no name"
 | 5=>"no path"
 | 6=>"spent"
 | 7=>"bad word"
 | 8=>"no text"
 | _=>"is wrong"
def heardR : Res D → Res D
 | .ok v t=>.ok (.tup [.str "told",v]) t
 | .exc n t=>if decide (n < 9) then .ok (.tup [.str (hWord n)]) t else .bad
 | .bad=>.bad
def nostR : Res D → Res D
 | .exc n t=>if decide (n < 9) then .ok (.bl (decide (n = 8))) t else .bad
 | _=>.bad
def isxD (a : D) (n : Nat) : Option D:=match a with
 | .exc m=>if decide (m < 9) && decide (n < 9) then some (.bl (decide (m = n))) else none
 | _=>none
def isvD : D → Option D
 | .exc m=>if decide (m < 9) then some (.bl true) else none
 | _=>none
def kD : Key → D
 | .inl i=>.int i
 | .inr x=>.str x
def itmD (kvs : List (Key × D)) : List D:=kvs.map fun p=>.tup [kD p.1,p.2]
def binD : Operator → D → D → Option D
 | .Add,a,b=>addD a b
 | .Sub,a,b=>subD a b
 | .Mult,a,b=>mulD a b
 | .FloorDiv,a,b=>fdivD a b
 | .Mod,a,b=>modD a b
 | .Pow,a,b=>powD a b
 | .LShift,a,b=>shlD a b
 | _,_,_=>none
mutual
def ev (G : Gam) (cs : Nat → D) : E → Rho → Tw → Res D
 | .cst c,_,t=>.ok c.d t
 | .var i,r,t=>match r[i]? with
  | some (.val d)=>.ok d t
  | _=>.bad
 | .bor i,r,t=>match r[i]? with
  | some (.val d)=>.ok d t
  | some (.own d)=>.ok d t
  | _=>.bad
 | .glob g,_,t=>.ok (cs g) t
 | .bin op a b,r,t=>(ev G cs a r t).bind fun x t1=>(ev G cs b r t1).bind fun y t2=>lift (binD op x y) t2
 | .neg a,r,t=>(ev G cs a r t).bind fun x t1=>lift (negD x) t1
 | .not a,r,t=>(ev G cs a r t).bind fun x t1=>lift (notD x) t1
 | .and a b,r,t=>(ev G cs a r t).bind fun x t1=>match truD x with
  | some true=>ev G cs b r t1
  | some false=>.ok x t1
  | none=>.bad
 | .or a b,r,t=>(ev G cs a r t).bind fun x t1=>match truD x with
  | some true=>.ok x t1
  | some false=>ev G cs b r t1
  | none=>.bad
 | .ite c a b,r,t=>(ev G cs c r t).bind fun x t1=>match truD x with
  | some true=>ev G cs a r t1
  | some false=>ev G cs b r t1
  | none=>.bad
 | .cmp op a b,r,t=>(ev G cs a r t).bind fun x t1=>(ev G cs b r t1).bind fun y t2=>lift (cmpD op x y) t2
 | .chain o1 o2 a b c,r,t=>(ev G cs a r t).bind fun x t1=>(ev G cs b r t1).bind fun y t2=>match cmpD o1 x y with
  | some (.bl true)=>(ev G cs c r t2).bind fun z t3=>lift (cmpD o2 y z) t3
  | some (.bl false)=>.ok (.bl false) t2
  | _=>.bad
 | .ix a b,r,t=>(ev G cs a r t).bind fun x t1=>(ev G cs b r t1).bind fun y t2=>lift (ixD x y) t2
 | .dix a b,r,t=>(ev G cs a r t).bind fun x t1=>(ev G cs b r t1).bind fun y t2=>lift (dixD x y) t2
 | .cat a b,r,t=>(ev G cs a r t).bind fun x t1=>(ev G cs b r t1).bind fun y t2=>lift (catD x y) t2
 | .cut a lo hi,r,t=>(ev G cs a r t).bind fun x t1=>(evO G cs lo r t1).bind fun l t2=>(lift (optI l) t2).bind fun l t2=>(evO G cs hi r t2).bind fun h t3=>(lift (optI h) t3).bind fun h t3=>lift (cutD x l h) t3
 | .tup es,r,t=>(evs G cs es r t).bind fun xs t1=>if okLen xs.length then .ok (.tup xs) t1 else .bad
 | .lst es,r,t=>(evs G cs es r t).bind fun xs t1=>if okLen xs.length then .ok (.lst xs) t1 else .bad
 | .call c es ks,r,t=>(evs G cs es r t).bind fun xs t1=>(evs G cs ks r t1).bind fun ys t2=>G.f 0 c xs ys t2
 | .blt b a,r,t=>(ev G cs a r t).bind fun x t1=>lift (blt1 b x) t1
 | .isa a T,r,t=>(ev G cs a r t).bind fun x t1=>lift ((isaD x T).map D.bl) t1
 | .comp own elt tg it cd,r,t=>(evI G cs it r t).bind fun xs t1=>if okLen xs.length then
   (compL (fun d t=>match setT tg d (wipeR r (own.map (·.2))) with
    | some r2=>(evO G cs cd r2 t).bind fun o t=>match o with
     | none=>(ev G cs elt r2 t).bind fun x t=>.ok (some x) t
     | some y=>match truD y with
      | some true=>(ev G cs elt r2 t).bind fun x t=>.ok (some x) t
      | some false=>.ok none t
      | none=>.bad
    | none=>.bad) xs t1).bind fun ys t2=>.ok (.lst ys) t2 else .bad
 | .compX own elt tg it,r,t=>(evI G cs it r t).bind fun xs t1=>if okLen xs.length then
   (compXL (fun d t=>match setT tg d (wipeR r (own.map (·.2))) with
    | some r2=>ev G cs elt r2 t
    | none=>.bad) xs t1).bind fun ys t2=>.ok (.lst ys) t2 else .bad
 | .get a k d,r,t=>(ev G cs a r t).bind fun x t1=>match x with
  | .dct kvs=>(ev G cs k r t1).bind fun y t2=>(ev G cs d r t2).bind fun z t3=>(match keyD y with
   | some k=>.ok ((lookD kvs k).getD z) t3
   | none=>.bad)
  | .dcn kvs=>(ev G cs k r t1).bind fun y t2=>(ev G cs d r t2).bind fun z t3=>(match keyT y with
   | some k=>.ok ((lookN kvs k).getD z) t3
   | none=>.bad)
  | _=>.bad
 | .tcount i,r,t=>match r[i]? with
  | some (.val .tok)=>.ok (.int t.count) t
  | _=>.bad
 | .tget i k d,r,t=>match r[i]? with
  | some (.val .tok)=>(ev G cs k r t).bind fun y t1=>(ev G cs d r t1).bind fun z t2=>(match y,z with
   | .int a,.int b=>.ok (.int ((lkT t2.rests a).getD b)) t2
   | _,_=>.bad)
  | _=>.bad
 | .dsp kvs,r,t=>if decide (kvs.length ≤ 15) then .ok (.dct (mergeD [] (kvs.map fun p=>(p.1,p.2.d)))) t else .bad
 | .stp a lo hi st,r,t=>(ev G cs a r t).bind fun x t1=>lift (stpD lo hi st x) t1
 | .rev a,r,t=>(ev G cs a r t).bind fun x t1=>lift (revD x) t1
 | .heard e,r,t=>if decide (2 ≤ G.lv) then heardR (ev G.low cs e (valsR r) t) else .bad
 | .nost e,r,t=>if decide (2 ≤ G.lv) then nostR (ev G.low cs e (valsR r) t) else .bad
 | .isx a n,r,t=>(ev G cs a r t).bind fun x t1=>lift (isxD x n) t1
 | .isv a,r,t=>(ev G cs a r t).bind fun x t1=>lift (isvD x) t1
 | .idxG g b,r,t=>if isSq false (cs g) then (ev G cs b r t).bind fun y t1=>lift (idxD false (cs g) y) t1 else .bad
 | .split a b,r,t=>(ev G cs a r t).bind fun x t1=>if isTxt x then (ev G cs b r t1).bind fun y t2=>lift (splitD x y) t2 else .bad
 | .idx a b,r,t=>(ev G cs a r t).bind fun x t1=>if isSq true x then (ev G cs b r t1).bind fun y t2=>lift (idxD true x y) t2 else .bad
 | .comp2 own elt tg it tg1 it1,r,t=>(evI G cs it r t).bind fun xs t1=>if okLen xs.length then
   (comp2L (fun d t=>match setT tg d (wipeR r (own.map (·.2))) with
    | some r2=>(match evI G cs it1 r2 t with
     | .ok es t1=>if okLen es.length then compL (fun d t=>match setT tg1 d (wipeR r2 tg1.slots) with
      | some r3=>(ev G cs elt r3 t).bind fun x t=>.ok (some x) t
      | none=>.bad) es t1 else .bad
     | _=>.bad)
    | none=>.bad) xs t1).bind fun ys t2=>if okLen ys.length then .ok (.lst ys) t2 else .bad else .bad
 | .sset2 own elt tg it tg1 it1,r,t=>(evI G cs it r t).bind fun xs t1=>if okLen xs.length then
   (comp2L (fun d t=>match setT tg d (wipeR r (own.map (·.2))) with
    | some r2=>(match evI G cs it1 r2 t with
     | .ok es t1=>if okLen es.length then compL (fun d t=>match setT tg1 d (wipeR r2 tg1.slots) with
      | some r3=>(ev G cs elt r3 t).bind fun x t=>.ok (some x) t
      | none=>.bad) es t1 else .bad
     | _=>.bad)
    | none=>.bad) xs t1).bind fun ys t2=>(match strsD ys with
     | some ss=>if decide (ss.length < 63) then .ok (.lst ((usort ss).map D.str)) t2 else .bad
     | none=>.bad) else .bad
 | .dn0,r,t=>.ok (.dcn []) t
 | .bad,r,t=>.bad
 | .dn1 k v,r,t=>(ev G cs k r t).bind fun x t1=>(ev G cs v r t1).bind fun y t2=>match keyT x with
  | some k=>.ok (.dcn [(k,y)]) t2
  | none=>.bad
 | .dcomp own k v tg it,r,t=>(evI G cs it r t).bind fun xs t1=>if okLen xs.length then
   (compL (fun d t=>match setT tg d (wipeR r (own.map (·.2))) with
    | some r2=>((ev G cs k r2 t).bind fun x t1=>(ev G cs v r2 t1).bind fun y t2=>.ok (.tup [x,y]) t2).bind fun x t=>.ok (some x) t
    | none=>.bad) xs t1).bind fun ys t2=>(match prsN ys with
     | some ps=>.ok (.dcn (putsN [] ps)) t2
     | none=>.bad) else .bad
 | .dcompK own k v tg it,r,t=>(evI G cs it r t).bind fun xs t1=>if okLen xs.length then
   (compL (fun d t=>match setT tg d (wipeR r (own.map (·.2))) with
    | some r2=>((ev G cs k r2 t).bind fun x t1=>(ev G cs v r2 t1).bind fun y t2=>.ok (.tup [x,y]) t2).bind fun x t=>.ok (some x) t
    | none=>.bad) xs t1).bind fun ys t2=>(match prsK ys with
     | some ps=>.ok (.dct (joinD [] ps)) t2
     | none=>.bad) else .bad
 | .maxd a b,r,t=>(ev G cs a r t).bind fun x t1=>(ev G cs b r t1).bind fun d t2=>match x with
  | .dct kvs=>(match keysI kvs with
   | some []=>.ok d t2
   | some (n :: ns)=>.ok (.int (maxI n ns)) t2
   | none=>.bad)
  | _=>.bad
 | .maxK a _ e,r,t=>if decide (2 ≤ G.lv) then (ev G cs a r t).bind fun x t1=>match x with
  | .tup xs=>(compL (fun d t=>(ev G.low cs e (.val d :: valsR r) t).bind fun x t=>.ok (some x) t) xs t1).bind fun ks t2=>if okKeys ks || decide (ks.length ≤ 1) then lift (bestD xs ks) t2 else .bad
  | _=>.bad
  else .bad
 | .mml mx a b,r,t=>(ev G cs a r t).bind fun x t1=>(ev G cs b r t1).bind fun d t2=>match x with
  | .lst xs=>(match intsD xs with
   | some []=>.ok d t2
   | some (n :: ns)=>.ok (.int (mmI mx n ns)) t2
   | none=>.bad)
  | _=>.bad
 | .sset a,r,t=>(ev G cs a r t).bind fun x t1=>match x with
  | .lst xs=>(match strsD xs with
   | some ss=>if decide (ss.length < 63) then .ok (.lst ((usort ss).map D.str)) t1 else .bad
   | none=>.bad)
  | .tup xs=>(match strsD xs with
   | some ss=>if decide (ss.length < 63) then .ok (.lst ((usort ss).map D.str)) t1 else .bad
   | none=>.bad)
  | _=>.bad
 | .sortL a,r,t=>(ev G cs a r t).bind fun x t1=>match x with
  | .lst xs=>if okKeys xs then .ok (.lst (sortD xs xs)) t1 else .bad
  | _=>.bad
 | .slen a,r,t=>(ev G cs a r t).bind fun x t1=>match x with
  | .tup xs=>(match strsD xs with
   | some ss=>if decide (ss.length < 63) then .ok (.int ((usort ss).length : Nat)) t1 else .bad
   | none=>.bad)
  | _=>.bad
 | .iset a,r,t=>(ev G cs a r t).bind fun x t1=>match x with
  | .lst xs=>(match intsD xs with
   | some ks=>if decide (ks.length < 63) then .ok (.lst ((jsort ks).map D.int)) t1 else .bad
   | none=>.bad)
  | _=>.bad
 | .pset a,r,t=>(ev G cs a r t).bind fun x t1=>match x with
  | .lst xs=>(match prsI xs with
   | some ps=>if decide (ps.length < 63) then .ok (.lst ((psort ps).map pD)) t1 else .bad
   | none=>.bad)
  | _=>.bad
 | .ind neg a b,r,t=>(ev G cs a r t).bind fun x t1=>(ev G cs b r t1).bind fun y t2=>match y with
  | .dct kvs=>(match keyD x with
   | some k=>.ok (.bl (if neg then !(lookD kvs k).isSome else (lookD kvs k).isSome)) t2
   | none=>.bad)
  | _=>.bad
 | .sitems a,r,t=>(ev G cs a r t).bind fun x t1=>match x with
  | .dct kvs=>if okKeys (itmD kvs) then .ok (.lst (sortD (itmD kvs) (itmD kvs))) t1 else .bad
  | _=>.bad
 | .sortN a N e,r,t=>if decide (2 ≤ G.lv) then (ev G cs a r t).bind fun x t1=>match x with
  | .dcn es=>(compL (fun d t=>(ev G.low cs e (startR N [d]) t).bind fun x t=>.ok (some x) t) (es.map fun p=>kdN p.1) t1).bind fun ks t2=>if okKeys ks then .ok (.lst (sortD (es.map fun p=>kdN p.1) ks)) t2 else .bad
  | _=>.bad
  else .bad
 | .sortC a _ e,r,t=>if decide (2 ≤ G.lv) then (ev G cs a r t).bind fun x t1=>match x with
  | .lst xs=>(compL (fun d t=>(ev G.low cs e (.val d :: valsR r) t).bind fun x t=>.ok (some x) t) xs t1).bind fun ks t2=>if okKeys ks then .ok (.lst (sortD xs ks)) t2 else .bad
  | _=>.bad
  else .bad
 | .dn2 k v l w,r,t=>(ev G cs k r t).bind fun x t1=>(ev G cs v r t1).bind fun y t2=>(ev G cs l r t2).bind fun x2 t3=>(ev G cs w r t3).bind fun y2 t4=>match keyT x,keyT x2 with
  | some k,some l=>.ok (.dcn (putN (putN [] k y) l y2)) t4
  | _,_=>.bad
 | .dcomp2 own k v tg it tg1 it1,r,t=>(evI G cs it r t).bind fun xs t1=>if okLen xs.length then
   (comp2L (fun d t=>match setT tg d (wipeR r (own.map (·.2))) with
    | some r2=>(match evI G cs it1 r2 t with
     | .ok es t1=>if okLen es.length then compL (fun d t=>match setT tg1 d (wipeR r2 tg1.slots) with
      | some r3=>((ev G cs k r3 t).bind fun x t1=>(ev G cs v r3 t1).bind fun y t2=>.ok (.tup [x,y]) t2).bind fun x t=>.ok (some x) t
      | none=>.bad) es t1 else .bad
     | _=>.bad)
    | none=>.bad) xs t1).bind fun ys t2=>(match prsN ys with
     | some ps=>if okLen ps.length then .ok (.dcn (putsN [] ps)) t2 else .bad
     | none=>.bad) else .bad
 | .sortK a N e,r,t=>if decide (2 ≤ G.lv) then (ev G cs a r t).bind fun x t1=>match x with
  | .lst xs=>(compL (fun d t=>(ev G.low cs e (startR N [d]) t).bind fun x t=>.ok (some x) t) xs t1).bind fun ks t2=>if okKeys ks then .ok (.lst (sortD xs ks)) t2 else .bad
  | _=>.bad
  else .bad
 | .dspE ks es,r,t=>(evs G cs es r t).bind fun xs t1=>if decide (xs.length ≤ 15) && decide (xs.length = ks.length) && decide (0 < xs.length) then .ok (.dct (mergeD [] (ks.zip xs))) t1 else .bad
def evO (G : Gam) (cs : Nat → D) : O → Rho → Tw → Res (Option D)
 | .none,_,t=>.ok none t
 | .some e,r,t=>(ev G cs e r t).bind fun x t1=>.ok (some x) t1
def evs (G : Gam) (cs : Nat → D) : Es → Rho → Tw → Res (List D)
 | .nil,_,t=>.ok [] t
 | .cons e es,r,t=>(ev G cs e r t).bind fun x t1=>(evs G cs es r t1).bind fun xs t2=>.ok (x :: xs) t2
def evI (G : Gam) (cs : Nat → D) : I → Rho → Tw → Res (List D)
 | .val e,r,t=>(ev G cs e r t).bind fun x t1=>match x with
  | .tup xs=>.ok xs t1
  | .lst xs=>.ok xs t1
  | .str x=>.ok (strD x) t1
  | _=>.bad
 | .rng1 a,r,t=>(ev G cs a r t).bind fun x t1=>match x with
  | .int j=>if okRng j then .ok (rngD 0 j.toNat) t1 else .bad
  | _=>.bad
 | .rng2 a b,r,t=>(ev G cs a r t).bind fun x t1=>(ev G cs b r t1).bind fun y t2=>match x,y with
  | .int i,.int j=>if okRng i && okRng j then .ok (rngD i (j - i).toNat) t2 else .bad
  | _,_=>.bad
 | .zip a b,r,t=>(ev G cs a r t).bind fun x t1=>(ev G cs b r t1).bind fun y t2=>match x,y with
  | .tup xs,.tup ys=>.ok (zipD xs ys) t2
  | .lst xs,.lst ys=>.ok (zipD xs ys) t2
  | _,_=>.bad
 | .enum a,r,t=>(ev G cs a r t).bind fun x t1=>match x with
  | .lst xs=>.ok (enumD 0 xs) t1
  | _=>.bad
 | .enumT a,r,t=>(ev G cs a r t).bind fun x t1=>match x with
  | .tup xs=>.ok (enumD 0 xs) t1
  | _=>.bad
 | .zipS a b,r,t=>(ev G cs a r t).bind fun x t1=>(ev G cs b r t1).bind fun y t2=>match sqOf x,sqOf y with
  | some xs,some ys=>if xs.length = ys.length then .ok (zipD xs ys) t2 else .bad
  | _,_=>.bad
 | .zipN a b,r,t=>(ev G cs a r t).bind fun x t1=>(ev G cs b r t1).bind fun y t2=>match x,y with
  | .tup xs,.tup ys=>.ok (zipD xs ys) t2
  | _,_=>.bad
 | .keys a,r,t=>(ev G cs a r t).bind fun x t1=>match x with
  | .dct kvs=>.ok (kvs.map fun p=>kD p.1) t1
  | .dcn kvs=>.ok (kvs.map fun p=>kdN p.1) t1
  | _=>.bad
end
inductive Fl where
 | nx | brk | cont
 | ret (d : D)
def stIx (i : Nat) (d : D) (fk : Rho → Tw → Res D) (r : Rho) (t : Tw) : Res (Fl × Rho):=match r[i]? with
  | some (.own (.lst xs))=>(fk r t).bind fun k t2=>(match k with
   | .int j=>(match L2.ixN xs.length j with
    | some n=>.ok (.nx,r.set i (.own (.lst (xs.set n d)))) t2
    | none=>.bad)
   | _=>.bad)
  | _=>.bad
def loopF (f : D → Rho → Tw → Res (Fl × Rho)) : List D → Rho → Tw → Res (Fl × Rho)
 | [],r,t=>.ok (.nx,r) t
 | d :: ds,r,t=>(f d r t).bind fun p t1=>match p with
  | (.nx,r1)=>loopF f ds r1 t1
  | (.cont,r1)=>loopF f ds r1 t1
  | (.brk,r1)=>.ok (.nx,r1) t1
  | (.ret d,r1)=>.ok (.ret d,r1) t1
def loopN (c : Rho → Tw → Res D) (f : Rho → Tw → Res (Fl × Rho)) : Nat → Rho → Tw → Option (Res (Fl × Rho))
 | 0,_,_=>none
 | n + 1,r,t=>match c r t with
  | .exc k t1=>some (.exc k t1)
  | .bad=>some .bad
  | .ok x t1=>match truD x with
   | none=>some .bad
   | some false=>some (.ok (.nx,r) t1)
   | some true=>match f r t1 with
    | .exc k t2=>some (.exc k t2)
    | .bad=>some .bad
    | .ok (.nx,r1) t2=>loopN c f n r1 t2
    | .ok (.cont,r1) t2=>loopN c f n r1 t2
    | .ok (.brk,r1) t2=>some (.ok (.nx,r1) t2)
    | .ok (.ret d,r1) t2=>some (.ok (.ret d,r1) t2)
open Classical in
noncomputable def loopWc (c : Rho → Tw → Res D) (f : Rho → Tw → Res (Fl × Rho)) (r : Rho) (t : Tw) : Res (Fl × Rho):=
 if h : ∃ n v,loopN c f n r t = some v then h.choose_spec.choose else .bad
theorem loopN_mono {c : Rho → Tw → Res D} {f : Rho → Tw → Res (Fl × Rho)} {n : Nat} : ∀ {m : Nat} {r : Rho} {t : Tw} {v : Res (Fl × Rho)},loopN c f n r t = some v → n ≤ m → loopN c f m r t = some v:=by
 induction n with
 | zero=>intro m r t v h _;simp [loopN] at h
 | succ n ih=>
  intro m r t v h hm
  obtain ⟨m,rfl⟩ : ∃ k,m = k + 1:=⟨m - 1,by omega⟩
  have hm' : n ≤ m:=by omega
  simp only [loopN] at h ⊢
  cases hc : c r t with
  | exc k t1=>rw [hc] at h;exact h
  | bad=>rw [hc] at h;exact h
  | ok x t1=>
   rw [hc] at h
   simp only at h ⊢
   cases hx : truD x with
   | none=>rw [hx] at h;exact h
   | some b=>
    rw [hx] at h
    cases b with
    | false=>exact h
    | true=>
     simp only at h ⊢
     cases hf : f r t1 with
     | exc k t2=>rw [hf] at h;exact h
     | bad=>rw [hf] at h;exact h
     | ok p t2=>
      rw [hf] at h
      obtain ⟨fl,r1⟩:=p
      cases fl with
      | nx=>exact ih h hm'
      | cont=>exact ih h hm'
      | brk=>exact h
      | ret d=>exact h
theorem loopWc_of {c : Rho → Tw → Res D} {f : Rho → Tw → Res (Fl × Rho)} {n : Nat} {r : Rho} {t : Tw} {v : Res (Fl × Rho)} (h : loopN c f n r t = some v) : loopWc c f r t = v:=by
 unfold loopWc
 have hx : ∃ n v,loopN c f n r t = some v:=⟨n,v,h⟩
 rw [dif_pos hx]
 have h2:=hx.choose_spec.choose_spec
 have e1:=loopN_mono h (Nat.le_max_left n hx.choose)
 have e2:=loopN_mono h2 (Nat.le_max_right n hx.choose)
 rw [e1] at e2
 exact (Option.some.inj e2).symm
theorem loopWc_not {c : Rho → Tw → Res D} {f : Rho → Tw → Res (Fl × Rho)} {r : Rho} {t : Tw} (h : loopWc c f r t ≠ .bad) : ∃ n,loopN c f n r t = some (loopWc c f r t):=by
 unfold loopWc at h ⊢
 by_cases hx : ∃ n v,loopN c f n r t = some v
 · rw [dif_pos hx] at h ⊢
   exact ⟨_,hx.choose_spec.choose_spec⟩
 · rw [dif_neg hx] at h
   exact absurd rfl h
theorem loopWc_eq (c : Rho → Tw → Res D) (f : Rho → Tw → Res (Fl × Rho)) (r : Rho) (t : Tw) : loopWc c f r t = (c r t).bind fun x t1=>match truD x with
  | none=>.bad
  | some false=>.ok (.nx,r) t1
  | some true=>(f r t1).bind fun p t2=>match p with
   | (.nx,r1)=>loopWc c f r1 t2
   | (.cont,r1)=>loopWc c f r1 t2
   | (.brk,r1)=>.ok (.nx,r1) t2
   | (.ret d,r1)=>.ok (.ret d,r1) t2:=by
 have key : ∀ r1 t2,(∀ n,loopN c f (n + 1) r t = loopN c f n r1 t2) → loopWc c f r t = loopWc c f r1 t2:=by
  intro r1 t2 h
  by_cases hb : loopWc c f r1 t2 = .bad
  · rw [hb]
    by_cases ha : loopWc c f r t = .bad
    · exact ha
    · obtain ⟨n,hn⟩:=loopWc_not ha
      cases n with
      | zero=>simp [loopN] at hn
      | succ n=>
       rw [h n] at hn
       have:=loopWc_of hn
       rw [hb] at this
       exact this.symm
  · obtain ⟨n,hn⟩:=loopWc_not hb
    exact loopWc_of (n:=n + 1) ((h n).trans hn)
 cases hc : c r t with
 | exc k t1=>exact loopWc_of (n:=1) (by simp [loopN,hc])
 | bad=>exact loopWc_of (n:=1) (by simp [loopN,hc])
 | ok x t1=>
  simp only [Res.bind_ok]
  cases hx : truD x with
  | none=>exact loopWc_of (n:=1) (by simp [loopN,hc,hx])
  | some b=>
   cases b with
   | false=>exact loopWc_of (n:=1) (by simp [loopN,hc,hx])
   | true=>
    cases hf : f r t1 with
    | exc k t2=>exact loopWc_of (n:=1) (by simp [loopN,hc,hx,hf])
    | bad=>exact loopWc_of (n:=1) (by simp [loopN,hc,hx,hf])
    | ok p t2=>
     obtain ⟨fl,r1⟩:=p
     cases fl with
     | nx=>exact key r1 t2 fun n=>by simp [loopN,hc,hx,hf]
     | cont=>exact key r1 t2 fun n=>by simp [loopN,hc,hx,hf]
     | brk=>exact loopWc_of (n:=1) (by simp [loopN,hc,hx,hf])
     | ret d=>exact loopWc_of (n:=1) (by simp [loopN,hc,hx,hf])
noncomputable def loopW (c : Rho → Tw → Res D) (f : Rho → Tw → Res (Fl × Rho)) (r : Rho) (t : Tw) : Res (Fl × Rho):=match loopN c f 64 r t with
 | some v=>v
 | none=>loopWc c f r t
theorem loopW_c (c : Rho → Tw → Res D) (f : Rho → Tw → Res (Fl × Rho)) (r : Rho) (t : Tw) : loopW c f r t = loopWc c f r t:=by
 unfold loopW
 split
 · rename_i v e
   exact (loopWc_of e).symm
 · rfl
theorem loopW_not {c : Rho → Tw → Res D} {f : Rho → Tw → Res (Fl × Rho)} {r : Rho} {t : Tw} (h : loopW c f r t ≠ .bad) : ∃ n,loopN c f n r t = some (loopW c f r t):=by
 rw [loopW_c] at h ⊢
 exact loopWc_not h
theorem loopW_eq (c : Rho → Tw → Res D) (f : Rho → Tw → Res (Fl × Rho)) (r : Rho) (t : Tw) : loopW c f r t = (c r t).bind fun x t1=>match truD x with
  | none=>.bad
  | some false=>.ok (.nx,r) t1
  | some true=>(f r t1).bind fun p t2=>match p with
   | (.nx,r1)=>loopW c f r1 t2
   | (.cont,r1)=>loopW c f r1 t2
   | (.brk,r1)=>.ok (.nx,r1) t2
   | (.ret d,r1)=>.ok (.ret d,r1) t2:=by
 simp only [loopW_c]
 exact loopWc_eq c f r t
def setAll : List Nat → List D → Rho → Option Rho
 | [],[],r=>some r
 | i :: is,d :: ds,r=>if decide (i < r.length) then setAll is ds (r.set i (.val d)) else none
 | _,_,_=>none
def okSet (r : Rho) (i : Nat) (s : Sl) (t : Tw) : Res (Fl × Rho):=if decide (i < r.length) then .ok (.nx,r.set i s) t else .bad
mutual
noncomputable def evS (G : Gam) (cs : Nat → D) : S → Rho → Tw → Res (Fl × Rho)
 | .asg tg e,r,t=>(ev G cs e r t).bind fun x t1=>lift ((setT tg x r).map fun r1=>(.nx,r1)) t1
 | .par is es,r,t=>(evs G cs es r t).bind fun xs t1=>lift ((setAll is xs r).map fun r1=>(.nx,r1)) t1
 | .star i j e,r,t=>(ev G cs e r t).bind fun x t1=>match x with
  | .tup (y :: ys)=>if decide (i < r.length) && decide (j < r.length) && decide (ys.length < 16384) then .ok (.nx,(r.set i (.val y)).set j (.val (.lst ys))) t1 else .bad
  | _=>.bad
 | .aug i op e,r,t=>match r[i]? with
  | some (.val x)=>(ev G cs e r t).bind fun y t1=>match x,y with
   | .int _,.int _=>lift ((binD op x y).map fun z=>(.nx,r.set i (.val z))) t1
   | _,_=>.bad
  | _=>.bad
 | .ret e,r,t=>(ev G cs e r t).bind fun x t1=>.ok (.ret x,r) t1
 | .ite c a b,r,t=>(ev G cs c r t).bind fun x t1=>match truD x with
  | some true=>evSs G cs a r t1
  | some false=>evSs G cs b r t1
  | none=>.bad
 | .for tg it b,r,t=>(evI G cs it r t).bind fun xs t1=>loopF (fun d r t=>match setT tg d r with
  | some r1=>evSs G cs b r1 t
  | none=>.bad) xs r t1
 | .while c b,r,t=>loopW (fun r t=>ev G cs c r t) (fun r t=>evSs G cs b r t) r t
 | .ext i e,r,t=>match r[i]? with
  | some (.own (.lst xs))=>(ev G cs e r t).bind fun x t1=>(match x with
   | .lst ys=>if decide (xs.length + ys.length < 16777216) then .ok (.nx,r.set i (.own (.lst (xs ++ ys)))) t1 else .bad
   | _=>.bad)
  | _=>.bad
 | .pop i,r,t=>match r[i]? with
  | some (.own (.lst xs))=>if xs.isEmpty then .bad else .ok (.nx,r.set i (.own (.lst xs.dropLast))) t
  | _=>.bad
 | .swp i e1 e2 v,r,t=>(ev G cs v r t).bind fun d t1=>match d with
  | .tup [x,y]=>(stIx i x (fun r t=>ev G cs e1 r t) r t1).bind fun p t2=>stIx i y (fun r t=>ev G cs e2 r t) p.2 t2
  | _=>.bad
 | .tryN b,r,t=>match evSs G cs b r t with
  | .exc _ _=>.bad
  | x=>x
 | .tryX ns i b,r,t=>match evSs G cs b r t with
  | .exc n t1=>if ns.contains n then .ok (.nx,(r.map fun _=>Sl.un).set i (.val .non)) t1 else .bad
  | x=>x
 | .exp e,r,t=>(ev G cs e r t).bind fun _ t1=>.ok (.nx,r) t1
 | .new i e,r,t=>(ev G cs e r t).bind fun x t1=>okSet r i (.own x) t1
 | .app i e,r,t=>match r[i]? with
  | some (.own (.lst xs))=>(ev G cs e r t).bind fun x t1=>if decide (xs.length < 16777216) then .ok (.nx,r.set i (.own (.lst (xs ++ [x])))) t1 else .bad
  | _=>.bad
 | .put i k e,r,t=>match r[i]? with
  | some (.own (.dct kvs))=>(ev G cs e r t).bind fun x t1=>(ev G cs k r t1).bind fun y t2=>(match keyD y with
   | some k=>if decide (kvs.length < 16777216) then .ok (.nx,r.set i (.own (.dct (putD kvs k x)))) t2 else .bad
   | none=>.bad)
  | some (.own (.dcn kvs))=>(ev G cs e r t).bind fun x t1=>(ev G cs k r t1).bind fun y t2=>(match keyT y with
   | some k=>if decide (kvs.length < 16777216) then .ok (.nx,r.set i (.own (.dcn (putN kvs k x)))) t2 else .bad
   | none=>.bad)
  | _=>.bad
 | .upd i e,r,t=>match r[i]? with
  | some (.own (.dct kvs))=>(ev G cs e r t).bind fun x t1=>(match x with
   | .dct more=>if decide (kvs.length + more.length ≤ 16777216) then .ok (.nx,r.set i (.own (.dct (joinD kvs more)))) t1 else .bad
   | _=>.bad)
  | _=>.bad
 | .ins i k e,r,t=>match r[i]? with
  | some (.own (.lst xs))=>(ev G cs k r t).bind fun y t1=>(ev G cs e r t1).bind fun x t2=>(match y with
   | .int j=>if decide (0 ≤ j) && decide (j < 2 ^ 63) && decide (xs.length < 16777216) then .ok (.nx,r.set i (.own (.lst (xs.take j.toNat ++ [x] ++ xs.drop j.toNat)))) t2 else .bad
   | _=>.bad)
  | _=>.bad
 | .uns is j es,r,t=>(evs G cs es r t).bind fun xs t1=>(match setAll is xs r with
  | some r1=>okSet r1 j (.own (.lst [])) t1
  | none=>.bad)
 | .pnl _ j i e,r,t=>(ev G cs e r t).bind fun x t1=>if decide (j < r.length) && decide (i < r.length) then .ok (.nx,(r.set j (.own (.lst []))).set i (.val x)) t1 else .bad
 | .p3t i j l e1 e2,r,t=>(ev G cs e1 r t).bind fun x t1=>(ev G cs e2 r t1).bind fun y t2=>if decide (i < r.length) && decide (j < r.length) && decide (l < r.length) then .ok (.nx,((r.set i (.own (.lst []))).set j (.val x)).set l (.val y)) t2 else .bad
 | .p3f i j l e,r,t=>(ev G cs e r t).bind fun x t1=>if decide (i < r.length) && decide (j < r.length) && decide (l < r.length) then .ok (.nx,((r.set i (.val x)).set j (.own (.lst []))).set l (.own (.lst []))) t1 else .bad
 | .putL i k e,r,t=>match r[i]? with
  | some (.own (.lst xs))=>(ev G cs e r t).bind fun x t1=>(ev G cs k r t1).bind fun y t2=>(match y with
   | .int j=>(match L2.ixN xs.length j with
    | some n=>.ok (.nx,r.set i (.own (.lst (xs.set n x)))) t2
    | none=>.bad)
   | _=>.bad)
  | _=>.bad
 | .frz i,r,t=>match r[i]? with
  | some (.own d)=>.ok (.nx,r.set i (.val d)) t
  | some (.val _)=>.ok (.nx,r) t
  | _=>.bad
 | .tcnt i e,r,t=>match r[i]? with
  | some (.val .tok)=>(ev G cs e r t).bind fun x t1=>(match x with
   | .int c=>.ok (.nx,r) { t1 with count:=c }
   | _=>.bad)
  | _=>.bad
 | .trst i k e,r,t=>match r[i]? with
  | some (.val .tok)=>(ev G cs e r t).bind fun x t1=>(ev G cs k r t1).bind fun y t2=>(match x,y with
   | .int v,.int a=>if decide (t2.rests.length < 1000000) then .ok (.nx,r) { t2 with rests:=putT t2.rests a v } else .bad
   | _,_=>.bad)
  | _=>.bad
 | .brk,r,t=>.ok (.brk,r) t
 | .cont,r,t=>.ok (.cont,r) t
 | .raise n _,_,t=>.exc n t
 | .raiseE n a,r,t=>(ev G cs a r t).bind fun _ t1=>.exc n t1
 | .bad,_,_=>.bad
noncomputable def evSs (G : Gam) (cs : Nat → D) : Ss → Rho → Tw → Res (Fl × Rho)
 | .nil,r,t=>.ok (.nx,r) t
 | .cons s ss,r,t=>(evS G cs s r t).bind fun p t1=>match p with
  | (.nx,r1)=>evSs G cs ss r1 t1
  | q=>.ok q t1
end
end Fm
namespace Fm
open PySem PySem.Spec PyProof.Rows L2
structure Tn where
 a : Addr
 b : Addr
 s : Addr
 ns : List Int
 tabs : List (Addr × Str)
 cl : Nat → Addr
 pg : Program
 wo : World
def ExI (cls : Value) (a : Addr) : HO:=.ext fun h=>∃ (oe : Obj) (vs : Array Value),h.get? a = some oe ∧ Zc cls none oe ∧ oe.data = .fields vs
def DN (pg : Program) (wo : World) (a : Addr) (xs : List (NestedKey × Addr × Value)) : HO:=.ext fun h=>∃ o es ep,h.get? a = some o ∧ o.ExactDict ∧ o.data = .dict es ep ∧ es.toList = xs.map (entryOfKey (nestedKind pg wo)) ∧ (xs.map (·.1)).Nodup
def NoD (K : PySem.W.Frag) (F : Hp) (a : Addr) : Prop:=(∃ o xs,F a = some (.frz o (.tup xs)) ∧ o.dict = none) ∨ ∃ o,K.lookup a = some o ∧ o.dict = none
def SqP (K : PySem.W.Frag) (F : Hp) (a : Addr) (xs : List V) : Prop:=SqT K F a xs ∧ NoD K F a
mutual
inductive Rp (K : PySem.W.Frag) (T : Tn) (F : Hp) : V → D → Prop
 | non : Rp K T F .non .non
 | bl (b : Bool) : Rp K T F (.bl b) (.bl b)
 | int (i : Int) : Rp K T F (.int i) (.int i)
 | str (x : Str) : Rp K T F (.str x) (.str x)
 | tup {a : Addr} {xs : List V} {ds : List D} : SqP K F a xs → xs.length ≤ sizeLine → RpL K T F xs ds → Rp K T F (.ref a) (.tup ds)
 | lst {a : Addr} {xs : List V} {ds : List D} : F a = some (.lst xs) → xs.length ≤ sizeLine → RpL K T F xs ds → Rp K T F (.ref a) (.lst ds)
 | dct {a : Addr} {o : Obj} {kvs : List (Key × V)} {es : List (Key × D)} : F a = some (.frz o (.dK kvs)) → kvs.length ≤ sizeLine → RpK K T F kvs es → Rp K T F (.ref a) (.dct es)
 | dcn {a : Addr} {o : Obj} {xs : List (NestedKey × Addr × Value)} {es : List (NestedKey × D)} : F a = some (.frz o (DN T.pg T.wo a xs)) → (a == sysModules) = false ∧ (xs.map (·.1)).Nodup → xs.length ≤ sizeLine → RpN K T F xs es → Rp K T F (.ref a) (.dcn es)
 | exc {a : Addr} (n : Nat) : F a = some (ExI (.ref (T.cl n)) a) → Rp K T F (.ref a) (.exc n)
 | tok : Rp K T F (.ref T.a) .tok
 | scr : Rp K T F (.ref T.s) (.scr T.ns)
inductive RpL (K : PySem.W.Frag) (T : Tn) (F : Hp) : List V → List D → Prop
 | nil : RpL K T F [] []
 | cons {v : V} {vs : List V} {d : D} {ds : List D} : Rp K T F v d → RpL K T F vs ds → RpL K T F (v :: vs) (d :: ds)
inductive RpK (K : PySem.W.Frag) (T : Tn) (F : Hp) : List (Key × V) → List (Key × D) → Prop
 | nil : RpK K T F [] []
 | cons {k : Key} {v : V} {kvs : List (Key × V)} {d : D} {es : List (Key × D)} : Rp K T F v d → RpK K T F kvs es → RpK K T F ((k,v) :: kvs) ((k,d) :: es)
inductive RpN (K : PySem.W.Frag) (T : Tn) (F : Hp) : List (NestedKey × Addr × Value) → List (NestedKey × D) → Prop
 | nil : RpN K T F [] []
 | cons {k : NestedKey} {b : Addr} {u : Value} {v : V} {xs : List (NestedKey × Addr × Value)} {d : D} {es : List (NestedKey × D)} : Rp K T F (.ref b) (kdN k) → k.depth ≤ 8 → RelV v u → Rp K T F v d → RpN K T F xs es → RpN K T F ((k,b,u) :: xs) ((k,d) :: es)
end
theorem noD_mono {K : PySem.W.Frag} {F F' : Hp} {a : Addr} (e : Same F F') (h : NoD K F a) : NoD K F' a:=by
 rcases h with ⟨o,xs,h,n⟩ | h
 · exact .inl ⟨o,xs,e _ _ h,n⟩
 · exact .inr h
theorem sqT_mono {K : PySem.W.Frag} {F F' : Hp} {a : Addr} {xs : List V} (e : Same F F') (h : SqT K F a xs) : SqT K F' a xs:=by
 rcases h with h | h
 · rcases h with h | ⟨o,h⟩
   · exact .inl (.inl (e _ _ h))
   · exact .inl (.inr ⟨o,e _ _ h⟩)
 · exact .inr h
theorem sqP_t {K : PySem.W.Frag} {F F' : Hp} {a : Addr} {xs : List V} (e : Same F F') (h : SqP K F a xs) : SqT K F' a xs:=sqT_mono e h.1
theorem sqL_mono {K : PySem.W.Frag} {F F' : Hp} {a : Addr} {xs : List V} (e : Same F F') (h : SqL K F a xs) : SqL K F' a xs:=by
 rcases h with h | h
 · rcases h with h | ⟨o,h⟩
   · exact .inl (.inl (e _ _ h))
   · exact .inl (.inr ⟨o,e _ _ h⟩)
 · exact .inr h
section
variable {K : PySem.W.Frag} {T : Tn} {F F' H : Hp}
mutual
theorem Rp.mono (e : Same F F') : ∀ {v : V} {d : D},Rp K T F v d → Rp K T F' v d
 | _,_,.non=>.non
 | _,_,.bl b=>.bl b
 | _,_,.int i=>.int i
 | _,_,.str x=>.str x
 | _,_,.tup h z r=>.tup ⟨sqT_mono e h.1,noD_mono e h.2⟩ z (r.mono e)
 | _,_,.lst h z r=>.lst (e _ _ h) z (r.mono e)
 | _,_,.dct h z r=>.dct (e _ _ h) z (r.mono e)
 | _,_,.dcn h y z r=>.dcn (e _ _ h) y z (r.mono e)
 | _,_,.exc n h=>.exc n (e _ _ h)
 | _,_,.tok=>.tok
 | _,_,.scr=>.scr
theorem RpL.mono (e : Same F F') : ∀ {v : List V} {d : List D},RpL K T F v d → RpL K T F' v d
 | _,_,.nil=>.nil
 | _,_,.cons h r=>.cons (h.mono e) (r.mono e)
theorem RpK.mono (e : Same F F') : ∀ {v : List (Key × V)} {d : List (Key × D)},RpK K T F v d → RpK K T F' v d
 | _,_,.nil=>.nil
 | _,_,.cons h r=>.cons (h.mono e) (r.mono e)
theorem RpN.mono (e : Same F F') : ∀ {v : List (NestedKey × Addr × Value)} {d : List (NestedKey × D)},RpN K T F v d → RpN K T F' v d
 | _,_,.nil=>.nil
 | _,_,.cons h y z q r=>.cons (h.mono e) y z (q.mono e) (r.mono e)
end
theorem RpL.length : ∀ {vs : List V} {ds : List D},RpL K T F vs ds → vs.length = ds.length
 | _,_,.nil=>rfl
 | _,_,.cons _ r=>congrArg Nat.succ r.length
theorem RpK.length : ∀ {vs : List (Key × V)} {ds : List (Key × D)},RpK K T F vs ds → vs.length = ds.length
 | _,_,.nil=>rfl
 | _,_,.cons _ r=>congrArg Nat.succ r.length
theorem RpL.get : ∀ {vs : List V} {ds : List D},RpL K T F vs ds → ∀ {i : Nat} {d : D},ds[i]? = some d → ∃ v,vs[i]? = some v ∧ Rp K T F v d
 | _,_,.nil,i,d,h=>by simp at h
 | _,_,.cons h r,0,d,e=>by
  have e2:=Option.some.inj (show some _ = some d from e)
  subst e2
  exact ⟨_,rfl,h⟩
 | _,_,.cons h r,i + 1,d,e=>r.get (i:=i) e
theorem RpL.append : ∀ {vs ws : List V} {ds es : List D},RpL K T F vs ds → RpL K T F ws es → RpL K T F (vs ++ ws) (ds ++ es)
 | _,_,_,_,.nil,q=>q
 | _,_,_,_,.cons h r,q=>.cons h (r.append q)
theorem RpL.take : ∀ {vs : List V} {ds : List D} (n : Nat),RpL K T F vs ds → RpL K T F (vs.take n) (ds.take n)
 | _,_,0,_=>.nil
 | _,_,_ + 1,.nil=>.nil
 | _,_,n + 1,.cons h r=>.cons h (r.take n)
theorem RpL.drop : ∀ {vs : List V} {ds : List D} (n : Nat),RpL K T F vs ds → RpL K T F (vs.drop n) (ds.drop n)
 | _,_,0,r=>r
 | _,_,_ + 1,.nil=>.nil
 | _,_,n + 1,.cons h r=>r.drop n
theorem RpL.set {v : V} {d : D} (h : Rp K T F v d) : ∀ {vs : List V} {ds : List D} (n : Nat),RpL K T F vs ds → RpL K T F (vs.set n v) (ds.set n d)
 | _,_,_,.nil=>.nil
 | _,_,0,.cons _ r=>.cons h r
 | _,_,n + 1,.cons q r=>.cons q (RpL.set h n r)
theorem RpL.intsOf : ∀ {vs : List V} {ds : List D} {ns : List Int},RpL K T F vs ds → intsD ds = some ns → vs = ns.map V.int
 | _,_,ns,.nil,h=>by
  simp only [intsD,Option.some.injEq] at h
  subst h
  rfl
 | _,_,ns,@RpL.cons _ _ _ v vs d ds h r,e=>by
  cases h with
  | int i=>
   simp only [intsD,Option.map_eq_some_iff] at e
   obtain ⟨ms,e1,e2⟩:=e
   subst e2
   rw [r.intsOf e1]
   rfl
  | _=>simp [intsD] at e
theorem RpL.blsOf : ∀ {vs : List V} {ds : List D} {ns : List Bool},RpL K T F vs ds → bls ds = some ns → vs = ns.map V.bl
 | _,_,ns,.nil,h=>by
  simp only [bls,Option.some.injEq] at h
  subst h
  rfl
 | _,_,ns,@RpL.cons _ _ _ v vs d ds h r,e=>by
  cases h with
  | bl i=>
   simp only [bls,Option.map_eq_some_iff] at e
   obtain ⟨ms,e1,e2⟩:=e
   subst e2
   rw [r.blsOf e1]
   rfl
  | _=>simp [bls] at e
theorem RpL.ofInts : ∀ (ns : List Int),RpL K T F (ns.map V.int) (ns.map D.int)
 | []=>.nil
 | n :: ns=>.cons (.int n) (RpL.ofInts ns)
theorem lay_cons {x : D} {xs : List D} (h : PyData.canLayAll0 (pys (x :: xs)) = true) : lay x = true ∧ PyData.canLayAll0 (pys xs) = true:=by
 have h2 : (PyData.canLay0 x.py && PyData.canLayAll0 (pys xs)) = true:=by
  simpa only [pys,PyData.canLayAll0] using h
 exact Bool.and_eq_true_iff.mp h2
mutual
theorem Rp.dp (s : Same F H) : ∀ {v : V} {d : D},Rp K T F v d → lay d = true → Dp K H v d.py
 | _,_,.non,_=>.non
 | _,_,.bl b,_=>.bl b
 | _,_,.int i,_=>.int i
 | _,_,.str x,_=>.str x
 | _,_,.tup h z r,l=>.tup (sqT_mono s h.1) (r.dp s (by simpa only [lay,D.py,PyData.canLay0] using l))
 | _,_,.lst h z r,l=>.lst (SqL.of (s _ _ h)) (r.dp s (by simpa only [lay,D.py,PyData.canLay0] using l))
 | _,_,.dct h z r,l=>by simp [lay,D.py,PyData.canLay0] at l
 | _,_,.dcn h y z r,l=>by simp [lay,D.py,PyData.canLay0] at l
 | _,_,.exc n h,l=>by simp [lay,D.py,PyData.canLay0] at l
 | _,_,.tok,l=>by simp [lay,D.py,PyData.canLay0] at l
 | _,_,.scr,l=>by simp [lay,D.py,PyData.canLay0] at l
theorem RpL.dp (s : Same F H) : ∀ {v : List V} {d : List D},RpL K T F v d → PyData.canLayAll0 (pys d) = true → DpAll K H v (pys d)
 | _,_,.nil,_=>.nil
 | _,_,.cons h r,l=>.cons (h.dp s (lay_cons l).1) (r.dp s (lay_cons l).2)
end
end
theorem tabs_upd {T : List (Addr × Str)} {H : Hp} {p : Addr} {o : HO} (t : LamX.Tabs T H) (n1 : ∀ ps,H p ≠ some (.tbl ps)) (n2 : ∀ c q,H p ≠ some (LamX.CodeO c q)) : LamX.Tabs T (upd H p o):=fun x hx=>by
 obtain ⟨ps,h1,h2,h3⟩:=t x hx
 refine ⟨ps,?_,h2,fun pos cv hc=>?_⟩
 · rw [upd_ne (fun z=>n1 ps (by rw [← z];exact h1))]
   exact h1
 · obtain ⟨c,e1,e2⟩:=h3 pos cv hc
   refine ⟨c,e1,?_⟩
   rw [upd_ne (fun z=>n2 c x.2 (by rw [← z];exact e2))]
   exact e2
theorem tabs_none {T : List (Addr × Str)} {H : Hp} {p : Addr} {o : HO} (t : LamX.Tabs T H) (h : H p = none) : LamX.Tabs T (upd H p o):=tabs_upd t (fun ps z=>by rw [h] at z;cases z) fun c q z=>by rw [h] at z;cases z
theorem tabs_lst {T : List (Addr × Str)} {H : Hp} {p : Addr} {o : HO} {xs : List V} (t : LamX.Tabs T H) (h : H p = some (.lst xs)) : LamX.Tabs T (upd H p o):=tabs_upd t (fun ps z=>by rw [h] at z;cases z) fun c q z=>by rw [h] at z;cases z
theorem tabs_dK {T : List (Addr × Str)} {H : Hp} {p : Addr} {o : HO} {xs : List (Key × V)} (t : LamX.Tabs T H) (h : H p = some (.dK xs)) : LamX.Tabs T (upd H p o):=tabs_upd t (fun ps z=>by rw [h] at z;cases z) fun c q z=>by rw [h] at z;cases z
theorem dn_ne {pg : Program} {wo : World} {p : Addr} {xs : List (NestedKey × Addr × Value)} (hn : (xs.map (·.1)).Nodup) (c : Addr) (q : Str) : DN pg wo p xs ≠ LamX.CodeO c q:=fun e=>by
 have e:=HO.ext.inj e
 have h1 : (fun h : Heap=>∃ o es ep,h.get? p = some o ∧ o.ExactDict ∧ o.data = .dict es ep ∧ es.toList = xs.map (entryOfKey (nestedKind pg wo)) ∧ (xs.map (·.1)).Nodup) { objs:=Array.replicate (p + 1) { cls:=.type "dict",data:=.dict (xs.map (entryOfKey (nestedKind pg wo))).toArray 0 } }:=by
  refine ⟨{ cls:=.type "dict",data:=.dict (xs.map (entryOfKey (nestedKind pg wo))).toArray 0 },(xs.map (entryOfKey (nestedKind pg wo))).toArray,0,?_,⟨rfl,rfl,rfl⟩,rfl,by simp,hn⟩
  unfold Heap.get?
  simp
 rw [e] at h1
 obtain ⟨oc,vs,t,h2,h3,_⟩:=h1
 unfold Heap.get? at h2
 simp only [Array.getElem?_replicate] at h2
 split at h2
 · rename_i hz
   split at hz <;> cases hz
 · split at h2
   · cases h2
     cases h3
   · cases h2
theorem tabs_dn {T : List (Addr × Str)} {H : Hp} {p : Addr} {o : HO} {pg : Program} {wo : World} {xs : List (NestedKey × Addr × Value)} (t : LamX.Tabs T H) (h : H p = some (DN pg wo p xs)) (hn : (xs.map (·.1)).Nodup) : LamX.Tabs T (upd H p o):=tabs_upd t (fun ps z=>by rw [h] at z;cases z) fun c q z=>by
 rw [h] at z
 exact dn_ne hn c q (Option.some.inj z)
def NT (o : HO) : Prop:=∀ ps,o ≠ .tbl ps
def Nn (H : Hp) (a : Addr) : Prop:=∀ o,H a = some o → ∃ ps,o = .tbl ps
theorem Nn.of {H : Hp} {a : Addr} (h : H a = none) : Nn H a:=fun o e=>by rw [h] at e;cases e
theorem Nn.no {H : Hp} {a : Addr} {o : HO} (h : Nn H a) (e : H a = some o) (n : NT o) : False:=let ⟨ps,z⟩:=h o e;n ps z
theorem Nn.upd {H : Hp} {p b : Addr} {o : HO} (h : Nn (L2.upd H p o) b) (n : NT o) : Nn H b ∧ b ≠ p:=by
 by_cases e : b = p
 · subst e
   exact (h.no upd_same n).elim
 · exact ⟨fun x z=>h x (by rw [upd_ne e];exact z),e⟩
theorem Nn.upd0 {H : Hp} {p b : Addr} {o : HO} (h : Nn (L2.upd H p o) b) (n : H p = none) : Nn H b:=by
 by_cases e : b = p
 · subst e
   exact .of n
 · exact fun x z=>h x (by rw [upd_ne e];exact z)
structure Town (T : Tn) (t : Tw) (H : Hp) : Prop where
 a : H T.a = some (.dK [(.inr "count",.int t.count),(.inr "rests",.ref T.b)])
 b : H T.b = some (.dK (t.rests.map fun p=>(.inl p.1,.int p.2)))
 ne : T.a ≠ T.b
 small : t.rests.length ≤ 1000000
structure RelH (K : PySem.W.Frag) (T : Tn) (F0 H0 F : Hp) (t : Tw) (H : Hp) : Prop where
 sub : Same F H
 new : ∀ a o,F a = some o → F0 a = some o ∨ Nn H0 a
 base : Same F0 F
 old : ∀ a o,H0 a = some o → a ≠ T.a → a ≠ T.b → NT o → H a = some o
 had : ∀ a,Nn H a → Nn H0 a
 tw : Town T t H
 tF1 : F T.a = none
 tF2 : F T.b = none
 sc : SqL K F T.s (T.ns.map V.int)
 tabs : LamX.Tabs T.tabs H
 nt : ∀ a o,F a = some o → NT o
def OwnAt (K : PySem.W.Frag) (T : Tn) (F H : Hp) (p : Addr) : D → Prop
 | .lst ds=>∃ vs,H p = some (.lst vs) ∧ vs.length ≤ sizeLine ∧ RpL K T F vs ds
 | .dct es=>∃ kvs,H p = some (.dK kvs) ∧ kvs.length ≤ sizeLine ∧ RpK K T F kvs es
 | .dcn es=>∃ xs,H p = some (DN T.pg T.wo p xs) ∧ ((p == sysModules) = false ∧ (xs.map (·.1)).Nodup) ∧ xs.length ≤ sizeLine ∧ RpN K T F xs es
 | _=>False
structure Own (K : PySem.W.Frag) (T : Tn) (H0 F H : Hp) (p : Addr) (d : D) : Prop where
 fr : F p = none
 n1 : p ≠ T.a
 n2 : p ≠ T.b
 h0 : Nn H0 p
 at_ : OwnAt K T F H p d
structure Rel (K : PySem.W.Frag) (T : Tn) (F0 H0 F : Hp) (r : Rho) (t : Tw) (σ : L2.St) (H : Hp) : Prop extends RelH K T F0 H0 F t H where
 len : r.length = σ.length
 val : ∀ (i : Nat) (d : D),r[i]? = some (.val d) → ∃ v,σ[i]? = some (some v) ∧ Rp K T F v d
 own : ∀ (i : Nat) (d : D),r[i]? = some (.own d) → ∃ p,σ[i]? = some (some (.ref p)) ∧ Own K T H0 F H p d
 inj : ∀ (i j : Nat) (d e : D) (p : Addr),r[i]? = some (.own d) → r[j]? = some (.own e) → σ[i]? = some (some (.ref p)) → σ[j]? = some (some (.ref p)) → i = j
section
variable {K : PySem.W.Frag} {T : Tn} {F0 H0 F F' F1 H H' H1 : Hp} {r : Rho} {t t' : Tw} {σ : L2.St}
theorem OwnAt.obj {p : Addr} {d : D} (h : OwnAt K T F H p d) : ∃ o,H p = some o ∧ NT o:=by
 cases d with
 | lst ds=>
  obtain ⟨vs,h,_⟩:=h
  exact ⟨_,h,fun _ z=>by cases z⟩
 | dct es=>
  obtain ⟨vs,h,_⟩:=h
  exact ⟨_,h,fun _ z=>by cases z⟩
 | dcn es=>
  obtain ⟨vs,h,_⟩:=h
  exact ⟨_,h,fun _ z=>by cases z⟩
 | _=>exact h.elim
theorem OwnAt.keep {p : Addr} {d : D} (h : OwnAt K T F H p d) (s : Same F F') (e : ∀ o,H p = some o → H' p = some o) : OwnAt K T F' H' p d:=by
 cases d with
 | lst ds=>
  obtain ⟨vs,h,z,q⟩:=h
  exact ⟨vs,e _ h,z,q.mono s⟩
 | dct es=>
  obtain ⟨vs,h,z,q⟩:=h
  exact ⟨vs,e _ h,z,q.mono s⟩
 | dcn es=>
  obtain ⟨vs,h,y,z,q⟩:=h
  exact ⟨vs,e _ h,y,z,q.mono s⟩
 | _=>exact h.elim
theorem RelH.refl (a : RelH K T F0 H0 F t H) : RelH K T F H F t H:=
 ⟨a.sub,fun _ _ h=>.inl h,Same.refl F,fun _ _ h _ _ _=>h,fun _ h=>h,a.tw,a.tF1,a.tF2,a.sc,a.tabs,a.nt⟩
theorem RelH.trans (a : RelH K T F0 H0 F t H) (b : RelH K T F H F' t' H') : RelH K T F0 H0 F' t' H':=by
 refine ⟨b.sub,fun c o h=>?_,a.base.trans b.base,fun c o h n1 n2 n3=>b.old c o (a.old c o h n1 n2 n3) n1 n2 n3,fun c h=>a.had c (b.had c h),b.tw,b.tF1,b.tF2,b.sc,b.tabs,b.nt⟩
 rcases b.new c o h with q | q
 · exact a.new c o q
 · exact .inr (a.had c q)
theorem Rel.step (a : Rel K T F0 H0 F r t σ H) (b : RelH K T F H F' t' H') : Rel K T F0 H0 F' r t' σ H':=by
 refine ⟨a.toRelH.trans b,a.len,fun i d h=>?_,fun i d h=>?_,a.inj⟩
 · obtain ⟨v,e,q⟩:=a.val i d h
   exact ⟨v,e,q.mono b.base⟩
 · obtain ⟨p,e,q⟩:=a.own i d h
   obtain ⟨o,ho,hnt⟩:=q.at_.obj
   refine ⟨p,e,⟨?_,q.n1,q.n2,q.h0,q.at_.keep b.base fun o' h=>b.old p o' h q.n1 q.n2 (by rw [ho] at h;cases h;exact hnt)⟩⟩
   cases z : F' p with
   | none=>rfl
   | some u=>
    rcases b.new p u z with z | z
    · rw [q.fr] at z
      cases z
    · exact (z.no ho hnt).elim
theorem upd_none {H : Hp} {p b : Addr} {o : HO} (h : upd H p o b = none) : H b = none ∧ b ≠ p:=by
 by_cases e : b = p
 · subst e
   rw [upd_same] at h
   cases h
 · rw [upd_ne e] at h
   exact ⟨h,e⟩
theorem same_new {H : Hp} {p : Addr} {o : HO} (h : H p = none) : Same H (upd H p o):=fun b x e=>by
 rw [upd_ne (ne_of_none e h)]
 exact e
theorem RelH.newF {p : Addr} {o : HO} (a : RelH K T F0 H0 F t H) (hp : H p = none) (ho : NT o:=by intro _ z;cases z) : RelH K T F H (upd F p o) t (upd H p o):=by
 have fp : F p = none:=a.sub.free hp
 have n1 : p ≠ T.a:=fun e=>by
  rw [e,a.tw.a] at hp
  cases hp
 have n2 : p ≠ T.b:=fun e=>by
  rw [e,a.tw.b] at hp
  cases hp
 refine ⟨fun b x e=>?_,fun b x e=>?_,same_new fp,fun b x e _ _ _=>same_new hp b x e,fun b h=>h.upd0 hp,⟨?_,?_,a.tw.ne,a.tw.small⟩,?_,?_,sqL_mono (same_new fp) a.sc,tabs_none a.tabs hp,fun b x e=>?_⟩
 · by_cases hb : b = p
   · subst hb
     rw [upd_same] at e ⊢
     exact e
   · rw [upd_ne hb] at e ⊢
     exact a.sub b x e
 · by_cases hb : b = p
   · subst hb
     exact .inr (.of hp)
   · rw [upd_ne hb] at e
     exact .inl e
 · rw [upd_ne (Ne.symm n1)]
   exact a.tw.a
 · rw [upd_ne (Ne.symm n2)]
   exact a.tw.b
 · rw [upd_ne (Ne.symm n1)]
   exact a.tF1
 · rw [upd_ne (Ne.symm n2)]
   exact a.tF2
 · by_cases hb : b = p
   · rw [hb,upd_same] at e
     cases e
     exact ho
   · rw [upd_ne hb] at e
     exact a.nt b x e
theorem RelH.newO {p : Addr} {o : HO} (a : RelH K T F0 H0 F t H) (hp : H p = none) : RelH K T F H F t (upd H p o):=by
 have n1 : p ≠ T.a:=fun e=>by
  rw [e,a.tw.a] at hp
  cases hp
 have n2 : p ≠ T.b:=fun e=>by
  rw [e,a.tw.b] at hp
  cases hp
 refine ⟨a.sub.trans (same_new hp),fun b x e=>.inl e,Same.refl F,fun b x e _ _ _=>same_new hp b x e,fun b h=>h.upd0 hp,⟨?_,?_,a.tw.ne,a.tw.small⟩,a.tF1,a.tF2,a.sc,tabs_none a.tabs hp,a.nt⟩
 · rw [upd_ne (Ne.symm n1)]
   exact a.tw.a
 · rw [upd_ne (Ne.symm n2)]
   exact a.tw.b
theorem RelH.freeze {p : Addr} {o : HO} (a : RelH K T F0 H0 F t H) (hp : H p = some o) (ho : NT o) (f : F p = none) (h0 : Nn H0 p) (n1 : p ≠ T.a) (n2 : p ≠ T.b) : RelH K T F0 H0 (upd F p o) t H:=by
 refine ⟨fun b x e=>?_,fun b x e=>?_,a.base.trans (same_new f),a.old,a.had,a.tw,?_,?_,sqL_mono (same_new f) a.sc,a.tabs,fun b x e=>?_⟩
 · by_cases hb : b = p
   · subst hb
     rw [upd_same] at e
     cases e
     exact hp
   · rw [upd_ne hb] at e
     exact a.sub b x e
 · by_cases hb : b = p
   · subst hb
     exact .inr h0
   · rw [upd_ne hb] at e
     exact a.new b x e
 · rw [upd_ne (Ne.symm n1)]
   exact a.tF1
 · rw [upd_ne (Ne.symm n2)]
   exact a.tF2
 · by_cases hb : b = p
   · rw [hb,upd_same] at e
     cases e
     exact ho
   · rw [upd_ne hb] at e
     exact a.nt b x e
theorem Rel.freeze {p : Addr} {o : HO} (a : Rel K T F0 H0 F r t σ H) (hp : H p = some o) (ho : NT o) (f : F p = none) (h0 : Nn H0 p) (n1 : p ≠ T.a) (n2 : p ≠ T.b) (no : ∀ (i : Nat) (d : D),r[i]? = some (.own d) → σ[i]? ≠ some (some (.ref p))) :
  Rel K T F0 H0 (upd F p o) r t σ H:=by
 refine ⟨a.toRelH.freeze hp ho f h0 n1 n2,a.len,fun i d h=>?_,fun i d h=>?_,a.inj⟩
 · obtain ⟨v,e,q⟩:=a.val i d h
   exact ⟨v,e,q.mono (same_new f)⟩
 · obtain ⟨q,e,w⟩:=a.own i d h
   have nq : q ≠ p:=fun z=>no i d h (z ▸ e)
   exact ⟨q,e,⟨by rw [upd_ne nq];exact w.fr,w.n1,w.n2,w.h0,w.at_.keep (same_new f) fun o h=>h⟩⟩
theorem Rel.lockF {p : Addr} {od : Obj} {u : HO} (a : Rel K T F0 H0 F r t σ H) (ht : LamX.Tabs T.tabs (upd H p (.frz od u))) (f : F p = none) (h0 : Nn H0 p) (n1 : p ≠ T.a) (n2 : p ≠ T.b) (no : ∀ (i : Nat) (d : D),r[i]? = some (.own d) → σ[i]? ≠ some (some (.ref p))) :
  Rel K T F0 H0 (upd F p (.frz od u)) r t σ (upd H p (.frz od u)):=by
 have nF : ∀ b x,F b = some x → b ≠ p:=fun b x e z=>by
  rw [z,f] at e
  cases e
 refine ⟨⟨fun b x e=>?_,fun b x e=>?_,a.base.trans (same_new f),fun b x e m1 m2 m3=>?_,fun b e=>a.had b (e.upd (by intro _ z;cases z)).1,⟨?_,?_,a.tw.ne,a.tw.small⟩,?_,?_,sqL_mono (same_new f) a.sc,ht,fun b x e=>?_⟩,a.len,fun i d h=>?_,fun i d h=>?_,a.inj⟩
 · by_cases hb : b = p
   · rw [hb,upd_same] at e ⊢
     exact e
   · rw [upd_ne hb] at e ⊢
     exact a.sub b x e
 · by_cases hb : b = p
   · rw [hb]
     exact .inr h0
   · rw [upd_ne hb] at e
     exact a.new b x e
 · rw [upd_ne (fun z=>h0.no (by rw [← z];exact e) m3)]
   exact a.old b x e m1 m2 m3
 · rw [upd_ne (Ne.symm n1)]
   exact a.tw.a
 · rw [upd_ne (Ne.symm n2)]
   exact a.tw.b
 · rw [upd_ne (Ne.symm n1)]
   exact a.tF1
 · rw [upd_ne (Ne.symm n2)]
   exact a.tF2
 · by_cases hb : b = p
   · rw [hb,upd_same] at e
     cases e
     intro _ z
     cases z
   · rw [upd_ne hb] at e
     exact a.nt b x e
 · obtain ⟨v,e,q⟩:=a.val i d h
   exact ⟨v,e,q.mono (same_new f)⟩
 · obtain ⟨q,e,w⟩:=a.own i d h
   have nq : q ≠ p:=fun z=>no i d h (z ▸ e)
   exact ⟨q,e,⟨by rw [upd_ne nq];exact w.fr,w.n1,w.n2,w.h0,w.at_.keep (same_new f) fun o h=>by rw [upd_ne nq];exact h⟩⟩
theorem Rel.setVal {i : Nat} {v : V} {d : D} (a : Rel K T F0 H0 F r t σ H) (h : Rp K T F v d) : Rel K T F0 H0 F (r.set i (.val d)) t (σ.set i (some v)) H:=by
 refine ⟨a.toRelH,by simpa using a.len,fun j e h2=>?_,fun j e h2=>?_,fun j k e1 e2 p h1 h2 h3 h4=>?_⟩
 · by_cases hj : i = j
   · subst hj
     by_cases hi : i < r.length
     · rw [List.getElem?_set_self hi] at h2
       cases h2
       exact ⟨v,List.getElem?_set_self (by rw [← a.len];exact hi),h⟩
     · rw [List.getElem?_eq_none (by simpa using hi)] at h2
       cases h2
   · rw [List.getElem?_set_ne hj] at h2 ⊢
     exact a.val j e h2
 · by_cases hj : i = j
   · subst hj
     by_cases hi : i < r.length
     · rw [List.getElem?_set_self hi] at h2
       cases h2
     · rw [List.getElem?_eq_none (by simpa using hi)] at h2
       cases h2
   · rw [List.getElem?_set_ne hj] at h2 ⊢
     exact a.own j e h2
 · have nj : ∀ {j : Nat} {e : D},(r.set i (.val d))[j]? = some (.own e) → i ≠ j:=fun {j e} q z=>by
    subst z
    by_cases hi : i < r.length
    · rw [List.getElem?_set_self hi] at q
      cases q
    · rw [List.getElem?_eq_none (by simpa using hi)] at q
      cases q
   have n1:=nj h1
   have n2:=nj h2
   rw [List.getElem?_set_ne n1] at h1 h3
   rw [List.getElem?_set_ne n2] at h2 h4
   exact a.inj j k e1 e2 p h1 h2 h3 h4
theorem Rel.setUn {i : Nat} (a : Rel K T F0 H0 F r t σ H) : Rel K T F0 H0 F (r.set i .un) t (σ.set i none) H:=by
 refine ⟨a.toRelH,by simpa using a.len,fun j e h2=>?_,fun j e h2=>?_,fun j k e1 e2 p h1 h2 h3 h4=>?_⟩
 · by_cases hj : i = j
   · subst hj
     by_cases hi : i < r.length
     · rw [List.getElem?_set_self hi] at h2
       cases h2
     · rw [List.getElem?_eq_none (by simpa using hi)] at h2
       cases h2
   · rw [List.getElem?_set_ne hj] at h2 ⊢
     exact a.val j e h2
 · by_cases hj : i = j
   · subst hj
     by_cases hi : i < r.length
     · rw [List.getElem?_set_self hi] at h2
       cases h2
     · rw [List.getElem?_eq_none (by simpa using hi)] at h2
       cases h2
   · rw [List.getElem?_set_ne hj] at h2 ⊢
     exact a.own j e h2
 · have nj : ∀ {j : Nat} {e : D},(r.set i .un)[j]? = some (.own e) → i ≠ j:=fun {j e} q z=>by
    subst z
    by_cases hi : i < r.length
    · rw [List.getElem?_set_self hi] at q
      cases q
    · rw [List.getElem?_eq_none (by simpa using hi)] at q
      cases q
   have n1:=nj h1
   have n2:=nj h2
   rw [List.getElem?_set_ne n1] at h1 h3
   rw [List.getElem?_set_ne n2] at h2 h4
   exact a.inj j k e1 e2 p h1 h2 h3 h4
theorem Rel.wipe (a : Rel K T F0 H0 F r t σ H) : ∀ vs : List Nat,Rel K T F0 H0 F (wipeR r vs) t (wipe σ vs) H
 | []=>a
 | v :: vs=>(a.wipe vs).setUn
theorem Rel.setOwn {i : Nat} {p : Addr} {d : D} (a : Rel K T F0 H0 F r t σ H) (h : Own K T H0 F H p d) (no : ∀ (j : Nat) (e : D),r[j]? = some (.own e) → j ≠ i → σ[j]? ≠ some (some (.ref p))) :
  Rel K T F0 H0 F (r.set i (.own d)) t (σ.set i (some (.ref p))) H:=by
 have cs : ∀ {j : Nat} {s : Sl},(r.set i (.own d))[j]? = some s → (i = j ∧ i < r.length ∧ s = .own d) ∨ (i ≠ j ∧ r[j]? = some s):=fun {j s} q=>by
  by_cases hj : i = j
  · subst hj
    by_cases hi : i < r.length
    · rw [List.getElem?_set_self hi] at q
      exact .inl ⟨rfl,hi,(Option.some.inj q).symm⟩
    · rw [List.getElem?_eq_none (by simpa using hi)] at q
      cases q
  · rw [List.getElem?_set_ne hj] at q
    exact .inr ⟨hj,q⟩
 refine ⟨a.toRelH,by simpa using a.len,fun j e h2=>?_,fun j e h2=>?_,fun j k e1 e2 q h1 h2 h3 h4=>?_⟩
 · rcases cs h2 with ⟨_,_,z⟩ | ⟨hj,z⟩
   · cases z
   · rw [List.getElem?_set_ne hj]
     exact a.val j e z
 · rcases cs h2 with ⟨rfl,hi,z⟩ | ⟨hj,z⟩
   · cases z
     exact ⟨p,List.getElem?_set_self (by rw [← a.len];exact hi),h⟩
   · rw [List.getElem?_set_ne hj]
     exact a.own j e z
 · rcases cs h1 with ⟨rfl,hi,_⟩ | ⟨hj,z⟩
   · rcases cs h2 with ⟨rfl,_,_⟩ | ⟨hk,z2⟩
     · rfl
     · rw [List.getElem?_set_self (by rw [← a.len];exact hi)] at h3
       have eq:=V.ref.inj (Option.some.inj (Option.some.inj h3))
       rw [List.getElem?_set_ne hk] at h4
       exact absurd (eq ▸ h4) (no k e2 z2 (Ne.symm hk))
   · rcases cs h2 with ⟨rfl,hi,_⟩ | ⟨hk,z2⟩
     · rw [List.getElem?_set_self (by rw [← a.len];exact hi)] at h4
       have eq:=V.ref.inj (Option.some.inj (Option.some.inj h4))
       rw [List.getElem?_set_ne hj] at h3
       exact absurd (eq ▸ h3) (no j e1 z (Ne.symm hj))
     · rw [List.getElem?_set_ne hj] at h3
       rw [List.getElem?_set_ne hk] at h4
       exact a.inj j k e1 e2 q z z2 h3 h4
end
end Fm
namespace Fm
open PySem PySem.Spec PyProof.Rows L2
section
variable {X : Cx} {pins : List (Addr × Obj)} {σ : L2.St} {H : Hp} {s : Shared}
def NewT (H : Hp) (xs : List V) (Q : VK) : Prop:=∀ p o,H p = none → o.dict = none → Q (.ref p) (upd H p (.frz o (.tup xs)))
abbrev tupO (its : List Value) : Obj:={ cls:=.type "tuple",data:=.seq its.toArray }
theorem laidT {h' : Heap} {its : List Value} {xs : List V} {t' : Nat} (I : Inv X pins σ H s) (kp : ∀ b u,s.heap.get? b = some u → h'.get? b = some u) (r : Vals xs its) (hz : xs.length ≤ sizeLine) :
  Inv X pins σ (upd H h'.objs.size (.frz (tupO its) (.tup xs))) { s with heap:=h'.push (tupO its),toks:=t' }:=
 (I.kept (t':=s.toks) kp).laid (t':=t') (fun _ _=>Heap.get?_push_of_some _) (Nat.le_refl _) ⟨Heap.get?_push_size _ rfl,hz,its,r,IsTup.new _ _⟩
theorem freshT {h' : Heap} (I : Inv X pins σ H s) (kp : ∀ b u,s.heap.get? b = some u → h'.get? b = some u) : H h'.objs.size = none:=(I.kept (t':=s.toks) kp).hok.fresh (Nat.le_refl _)
theorem NewT.laid {h' : Heap} {its : List Value} {xs : List V} {t' : Nat} {Q : VK} (q : NewT H xs Q) (I : Inv X pins σ H s) (kp : ∀ b u,s.heap.get? b = some u → h'.get? b = some u) (r : Vals xs its) (hz : xs.length ≤ sizeLine) :
  EP X pins σ Q (.ref h'.objs.size) { s with heap:=h'.push (tupO its),toks:=t' }:=
 ⟨.ref h'.objs.size,_,laidT I kp r hz,rfl,q _ _ (freshT I kp) rfl⟩
theorem NewT.here {its : List Value} {xs : List V} {Q : VK} (q : NewT H xs Q) (I : Inv X pins σ H s) (r : Vals xs its) (hz : xs.length ≤ sizeLine) : EP X pins σ Q (.ref s.heap.objs.size) { s with heap:=s.heap.push (tupO its) }:=
 q.laid (t':=s.toks) I (fun _ _ e=>e) r hz
theorem same_ok {a : Addr} {Q : VK} (I : Inv X pins σ H s) (q : Q (.ref a) H) : EP X pins σ Q (.ref a) s:=⟨.ref a,H,I,rfl,q⟩
def tTupP (t : TA) : TE:=fun σ H Q=>t σ H fun xs H1=>xs.length ≤ sizeLine ∧ NewT H1 xs Q
theorem pe_tupP {es : List Expr} {t : TA} {x1 : Nat} {pos : Pos} (h : PA X es t) : PE X (.Tuple es x1 pos) (tTupP t):=by
 constructor
 intro pins s σ H Q I hq
 have all:=h.run pos pins s σ H _ I hq
 exact wpAny_Tuple_spliced (thn all fun us s1 ⟨_,_,I1,rel,few,new⟩=>⟨rel.length ▸ few,new.here I1 rel few⟩)
theorem call_tupleP : CallR X (.type "tuple") (fun xs H Q=>∃ p ys,xs = [.ref p] ∧ ((SqL X.K H p ys ∧ NewT H ys Q) ∨ (SqT X.K H p ys ∧ Q (.ref p) H))):=by
 rintro pins s σ H _ us Q I r ⟨p,ys,rfl,⟨seq,new⟩ | ⟨seq,same⟩⟩
 all_goals rw [Vals.ref1 r]
 · have ⟨its,rel,l,few⟩:=I.list seq
   exact call_tuple_list l.isList (fun h2 kp=>new.laid (t':=s.toks) I kp rel few) (by rw [List.size_toArray,← rel.length];exact few)
 · have ⟨_,_,t,_⟩:=I.tuple seq
   exact call_tuple_same t (same_ok I same)
def rCatP (K : PySem.W.Frag) : R2:=fun x y H Q=>∃ a b xs ys,x = .ref a ∧ y = .ref b ∧ SqT K H a xs ∧ SqT K H b ys ∧ xs.length + ys.length ≤ sizeLine ∧
 (xs = [] → Q (.ref b) H) ∧ (xs ≠ [] → ys = [] → Q (.ref a) H) ∧ (xs ≠ [] → ys ≠ [] → NewT H (xs ++ ys) Q)
theorem op_catP : OpR X (binaryOp .Add) (rCatP X.K):=by
 rintro pins s σ H _ _ v u Q I rx ry ⟨a,b,xs,ys,rfl,rfl,sa,sb,few,left,right,new⟩
 obtain rfl : v = .ref a:=rx
 obtain rfl : u = .ref b:=ry
 have ⟨_,ra,ta,_⟩:=I.tuple sa
 have ⟨_,rb,tb,_⟩:=I.tuple sb
 rcases Classical.em (xs = []) with rfl | some
 · cases ra
   exact cat_tup0 ta tb (same_ok I (left rfl))
 · exact HT.cat_tup ta tb (fun z=>some (ra.nil_iff.mp z)) (fun z=>same_ok I (right some (rb.nil_iff.mp z))) (fun z=>(new some fun w=>z (rb.nil_iff.mpr w)).here I (ra.append rb) (by rw [List.length_append];exact few)) (by rw [← ra.length,← rb.length];exact few)
end
end Fm
namespace Fm
open PySem PySem.Spec PyProof.Rows L2
structure Pm where
 K : PySem.W.Frag
 T : Tn
 F0 : Hp
 H0 : Hp
 XE : Nat → Hp → Prop
def Aft {α : Type} (P : Pm) (F : Hp) (res : Res α) (Z : α → Tw → Prop) : Prop:=match res with
 | .ok a t=>Z a t
 | .exc n t=>∀ F' H',Same F F' → RelH P.K P.T P.F0 P.H0 F' t H' → P.XE n H'
 | .bad=>False
structure Kp (T : Tn) (F H F' H' : Hp) : Prop where
 base : Same F F'
 new : ∀ a o,F' a = some o → F a = some o ∨ Nn H a
 old : ∀ a o,H a = some o → a ≠ T.a → a ≠ T.b → NT o → H' a = some o
 had : ∀ a,Nn H' a → Nn H a
theorem Kp.refl {T : Tn} {F H : Hp} : Kp T F H F H:=⟨Same.refl F,fun _ _ h=>.inl h,fun _ _ h _ _ _=>h,fun _ h=>h⟩
theorem Kp.trans {T : Tn} {F H F1 H1 F2 H2 : Hp} (a : Kp T F H F1 H1) (b : Kp T F1 H1 F2 H2) : Kp T F H F2 H2:=
 ⟨a.1.trans b.1,fun c o h=>(b.new c o h).elim (fun q=>a.new c o q) fun q=>.inr (a.had c q),fun c o h n1 n2 n3=>b.old c o (a.old c o h n1 n2 n3) n1 n2 n3,fun c h=>a.had c (b.had c h)⟩
theorem Kp.of {K : PySem.W.Frag} {T : Tn} {F H F' H' : Hp} {t : Tw} (b : RelH K T F H F' t H') : Kp T F H F' H':=⟨b.base,b.new,b.old,b.had⟩
abbrev RelP (P : Pm) (F : Hp) (r : Rho) (t : Tw) (σ : L2.St) (H : Hp) : Prop:=Rel P.K P.T P.F0 P.H0 F r t σ H
theorem Kp.relH {P : Pm} {F H F' H' : Hp} {r : Rho} {t : Tw} {σ : L2.St} (k : Kp P.T F H F' H') (R : RelP P F' r t σ H') : RelH P.K P.T F H F' t H':=⟨R.sub,k.new,k.base,k.old,k.had,R.tw,R.tF1,R.tF2,R.sc,R.tabs,R.nt⟩
def RpB (P : Pm) (F : Hp) (r : Rho) (σ : L2.St) (v : V) (d : D) : Prop:=Rp P.K P.T F v d ∨ ∃ i : Nat,r[i]? = some (.own d) ∧ σ[i]? = some (some v)
def tD (P : Pm) (f : Rho → Tw → Res D) : TE:=fun σ H Q=>∃ F r t,RelP P F r t σ H ∧ Aft P F (f r t) fun d t'=>∀ v F' H',Kp P.T F H F' H' → RelP P F' r t' σ H' → Rp P.K P.T F' v d → Q v H'
def tB (P : Pm) (f : Rho → Tw → Res D) : TE:=fun σ H Q=>∃ F r t,RelP P F r t σ H ∧ Aft P F (f r t) fun d t'=>∀ v F' H',Kp P.T F H F' H' → RelP P F' r t' σ H' → RpB P F' r σ v d → Q v H'
def tDs (P : Pm) (f : Rho → Tw → Res (List D)) : TA:=fun σ H Q=>∃ F r t,RelP P F r t σ H ∧ Aft P F (f r t) fun ds t'=>∀ vs F' H',Kp P.T F H F' H' → RelP P F' r t' σ H' → RpL P.K P.T F' vs ds → Q vs H'
theorem peMono {X : Cx} {e : Expr} {t u : TE} (h : PE X e t) (i : ∀ σ H Q,u σ H Q → t σ H Q) : PE X e u:=⟨fun pins s σ H Q I q=>h.run pins s σ H Q I (i σ H Q q)⟩
theorem paMono {X : Cx} {e : List Expr} {t u : TA} (h : PA X e t) (i : ∀ σ H Q,u σ H Q → t σ H Q) : PA X e u:=⟨fun pos pins s σ H Q I q=>h.run pos pins s σ H Q I (i σ H Q q)⟩
theorem ptMono {X : Cx} {e : Expr} {t u : TT} (h : PT X e t) (i : ∀ σ H Q,u σ H Q → t σ H Q) : PT X e u:=⟨fun pins s σ H Q I q=>h.run pins s σ H Q I (i σ H Q q)⟩
theorem psMono {X : Cx} {e : Stmt} {t u : TS} (h : PS X e t) (i : ∀ D σ H,u D σ H → t D σ H) : PS X e u:=⟨fun pins s σ H D I q=>h.run pins s σ H D I (i D σ H q)⟩
theorem pssMono {X : Cx} {e : List Stmt} {t u : TS} (h : PSs X e t) (i : ∀ D σ H,u D σ H → t D σ H) : PSs X e u:=⟨fun pins s σ H D I q=>h.run pins s σ H D I (i D σ H q)⟩
section
variable {P : Pm} {F F' H : Hp} {r : Rho} {t t' : Tw} {σ : L2.St} {v : V}
theorem Aft.mono {α : Type} {res : Res α} {Z Z' : α → Tw → Prop} (h : Aft P F res Z) (i : ∀ a t,Z a t → Z' a t) : Aft P F res Z':=by
 cases res with
 | ok a t=>exact i a t h
 | exc n t=>exact h
 | bad=>exact h
theorem Aft.bind {α β : Type} {res : Res α} {f : α → Tw → Res β} {Z : β → Tw → Prop} (h : Aft P F (res.bind f) Z) : Aft P F res fun a t=>Aft P F (f a t) Z:=by
 cases res with
 | ok a t=>exact h
 | exc n t=>exact h
 | bad=>exact h
theorem Aft.thn {α β : Type} {res : Res α} {f : α → Tw → Res β} {Z : β → Tw → Prop} (h : Aft P F res fun a t=>Aft P F (f a t) Z) : Aft P F (res.bind f) Z:=by
 cases res with
 | ok a t=>exact h
 | exc n t=>exact h
 | bad=>exact h
theorem Aft.up {α : Type} {res : Res α} {Z : α → Tw → Prop} (h : Aft P F res Z) (s : Same F F') : Aft P F' res Z:=by
 cases res with
 | ok a t=>exact h
 | exc n t=>exact fun F2 H2 q=>h F2 H2 (s.trans q)
 | bad=>exact h
theorem Aft.lift {α : Type} {o : Option α} {Z : α → Tw → Prop} (h : Aft P F (Fm.lift o t) Z) : ∃ a,o = some a ∧ Z a t:=by
 cases o with
 | none=>exact h.elim
 | some a=>exact ⟨a,rfl,h⟩
theorem RpB.mono (s : Same F F') {d : D} (h : RpB P F r σ v d) : RpB P F' r σ v d:=h.elim (fun q=>.inl (q.mono s)) .inr
theorem RpB.of {d : D} (h : Rp P.K P.T F v d) : RpB P F r σ v d:=.inl h
theorem RpB.lst (R : RelP P F r t σ H) {ds : List D} (h : RpB P F r σ v (.lst ds)) : ∃ a xs,v = .ref a ∧ H a = some (.lst xs) ∧ xs.length ≤ sizeLine ∧ RpL P.K P.T F xs ds:=by
 rcases h with h | ⟨i,h1,h2⟩
 · cases h with
   | lst h z q=>exact ⟨_,_,rfl,R.sub _ _ h,z,q⟩
 · obtain ⟨p,e,o⟩:=R.own i _ h1
   rw [e] at h2
   cases h2
   obtain ⟨vs,a,b,c⟩:=o.at_
   exact ⟨p,vs,rfl,a,b,c⟩
theorem RpB.dct (R : RelP P F r t σ H) {ds : List (Key × D)} (h : RpB P F r σ v (.dct ds)) : ∃ a kvs,v = .ref a ∧ Rd H a (.dK kvs) ∧ RpK P.K P.T F kvs ds:=by
 rcases h with h | ⟨i,h1,h2⟩
 · cases h with
   | dct h z q=>exact ⟨_,_,rfl,.inr ⟨_,R.sub _ _ h⟩,q⟩
 · obtain ⟨p,e,o⟩:=R.own i _ h1
   rw [e] at h2
   cases h2
   obtain ⟨vs,a,b,c⟩:=o.at_
   exact ⟨p,vs,rfl,.inl a,c⟩
theorem RpB.dcn (R : RelP P F r t σ H) {ds : List (NestedKey × D)} (h : RpB P F r σ v (.dcn ds)) : ∃ a xs,v = .ref a ∧ Rd H a (DN P.T.pg P.T.wo a xs) ∧ ((a == sysModules) = false ∧ (xs.map (·.1)).Nodup) ∧ xs.length ≤ sizeLine ∧ RpN P.K P.T F xs ds:=by
 rcases h with h | ⟨i,h1,h2⟩
 · cases h with
   | dcn h y z q=>exact ⟨_,_,rfl,.inr ⟨_,R.sub _ _ h⟩,y,z,q⟩
 · obtain ⟨p,e,o⟩:=R.own i _ h1
   rw [e] at h2
   cases h2
   obtain ⟨vs,a,y,b,c⟩:=o.at_
   exact ⟨p,vs,rfl,.inl a,y,b,c⟩
theorem RpB.rp (R : RelP P F r t σ H) {d : D} (h : RpB P F r σ v d) (n1 : ∀ ds,d ≠ .lst ds) (n2 : ∀ ds,d ≠ .dct ds) (n3 : ∀ ds,d ≠ .dcn ds:=by intro _ z;cases z) : Rp P.K P.T F v d:=by
 rcases h with h | ⟨i,h1,h2⟩
 · exact h
 · obtain ⟨p,e,o⟩:=R.own i _ h1
   have q:=o.at_
   cases d with
   | lst ds=>exact absurd rfl (n1 ds)
   | dct ds=>exact absurd rfl (n2 ds)
   | dcn ds=>exact absurd rfl (n3 ds)
   | _=>exact q.elim
theorem RpB.int (R : RelP P F r t σ H) {i : Int} (h : RpB P F r σ v (.int i)) : v = .int i:=by
 cases h.rp R (fun _ z=>by cases z) (fun _ z=>by cases z)
 rfl
theorem RpB.bl (R : RelP P F r t σ H) {i : Bool} (h : RpB P F r σ v (.bl i)) : v = .bl i:=by
 cases h.rp R (fun _ z=>by cases z) (fun _ z=>by cases z)
 rfl
theorem RpB.str (R : RelP P F r t σ H) {i : Str} (h : RpB P F r σ v (.str i)) : v = .str i:=by
 cases h.rp R (fun _ z=>by cases z) (fun _ z=>by cases z)
 rfl
theorem RpB.tup (R : RelP P F r t σ H) {ds : List D} (h : RpB P F r σ v (.tup ds)) : ∃ a xs,v = .ref a ∧ SqP P.K F a xs ∧ xs.length ≤ sizeLine ∧ RpL P.K P.T F xs ds:=by
 cases h.rp R (fun _ z=>by cases z) (fun _ z=>by cases z) with
 | tup h2 z q=>exact ⟨_,_,rfl,h2,z,q⟩
theorem RpB.dp (R : RelP P F r t σ H) {d : D} (h : RpB P F r σ v d) (l : lay d = true) : Dp P.K H v d.py:=by
 cases d with
 | lst ds=>
  obtain ⟨a,xs,rfl,e,_,q⟩:=h.lst R
  exact .lst (SqL.of e) (q.dp R.sub (by simpa only [lay,D.py,PyData.canLay0] using l))
 | dct ds=>simp [lay,D.py,PyData.canLay0] at l
 | dcn ds=>simp [lay,D.py,PyData.canLay0] at l
 | _=>exact (h.rp R (fun _ z=>by cases z) (fun _ z=>by cases z)).dp R.sub l
theorem okLen_le {n : Nat} (h : okLen n = true) : n ≤ sizeLine:=by
 rw [sizeLine_eq]
 exact of_decide_eq_true h
theorem RpB.tru (R : RelP P F r t σ H) {d : D} {b : Bool} (h : RpB P F r σ v d) (e : truD d = some b) : TruV P.K v H b:=by
 cases d with
 | lst ds=>
  obtain ⟨a,xs,rfl,e2,_,q⟩:=h.lst R
  cases e
  exact .inl ⟨_,SqL.of e2,by cases q <;> rfl⟩
 | tup ds=>
  obtain ⟨a,xs,rfl,e2,_,q⟩:=h.tup R
  cases e
  exact .inr (.inl ⟨_,sqP_t R.sub e2,by cases q <;> rfl⟩)
 | str x=>
  obtain rfl:=h.str R
  have e : (if okLen x.length = true then some ((x.length : Int) != 0) else none) = some b:=e
  split at e
  · rename_i hl
    cases e
    exact ⟨okLen_le hl,rfl⟩
  · cases e
 | non=>
  cases h.rp R (fun _ z=>by cases z) (fun _ z=>by cases z)
  cases e
  rfl
 | bl x=>
  obtain rfl:=h.bl R
  cases e
  rfl
 | int x=>
  obtain rfl:=h.int R
  cases e
  rfl
 | dct ds=>cases e
 | exc n=>cases e
 | dcn _=>cases e
 | tok=>cases e
 | scr ns=>
  cases h.rp R (fun _ z=>by cases z) (fun _ z=>by cases z)
  cases e
  exact .inl ⟨_,sqL_mono R.sub R.sc,by cases P.T.ns <;> rfl⟩
theorem tB_tD {f : Rho → Tw → Res D} {X : Cx} {e : Expr} (h : PE X e (tD P f)) : PE X e (tB P f):=peMono h fun σ H Q ⟨F,r,t,R,q⟩=>
 ⟨F,r,t,R,q.mono fun d t' q v F' H' s R' h=>q v F' H' s R' (.inl h)⟩
theorem op1 {fa : Rho → Tw → Res D} {f : D → Option D} {rr : V → Hp → VK → Prop}
  (hr : ∀ {x : V} {dx d : D} {F : Hp} {r : Rho} {t : Tw} {σ : L2.St} {H : Hp} {Q : VK},f dx = some d → RelP P F r t σ H → RpB P F r σ x dx →
   (∀ v F' H',Kp P.T F H F' H' → RelP P F' r t σ H' → Rp P.K P.T F' v d → Q v H') → rr x H Q) (σ : L2.St) (H : Hp) (Q : VK)
  (h : tD P (fun r t=>(fa r t).bind fun x t1=>Fm.lift (f x) t1) σ H Q) : tUn rr (tB P fa) σ H Q:=by
 obtain ⟨F,r,t,R,h⟩:=h
 refine ⟨F,r,t,R,h.bind.mono fun dx t1 h v F1 H1 s1 R1 rx=>?_⟩
 obtain ⟨d,e,q⟩:=h.lift
 exact hr e R1 rx fun v F' H' s R' h=>q v F' H' (s1.trans s) R' h
theorem op2 {fa fb : Rho → Tw → Res D} {f : D → D → Option D} {rr : R2}
  (hr : ∀ {x y : V} {dx dy d : D} {F : Hp} {r : Rho} {t : Tw} {σ : L2.St} {H : Hp} {Q : VK},f dx dy = some d → RelP P F r t σ H → RpB P F r σ x dx → RpB P F r σ y dy →
   (∀ v F' H',Kp P.T F H F' H' → RelP P F' r t σ H' → Rp P.K P.T F' v d → Q v H') → rr x y H Q) (σ : L2.St) (H : Hp) (Q : VK)
  (h : tD P (fun r t=>(fa r t).bind fun x t1=>(fb r t1).bind fun y t2=>Fm.lift (f x y) t2) σ H Q) : tOp rr (tB P fa) (tB P fb) σ H Q:=by
 obtain ⟨F,r,t,R,h⟩:=h
 refine ⟨F,r,t,R,h.bind.mono fun dx t1 h v F1 H1 s1 R1 rx=>?_⟩
 refine ⟨F1,r,t1,R1,(h.up s1.1).bind.mono fun dy t2 h w F2 H2 s2 R2 ry=>?_⟩
 obtain ⟨d,e,q⟩:=h.lift
 exact hr e R2 (rx.mono s2.1) ry fun v F' H' s R' h=>q v F' H' (s1.trans (s2.trans s)) R' h
theorem mkTup {xs : List V} {ds : List D} {Q : VK} (R : RelP P F r t σ H) (z : xs.length ≤ sizeLine) (q : RpL P.K P.T F xs ds) (h : ∀ v F' H',Kp P.T F H F' H' → RelP P F' r t σ H' → Rp P.K P.T F' v (.tup ds) → Q v H') :
  NewT H xs Q:=fun p o hp hd=>by
 have b:=R.toRelH.newF (o:=.frz o (.tup xs)) hp
 exact h _ _ _ (Kp.of b) (R.step b) (.tup ⟨.inl (.inr ⟨o,upd_same⟩),.inl ⟨o,xs,upd_same,hd⟩⟩ z (q.mono b.base))
theorem mkLst {xs : List V} {ds : List D} {Q : VK} (R : RelP P F r t σ H) (z : xs.length ≤ sizeLine) (q : RpL P.K P.T F xs ds) (h : ∀ v F' H',Kp P.T F H F' H' → RelP P F' r t σ H' → Rp P.K P.T F' v (.lst ds) → Q v H') :
  ∀ p,H p = none → Q (.ref p) (upd H p (.lst xs)):=fun p hp=>by
 have b:=R.toRelH.newF (o:=.lst xs) hp
 exact h _ _ _ (Kp.of b) (R.step b) (.lst upd_same z (q.mono b.base))
end
section
variable {P : Pm} {X : Cx} {a b : Expr} {pos : Pos} {fa fb : Rho → Tw → Res D}
theorem s_add (hK : X.K = P.K) (ha : PE X a (tB P fa)) (hb : PE X b (tB P fb)) : PE X (.BinOp a .Add b pos) (tD P fun r t=>(fa r t).bind fun x t1=>(fb r t1).bind fun y t2=>Fm.lift (addD x y) t2):=by
 refine peMono (pe_op (OpR.or op_add (OpR.or op_add_str op_catP)) ha hb) (op2 fun {x y dx dy d F r t σ H Q} e R rx ry q=>?_)
 cases dx with
 | int i=>
  cases dy with
  | int j=>
   cases e
   exact .inl ⟨i,j,rx.int R,ry.int R,q _ _ _ Kp.refl R (.int _)⟩
  | _=>cases e
 | str i=>
  cases dy with
  | str j=>
   simp only [addD] at e
   split at e
   · rename_i hl
     cases e
     exact .inr (.inl ⟨i,j,rx.str R,ry.str R,okLen_le hl,q _ _ _ Kp.refl R (.str _)⟩)
   · cases e
  | _=>cases e
 | tup xs=>
  cases dy with
  | tup ys=>
   simp only [addD] at e
   split at e
   · rename_i hl
     cases e
     obtain ⟨p1,v1,rfl,e1,z1,q1⟩:=rx.tup R
     obtain ⟨p2,v2,rfl,e2,z2,q2⟩:=ry.tup R
     have hl2 : v1.length + v2.length ≤ sizeLine:=by
      rw [q1.length,q2.length]
      exact okLen_le hl
     rw [hK]
     refine .inr (.inr ⟨p1,p2,v1,v2,rfl,rfl,sqP_t R.sub e1,sqP_t R.sub e2,hl2,fun h0=>?_,fun _ h0=>?_,fun _ _=>?_⟩)
     · subst h0
       cases q1
       exact q _ _ _ Kp.refl R (.tup e2 z2 q2)
     · subst h0
       cases q2
       refine q _ _ _ Kp.refl R ?_
       rw [List.append_nil]
       exact .tup e1 z1 q1
     · exact mkTup R (by rw [List.length_append];exact hl2) (q1.append q2) q
   · cases e
  | _=>cases e
 | _=>cases e
theorem s_int2 {op : Operator} {f : D → D → Option D} {C : Int → Int → Prop} {g : Int → Int → Int} (ho : OpR X (binaryOp op) (rI C fun i j=>.int (g i j)))
  (hf : ∀ dx dy d,f dx dy = some d → ∃ i j,dx = .int i ∧ dy = .int j ∧ C i j ∧ d = .int (g i j)) (ha : PE X a (tB P fa)) (hb : PE X b (tB P fb)) :
  PE X (.BinOp a op b pos) (tD P fun r t=>(fa r t).bind fun x t1=>(fb r t1).bind fun y t2=>Fm.lift (f x y) t2):=by
 refine peMono (pe_op ho ha hb) (op2 fun {x y dx dy d F r t σ H Q} e R rx ry q=>?_)
 obtain ⟨i,j,rfl,rfl,c,rfl⟩:=hf dx dy d e
 exact ⟨i,j,rx.int R,ry.int R,c,q _ _ _ Kp.refl R (.int _)⟩
theorem s_sub (ha : PE X a (tB P fa)) (hb : PE X b (tB P fb)) : PE X (.BinOp a .Sub b pos) (tD P fun r t=>(fa r t).bind fun x t1=>(fb r t1).bind fun y t2=>Fm.lift (subD x y) t2):=by
 refine peMono (pe_op op_sub ha hb) (op2 fun {x y dx dy d F r t σ H Q} e R rx ry q=>?_)
 cases dx with
 | int i=>
  cases dy with
  | int j=>
   cases e
   exact ⟨i,j,rx.int R,ry.int R,q _ _ _ Kp.refl R (.int _)⟩
  | _=>cases e
 | _=>cases e
theorem mulOk_small {x : Str} {n : Int} (h1 : 0 ≤ n) (h2 : n ≤ 1000) (h3 : x.length ≤ 1000) : PySem.MulOk x n:=by
 have hm : x.length * n.toNat ≤ 1000 * 1000:=Nat.mul_le_mul h3 (by omega)
 refine ⟨?_,fun h _=>?_,fun h _=>?_⟩
 · rw [decide_eq_false (show ¬ n < -(2 ^ 63 : Int) by omega),decide_eq_false (show ¬ n ≥ 2 ^ 63 by omega)]
   rfl
 · have : ((2 : Int) ^ 63 - 1) / n ≥ ((2 : Int) ^ 63 - 1) / 1000:=by
    rw [ge_iff_le,Int.le_ediv_iff_mul_le (by omega)]
    have : ((2 : Int) ^ 63 - 1) / 1000 = 9223372036854775:=by decide
    rw [this]
    have:=Int.mul_le_mul_of_nonneg_left h2 (show (0 : Int) ≤ 9223372036854775 by omega)
    omega
   have e : ((2 : Int) ^ 63 - 1) / 1000 = 9223372036854775:=by decide
   omega
 · show decide (_ > sizeLine) = false
   rw [decide_eq_false_iff_not,sizeLine_eq]
   omega
theorem op_mulS : OpR X (binaryOp .Mult) (fun x y H Q=>∃ i n,x = .str i ∧ y = .int n ∧ PySem.MulOk i n ∧ Q (.str (PySem.Txt.mul i n)) H):=by
 intro pins s σ H x y v u Q I rx ry h
 obtain ⟨i,n,rfl,rfl,hz,q⟩:=h
 obtain ⟨t,rfl⟩:=rx
 obtain ⟨t',rfl⟩:=ry
 exact PySem.SB.mul hz fun t' tk=>⟨.str _,H,I.tok _,⟨_,rfl⟩,q⟩
theorem rp_rep {K : PySem.W.Frag} {T : Tn} {F : Hp} {vs : List V} {ds : List D} (h : RpL K T F vs ds) : ∀ m : Nat,RpL K T F (List.replicate m vs).flatten (repL m ds)
 | 0=>.nil
 | m + 1=>by
  unfold repL
  rw [List.replicate_succ,List.replicate_succ,List.flatten_cons,List.flatten_cons]
  exact h.append (rp_rep h m)
theorem len_rep {α : Type} (xs : List α) : ∀ m : Nat,(List.replicate m xs).flatten.length = m * xs.length
 | 0=>by simp
 | m + 1=>by
  rw [List.replicate_succ,List.flatten_cons,List.length_append,len_rep xs m,Nat.succ_mul]
  omega
theorem bits_log (x : Int) : Builtin.Int.intBits x ≤ x.natAbs.log2 + 1:=by
 unfold Builtin.Int.intBits
 split
 · exact Nat.zero_le _
 · exact Nat.le_refl _
theorem mul_few {i j : Int} (h : i.natAbs.log2 + j.natAbs.log2 < 134000000) : CMulX i j:=by
 have a:=bits_log i
 have b:=bits_log j
 show (Builtin.Int.intBits i : Int) + (Builtin.Int.intBits j : Int) ≤ 134217728
 omega
theorem s_mul (ha : PE X a (tB P fa)) (hb : PE X b (tB P fb)) : PE X (.BinOp a .Mult b pos) (tD P fun r t=>(fa r t).bind fun x t1=>(fb r t1).bind fun y t2=>Fm.lift (mulD x y) t2):=by
 refine peMono (pe_op (OpR.or (OpR.or op_mulX op_mulS) op_rep) ha hb) (op2 fun {x y dx dy d F r t σ H Q} e R rx ry q=>?_)
 cases dx with
 | int i=>
  cases dy with
  | int j=>
   simp only [mulD] at e
   split at e
   · rename_i h
     cases e
     exact .inl <| .inl ⟨i,j,rx.int R,ry.int R,mul_few (of_decide_eq_true h),q _ _ _ Kp.refl R (.int _)⟩
   · cases e
  | _=>cases e
 | str i=>
  cases dy with
  | int n=>
   simp only [mulD] at e
   split at e
   · rename_i h
     cases e
     simp only [Bool.and_eq_true,decide_eq_true_eq] at h
     exact .inl <| .inr ⟨i,n,rx.str R,ry.int R,mulOk_small h.1.1 h.1.2 h.2,q _ _ _ Kp.refl R (.str _)⟩
   · cases e
  | _=>cases e
 | lst xs=>
  cases dy with
  | int n=>
   simp only [mulD] at e
   split at e
   · rename_i h
     cases e
     simp only [Bool.and_eq_true,decide_eq_true_eq] at h
     obtain ⟨p1,v1,rfl,e1,z1,q1⟩:=rx.lst R
     have small : n.toNat * v1.length ≤ 1000 * 1000:=Nat.mul_le_mul (by omega) (by rw [q1.length];exact h.2)
     have few : n.toNat * v1.length ≤ sizeLine:=by rw [sizeLine_eq];omega
     exact .inr ⟨p1,n,v1,rfl,ry.int R,e1,by omega,by omega,by rw [Nat.mul_comm];exact few,mkLst R (by rw [len_rep];exact few) (rp_rep q1 n.toNat) q⟩
   · cases e
  | _=>cases e
 | _=>cases e
def CDivA (_ j : Int) : Prop:=j ≠ 0
def PyR (X : Cx) : Prop:=∀ (pins : List (Addr × Obj)) (σ : L2.St) (H : Hp) (s : Shared),Inv X pins σ H s → PylongRoom (model X.prog X.w) X.A s
theorem opInt {f : Value → Value → Sem Value} {C : Int → Int → Prop} {g : Int → Int → Int} (rule : ∀ (pins : List (Addr × Obj)) (σ : L2.St) (H : Hp) (s : Shared) (i j : Int) (t u : Tok) (Q : Value → Shared → Prop) (E : Value → Shared → Prop),Inv X pins σ H s → C i j → Q (.int (g i j) s.toks) { s with toks:=s.toks + 1 } → wpAny (model X.prog X.w) X.A (f (.int i t) (.int j u)) Q E s) :
  OpR X f (rI C fun i j=>.int (g i j)):=fun pins s σ H _ _ _ _ Q I rx ry ⟨i,j,ex,ey,c,q⟩=>by
 subst ex ey
 obtain ⟨⟨t,rfl⟩,u,rfl⟩:=And.intro rx ry
 exact rule pins σ H s i j t u _ _ I c ⟨V.int (g i j),H,I.tok _,⟨_,rfl⟩,q⟩
theorem op_fdivA (py : PyR X) : OpR X (binaryOp .FloorDiv) (rI CDivA fun i j=>.int (i.fdiv j)):=opInt fun _ _ _ _ _ _ _ _ _ _ I c q=>floordiv_int c q (.inr (py _ _ _ _ I))
theorem s_fdiv (py : PyR X) (ha : PE X a (tB P fa)) (hb : PE X b (tB P fb)) : PE X (.BinOp a .FloorDiv b pos) (tD P fun r t=>(fa r t).bind fun x t1=>(fb r t1).bind fun y t2=>Fm.lift (fdivD x y) t2):=
 s_int2 (op_fdivA py) (fun dx dy d e=>by
  cases dx with
  | int i=>
   cases dy with
   | int j=>
    simp only [fdivD] at e
    split at e
    · rename_i h
      cases e
      exact ⟨i,j,rfl,rfl,(of_decide_eq_true h : j ≠ 0),rfl⟩
    · cases e
   | _=>cases e
  | _=>cases e) ha hb
theorem s_mod (ha : PE X a (tB P fa)) (hb : PE X b (tB P fb)) : PE X (.BinOp a .Mod b pos) (tD P fun r t=>(fa r t).bind fun x t1=>(fb r t1).bind fun y t2=>Fm.lift (modD x y) t2):=
 s_int2 op_modN (fun dx dy d e=>by
  cases dx with
  | int i=>
   cases dy with
   | int j=>
    simp only [modD] at e
    split at e
    · cases e
    · rename_i h
      cases e
      exact ⟨i,j,rfl,rfl,h,rfl⟩
   | _=>cases e
  | _=>cases e) ha hb
theorem okPow_c {i j : Int} (h : okPow i j = true) : CPow i j:=by
 have h1:=Bool.and_eq_true_iff.mp h
 have h2:=Bool.and_eq_true_iff.mp h1.1
 exact ⟨of_decide_eq_true h2.1,of_decide_eq_true h2.2,of_decide_eq_true h1.2⟩
theorem s_pow (ha : PE X a (tB P fa)) (hb : PE X b (tB P fb)) : PE X (.BinOp a .Pow b pos) (tD P fun r t=>(fa r t).bind fun x t1=>(fb r t1).bind fun y t2=>Fm.lift (powD x y) t2):=
 s_int2 op_pow (fun dx dy d e=>by
  cases dx with
  | int i=>
   cases dy with
   | int j=>
    simp only [powD] at e
    split at e
    · rename_i h
      cases e
      exact ⟨i,j,rfl,rfl,okPow_c h,rfl⟩
    · cases e
   | _=>cases e
  | _=>cases e) ha hb
theorem s_shl (ha : PE X a (tB P fa)) (hb : PE X b (tB P fb)) : PE X (.BinOp a .LShift b pos) (tD P fun r t=>(fa r t).bind fun x t1=>(fb r t1).bind fun y t2=>Fm.lift (shlD x y) t2):=
 s_int2 op_shl (fun dx dy d e=>by
  cases dx with
  | int i=>
   cases dy with
   | int j=>
    simp only [shlD] at e
    split at e
    · rename_i h
      cases e
      exact ⟨i,j,rfl,rfl,okPow_c h,rfl⟩
    · cases e
   | _=>cases e
  | _=>cases e) ha hb
theorem s_neg (ha : PE X a (tB P fa)) : PE X (.UnaryOp .USub a pos) (tD P fun r t=>(fa r t).bind fun x t1=>Fm.lift (negD x) t1):=by
 refine peMono (pe_un un_neg ha) (op1 fun {x dx d F r t σ H Q} e R rx q=>?_)
 cases dx with
 | int i=>
  cases e
  exact ⟨i,rx.int R,q _ _ _ Kp.refl R (.int _)⟩
 | _=>cases e
end
end Fm
namespace Fm
open PySem PySem.Spec PyProof.Rows L2
theorem pys_map : ∀ xs : List D,pys xs = xs.map D.py
 | []=>by simp only [pys,List.map_nil]
 | x :: xs=>by simp only [pys,List.map_cons,pys_map xs]
theorem layAll : ∀ xs : List D,PyData.canLayAll0 (pys xs) = xs.all lay
 | []=>by simp only [pys,PyData.canLayAll0,List.all_nil]
 | x :: xs=>by simp only [pys,PyData.canLayAll0,List.all_cons,layAll xs,lay]
section
variable {P : Pm} {X : Cx}
def OpS (P : Pm) (X : Cx) (g : Value → Value → Sem Value) (f : D → D → Option D) : Prop:=
 ∃ rr : R2,OpR X g rr ∧ ∀ {x y : V} {dx dy d : D} {F : Hp} {r : Rho} {t : Tw} {σ : L2.St} {H : Hp} {Q : VK},f dx dy = some d → RelP P F r t σ H → RpB P F r σ x dx → RpB P F r σ y dy →
   (∀ v F' H',Kp P.T F H F' H' → RelP P F' r t σ H' → Rp P.K P.T F' v d → Q v H') → rr x y H Q
theorem intCmp {op : CmpOp} {g : Int → Int → Bool} {f : D → D → Option D} (ho : OpR X (compareOp op) (rI0 fun i j=>.bl (g i j))) (hf : ∀ dx dy d,f dx dy = some d → ∃ i j,dx = .int i ∧ dy = .int j ∧ d = .bl (g i j)) : OpS P X (compareOp op) f:=by
 refine ⟨_,ho,fun {x y dx dy d F r t σ H Q} e R rx ry q=>?_⟩
 obtain ⟨i,j,rfl,rfl,rfl⟩:=hf dx dy d e
 exact ⟨i,j,rx.int R,ry.int R,q _ _ _ Kp.refl R (.bl _)⟩
def rEqA (K : PySem.W.Frag) (u : Nat) (neg : Bool) : R2:=fun x y H Q=>∃ d e,Dp K H x d ∧ Dp K H y e ∧ d.canLay0 = true ∧ e.canLay0 = true ∧ u + min d.depth e.depth < cLine ∧ Q (.bl (if neg then !PyData.eqv d e else PyData.eqv d e)) H
theorem op_eqA : OpR X (compareOp .Eq) (rEqA X.K X.A.units false):=by
 intro pins s σ H x y v u Q I rx ry h
 obtain ⟨d,e,hd,he,sd,se,hu,q⟩:=h
 obtain ⟨as,r1⟩:=Dp.reads I d x v hd rx
 obtain ⟨bs,r2⟩:=Dp.reads I e y u he ry
 exact SeqAt.compareEq_reads r1 r2 sd se hu ⟨.bl _,H,I,rfl,q⟩
theorem op_neA : OpR X (compareOp .NotEq) (rEqA X.K X.A.units true):=by
 intro pins s σ H x y v u Q I rx ry h
 obtain ⟨d,e,hd,he,sd,se,hu,q⟩:=h
 obtain ⟨as,r1⟩:=Dp.reads I d x v hd rx
 obtain ⟨bs,r2⟩:=Dp.reads I e y u he ry
 exact SeqAt.compareNe_reads r1 r2 sd se hu ⟨.bl _,H,I,rfl,q⟩
theorem okEq_parts {a b : D} (h : okEq a b = true) : lay a = true ∧ lay b = true ∧ min (dep a) (dep b) ≤ 190:=by
 have h1:=Bool.and_eq_true_iff.mp h
 have h2:=Bool.and_eq_true_iff.mp h1.1
 exact ⟨h2.1,h2.2,of_decide_eq_true h1.2⟩
def rInA (K : PySem.W.Frag) (u : Nat) (neg : Bool) : R2:=fun x y H Q=>∃ d ds,Dp K H x d ∧ (Dp K H y (.tuple ds) ∨ Dp K H y (.list ds)) ∧ d.canLay0 = true ∧ PyData.canLayAll0 ds = true ∧ u + 1 + min (PyData.depthAll ds) d.depth < cLine ∧
 Q (.bl (if neg then !(ds.any fun z=>PyData.eqv z d) else ds.any fun z=>PyData.eqv z d)) H
theorem op_inA : OpR X (compareOp .In) (rInA X.K X.A.units false):=by
 intro pins s σ H x y v u Q I rx ry h
 obtain ⟨d,ds,hd,he,sd,se,hu,q⟩:=h
 obtain ⟨as,r1⟩:=Dp.reads I d x v hd rx
 rcases he with he | he
 · obtain ⟨bs,r2⟩:=Dp.reads I (.tuple ds) y u he ry
   exact SeqAt.in_tuple_reads r2 r1 se sd hu ⟨.bl _,H,I,rfl,q⟩
 · obtain ⟨bs,r2⟩:=Dp.reads I (.list ds) y u he ry
   exact SeqAt.in_list_reads r2 r1 se sd hu ⟨.bl _,H,I,rfl,q⟩
theorem op_notInA : OpR X (compareOp .NotIn) (rInA X.K X.A.units true):=by
 intro pins s σ H x y v u Q I rx ry h
 obtain ⟨d,ds,hd,he,sd,se,hu,q⟩:=h
 obtain ⟨as,r1⟩:=Dp.reads I d x v hd rx
 rcases he with he | he
 · obtain ⟨bs,r2⟩:=Dp.reads I (.tuple ds) y u he ry
   exact SeqAt.notIn_tuple_reads r2 r1 se sd hu ⟨.bl _,H,I,rfl,q⟩
 · obtain ⟨bs,r2⟩:=Dp.reads I (.list ds) y u he ry
   exact SeqAt.notIn_list_reads r2 r1 se sd hu ⟨.bl _,H,I,rfl,q⟩
theorem inB_seq {a : D} {xs : List D} {c : Bool} (h : (if lay a && (xs.all lay) && decide (dep a ≤ 190) then some (xs.any fun z=>eqD z a) else none) = some c) :
  lay a = true ∧ PyData.canLayAll0 (pys xs) = true ∧ dep a ≤ 190 ∧ c = (pys xs).any fun z=>PyData.eqv z a.py:=by
 split at h
 · rename_i h1
   have h2:=Bool.and_eq_true_iff.mp h1
   have h3:=Bool.and_eq_true_iff.mp h2.1
   cases h
   refine ⟨h3.1,(layAll xs).trans h3.2,of_decide_eq_true h2.2,?_⟩
   rw [pys_map,List.any_map]
   rfl
 · cases h
theorem inS {neg : Bool} {F : Hp} {r : Rho} {t : Tw} {σ : L2.St} {H : Hp} {x y : V} {dx dy : D} {c : Bool} {Q : VK} {u : Nat} (hu : u + 200 < cLine) (e : inB dx dy = some c) (R : RelP P F r t σ H) (rx : RpB P F r σ x dx) (ry : RpB P F r σ y dy)
  (q : Q (.bl (if neg then !c else c)) H) : rInA P.K u neg x y H Q ∨ ∃ (c : Nat) (z : Str),x = .str ⟨#[c]⟩ ∧ y = .str z ∧ Q (.bl (if neg then !decide (c ∈ z.cps.toList) else decide (c ∈ z.cps.toList))) H:=by
 cases dy with
 | tup ys=>
  have e : (if lay dx && (ys.all lay) && decide (dep dx ≤ 190) then some (ys.any fun z=>eqD z dx) else none) = some c:=by
   cases dx <;> exact e
  obtain ⟨l1,l2,l3,rfl⟩:=inB_seq e
  refine .inl ⟨_,_,rx.dp R l1,.inl (ry.dp R (by simpa only [lay,D.py,PyData.canLay0] using l2)),l1,l2,?_,q⟩
  have : min (PyData.depthAll (pys ys)) dx.py.depth ≤ 190:=Nat.le_trans (Nat.min_le_right _ _) l3
  omega
 | lst ys=>
  have e : (if lay dx && (ys.all lay) && decide (dep dx ≤ 190) then some (ys.any fun z=>eqD z dx) else none) = some c:=by
   cases dx <;> exact e
  obtain ⟨l1,l2,l3,rfl⟩:=inB_seq e
  refine .inl ⟨_,_,rx.dp R l1,.inr (ry.dp R (by simpa only [lay,D.py,PyData.canLay0] using l2)),l1,l2,?_,q⟩
  have : min (PyData.depthAll (pys ys)) dx.py.depth ≤ 190:=Nat.le_trans (Nat.min_le_right _ _) l3
  omega
 | str z=>
  cases dx with
  | str w=>
   have e : (if decide (w.cps.size = 1) then some (decide (w.cps.getD 0 0 ∈ z.cps.toList)) else none) = some c:=e
   split at e
   · rename_i h1
     cases e
     have h1:=of_decide_eq_true h1
     refine .inr ⟨w.cps.getD 0 0,z,?_,ry.str R,q⟩
     rw [rx.str R]
     obtain ⟨w⟩:=w
     congr 2
     refine Array.ext (by simpa using h1) fun i h2 h3=>?_
     have h2 : i < w.size:=h2
     have h1 : w.size = 1:=h1
     have hi : i = 0:=by omega
     subst hi
     simp [h1]
   · cases e
  | _=>cases e
 | _=>cases dx <;> cases e
theorem op_ltA : OpR X (compareOp .Lt) (fun x y H Q=>∃ d e,Dp X.K H x d ∧ Dp X.K H y e ∧ PySem.W.alike d e = true ∧ d ≠ .none ∧ X.A.units + min d.depth e.depth < cLine ∧ Q (.bl (PySem.W.dataLt d e)) H):=by
 intro pins s σ H x y v u Q I rx ry h
 obtain ⟨d,e,hd,he,ha,hn,hu,q⟩:=h
 obtain ⟨as,r1⟩:=Dp.reads I d x v hd rx
 obtain ⟨bs,r2⟩:=Dp.reads I e y u he ry
 exact PySem.W.lt_data r1 r2 ha hn hu ⟨.bl _,H,I,rfl,q⟩
theorem op_isB : OpR X (compareOp .Is) (fun x y H Q=>∃ b c,x = .bl c ∧ y = .bl b ∧ Q (.bl (c == b)) H):=by
 intro pins s σ H x y v u Q I rx ry h
 obtain ⟨b,c,rfl,rfl,q⟩:=h
 cases rx
 cases ry
 cases b <;> cases c <;> first | exact is_none_gen (fin_bl I q rfl) | (exact wpAny_pure ⟨.bl _,H,I,rfl,q⟩)
theorem op_isNB : OpR X (compareOp .IsNot) (fun x y H Q=>∃ b c,x = .bl c ∧ y = .bl b ∧ Q (.bl (!(c == b))) H):=by
 intro pins s σ H x y v u Q I rx ry h
 obtain ⟨b,c,rfl,rfl,q⟩:=h
 cases rx
 cases ry
 cases b <;> cases c <;> first | exact is_none_gen (fin_bl I q rfl) | (exact wpAny_pure ⟨.bl _,H,I,rfl,q⟩)
theorem okLt_parts {a b : D} (h : okLt a b = true) : lay a = true ∧ lay b = true ∧ PySem.W.alike a.py b.py = true ∧ min (dep a) (dep b) ≤ 190:=by
 have h1:=Bool.and_eq_true_iff.mp h
 have h2:=Bool.and_eq_true_iff.mp h1.1
 have h3:=Bool.and_eq_true_iff.mp h2.1
 exact ⟨h3.1,h3.2,h2.2,of_decide_eq_true h1.2⟩
theorem cmpS (hK : X.K = P.K) (hu : X.A.units + 200 < cLine) (op : CmpOp) : OpS P X (compareOp op) (cmpD op):=by
 cases op with
 | Eq=>
  refine ⟨_,op_eqA,fun {x y dx dy d F r t σ H Q} e R rx ry q=>?_⟩
  simp only [cmpD,eqOp] at e
  split at e
  · rename_i h
    cases e
    obtain ⟨h1,h2,h3⟩:=okEq_parts h
    rw [hK]
    exact ⟨_,_,rx.dp R h1,ry.dp R h2,h1,h2,by show X.A.units + min (dep dx) (dep dy) < cLine;omega,q _ _ _ Kp.refl R (.bl _)⟩
  · cases e
 | NotEq=>
  refine ⟨_,op_neA,fun {x y dx dy d F r t σ H Q} e R rx ry q=>?_⟩
  simp only [cmpD,neOp] at e
  split at e
  · rename_i h
    cases e
    obtain ⟨h1,h2,h3⟩:=okEq_parts h
    rw [hK]
    exact ⟨_,_,rx.dp R h1,ry.dp R h2,h1,h2,by show X.A.units + min (dep dx) (dep dy) < cLine;omega,q _ _ _ Kp.refl R (.bl _)⟩
  · cases e
 | Lt=>
  refine ⟨_,OpR.or op_lt (OpR.or op_lt_str op_ltA),fun {x y dx dy d F r t σ H Q} e R rx ry q=>?_⟩
  cases dx with
  | int i=>
   cases dy with
   | int j=>
    cases e
    exact .inl ⟨i,j,rx.int R,ry.int R,q _ _ _ Kp.refl R (.bl _)⟩
   | _=>cases e
  | str i=>
   cases dy with
   | str j=>
    cases e
    exact .inr (.inl ⟨i,j,rx.str R,ry.str R,q _ _ _ Kp.refl R (.bl _)⟩)
   | _=>cases e
  | tup xs=>
   cases dy with
   | tup ys=>
    have e : (if okLt (.tup xs) (.tup ys) then some (D.bl (PySem.W.dataLt (D.py (.tup xs)) (D.py (.tup ys)))) else none) = some d:=e
    split at e
    · rename_i h
      cases e
      obtain ⟨h1,h2,h3,h4⟩:=okLt_parts h
      rw [hK]
      exact .inr (.inr ⟨_,_,rx.dp R h1,ry.dp R h2,h3,(fun z=>by cases z),by show X.A.units + min (dep (.tup xs)) (dep (.tup ys)) < cLine;omega,q _ _ _ Kp.refl R (.bl _)⟩)
    · cases e
   | _=>cases e
  | _=>cases dy <;> cases e
 | LtE=>exact intCmp op_le fun dx dy d e=>by cases dx <;> cases dy <;> first | (cases e;done) | (cases e;exact ⟨_,_,rfl,rfl,rfl⟩)
 | Gt=>exact intCmp op_gt fun dx dy d e=>by cases dx <;> cases dy <;> first | (cases e;done) | (cases e;exact ⟨_,_,rfl,rfl,rfl⟩)
 | GtE=>exact intCmp op_ge fun dx dy d e=>by cases dx <;> cases dy <;> first | (cases e;done) | (cases e;exact ⟨_,_,rfl,rfl,rfl⟩)
 | Is=>
  refine ⟨_,OpR.or op_isN op_isB,fun {x y dx dy d F r t σ H Q} e R rx ry q=>?_⟩
  cases dy with
  | bl b=>
   cases dx with
   | bl c=>
    cases e
    exact .inr ⟨b,c,rx.bl R,ry.bl R,q _ _ _ Kp.refl R (.bl _)⟩
   | _=>cases e
  | non=>
   have e : some (D.bl (isN dx)) = some d:=by cases dx <;> exact e
   cases e
   cases ry.rp R (fun _ z=>by cases z) (fun _ z=>by cases z)
   refine .inl ⟨rfl,?_⟩
   have hx : decide (x = V.non) = isN dx:=by
    rcases rx with rx | ⟨i,h1,h2⟩
    · cases rx <;> simp [isN]
    · obtain ⟨p,e,o⟩:=R.own i _ h1
      rw [e] at h2
      cases h2
      have:=o.at_
      cases dx <;> first | exact this.elim | simp [isN]
   rw [hx]
   exact q _ _ _ Kp.refl R (.bl _)
  | _=>cases dx <;> cases e
 | IsNot=>
  refine ⟨_,OpR.or op_notN op_isNB,fun {x y dx dy d F r t σ H Q} e R rx ry q=>?_⟩
  cases dy with
  | bl b=>
   cases dx with
   | bl c=>
    cases e
    exact .inr ⟨b,c,rx.bl R,ry.bl R,q _ _ _ Kp.refl R (.bl _)⟩
   | _=>cases e
  | non=>
   have e : some (D.bl (!isN dx)) = some d:=by cases dx <;> exact e
   cases e
   cases ry.rp R (fun _ z=>by cases z) (fun _ z=>by cases z)
   refine .inl ⟨rfl,?_⟩
   have hx : decide (x = V.non) = isN dx:=by
    rcases rx with rx | ⟨i,h1,h2⟩
    · cases rx <;> simp [isN]
    · obtain ⟨p,e,o⟩:=R.own i _ h1
      rw [e] at h2
      cases h2
      have:=o.at_
      cases dx <;> first | exact this.elim | simp [isN]
   rw [hx]
   exact q _ _ _ Kp.refl R (.bl _)
  | _=>cases dx <;> cases e
 | In=>
  refine ⟨_,OpR.or op_inA op_in_sign,fun {x y dx dy d F r t σ H Q} e R rx ry q=>?_⟩
  obtain ⟨c,e1,rfl⟩:=Option.map_eq_some_iff.mp (show (inB dx dy).map D.bl = some d from e)
  rw [hK]
  exact inS (neg:=false) hu e1 R rx ry (q _ _ _ Kp.refl R (.bl _))
 | NotIn=>
  refine ⟨_,OpR.or op_notInA op_notIn_sign,fun {x y dx dy d F r t σ H Q} e R rx ry q=>?_⟩
  obtain ⟨c,e1,rfl⟩:=Option.map_eq_some_iff.mp (show (inB dx dy).map (fun r=>D.bl (!r)) = some d from e)
  rw [hK]
  exact inS (neg:=true) hu e1 R rx ry (q _ _ _ Kp.refl R (.bl _))
theorem cmp_bl {op : CmpOp} {x y d : D} (h : cmpD op x y = some d) : ∃ b,d = .bl b:=by
 have m : ∀ {o : Option Bool} {f : Bool → Bool},(o.map fun r=>D.bl (f r)) = some d → ∃ b,d = .bl b:=fun {o f} h=>by
  obtain ⟨b,_,e⟩:=Option.map_eq_some_iff.mp h
  exact ⟨_,e.symm⟩
 cases op with
 | Eq=>
  simp only [cmpD,eqOp] at h
  split at h <;> cases h
  exact ⟨_,rfl⟩
 | NotEq=>
  simp only [cmpD,neOp] at h
  split at h <;> cases h
  exact ⟨_,rfl⟩
 | In=>exact m (f:=id) h
 | NotIn=>exact m (f:=Bool.not) h
 | Lt=>cases x <;> cases y <;> first | (cases h;done) | (cases h;exact ⟨_,rfl⟩) | (simp only [cmpD,ltOp] at h;split at h <;> cases h;exact ⟨_,rfl⟩)
 | LtE=>cases x <;> cases y <;> first | (cases h;done) | (cases h;exact ⟨_,rfl⟩)
 | Gt=>cases x <;> cases y <;> first | (cases h;done) | (cases h;exact ⟨_,rfl⟩)
 | GtE=>cases x <;> cases y <;> first | (cases h;done) | (cases h;exact ⟨_,rfl⟩)
 | Is=>cases x <;> cases y <;> first | (cases h;done) | (cases h;exact ⟨_,rfl⟩)
 | IsNot=>cases x <;> cases y <;> first | (cases h;done) | (cases h;exact ⟨_,rfl⟩)
end
def tT (P : Pm) (f : Rho → Tw → Res D) : TT:=fun σ H Q=>∃ F r t,RelP P F r t σ H ∧ Aft P F (f r t) fun d t'=>∃ b,truD d = some b ∧ ∀ F' H',Kp P.T F H F' H' → RelP P F' r t' σ H' → Q b H'
section
variable {P : Pm} {X : Cx} {a b c : Expr} {pos : Pos} {fa fb fc : Rho → Tw → Res D}
theorem t_plain (hK : X.K = P.K) (ha : PE X a (tB P fa)) (he : ∀ whole,isTrue a X.env whole = (do let v ← whole;standAt a.pos;holding [v] (truthy v))) : PT X a (tT P fa):=
 ptMono (pt_truth ha he) fun σ H Q ⟨F,r,t,R,h⟩=>⟨F,r,t,R,h.mono fun d t' ⟨b,e,q⟩ v F' H' s R' rv=>⟨b,by rw [hK];exact rv.tru R' e,q F' H' s R'⟩⟩
theorem t_not (ha : PT X a (tT P fa)) : PT X (.UnaryOp .Not a pos) (tT P fun r t=>(fa r t).bind fun x t1=>Fm.lift (notD x) t1):=
 ptMono (pt_not ha) fun σ H Q ⟨F,r,t,R,h⟩=>⟨F,r,t,R,h.bind.mono fun d t' h=>by
  obtain ⟨e,h1,b,h2,q⟩:=h.lift
  obtain ⟨b2,h3,rfl⟩:=Option.map_eq_some_iff.mp h1
  cases h2
  exact ⟨b2,h3,q⟩⟩
theorem t_cmp (hK : X.K = P.K) (hu : X.A.units + 200 < cLine) {op : CmpOp} (ha : PE X a (tB P fa)) (hb : PE X b (tB P fb)) (hm : behindInMarks op b = false) :
  PT X (.Compare a [op] [b] pos) (tT P fun r t=>(fa r t).bind fun x t1=>(fb r t1).bind fun y t2=>Fm.lift (cmpD op x y) t2):=by
 obtain ⟨rr,ho,hr⟩:=cmpS (P:=P) hK hu op
 refine ptMono (pt_cmpR ho ha hb hm) fun σ H Q ⟨F,r,t,R,h⟩=>op2 (P:=P) hr σ H _ ⟨F,r,t,R,?_⟩
 refine Aft.thn (h.bind.mono fun dx t1 h=>Aft.thn (h.bind.mono fun dy t2 h=>?_))
 obtain ⟨d,e,b,e2,q⟩:=h.lift
 obtain ⟨k,rfl⟩:=cmp_bl e
 cases e2
 rw [e]
 exact fun v F' H' s R' rv=>by
  cases rv
  exact ⟨_,rfl,q F' H' s R'⟩
theorem s_cmp (hK : X.K = P.K) (hu : X.A.units + 200 < cLine) {op : CmpOp} (ha : PE X a (tB P fa)) (hb : PE X b (tB P fb)) (hm : behindInMarks op b = false) :
  PE X (.Compare a [op] [b] pos) (tD P fun r t=>(fa r t).bind fun x t1=>(fb r t1).bind fun y t2=>Fm.lift (cmpD op x y) t2):=by
 obtain ⟨rr,ho,hr⟩:=cmpS (P:=P) hK hu op
 exact peMono (pe_cmpR ho ha hb hm) (op2 (P:=P) hr)
theorem s_not (hK : X.K = P.K) (ha : PE X a (tB P fa)) : PE X (.UnaryOp .Not a pos) (tD P fun r t=>(fa r t).bind fun x t1=>Fm.lift (notD x) t1):=
 peMono (pe_notT ha) fun σ H Q ⟨F,r,t,R,h⟩=>⟨F,r,t,R,h.bind.mono fun d t' h v F' H' s R' rv=>by
  obtain ⟨e,h1,q⟩:=h.lift
  obtain ⟨b2,h3,rfl⟩:=Option.map_eq_some_iff.mp h1
  exact ⟨b2,by rw [hK];exact rv.tru R' h3,q _ _ _ s R' (.bl _)⟩⟩
def andE (fa fb : Rho → Tw → Res D) (r : Rho) (t : Tw) : Res D:=(fa r t).bind fun x t1=>match truD x with
  | some true=>fb r t1
  | some false=>.ok x t1
  | none=>.bad
def orE (fa fb : Rho → Tw → Res D) (r : Rho) (t : Tw) : Res D:=(fa r t).bind fun x t1=>match truD x with
  | some true=>.ok x t1
  | some false=>fb r t1
  | none=>.bad
def iteE (fc fa fb : Rho → Tw → Res D) (r : Rho) (t : Tw) : Res D:=(fc r t).bind fun x t1=>match truD x with
  | some true=>fa r t1
  | some false=>fb r t1
  | none=>.bad
variable {rest : List Expr}
theorem s_and (hK : X.K = P.K) (ha : PE X a (tD P fa)) (hb : PE X (.BoolOp .And (b :: rest) pos) (tD P fb)) : PE X (.BoolOp .And (a :: b :: rest) pos) (tD P (andE fa fb)):=
 peMono (pe_andT ha hb) fun σ H Q ⟨F,r,t,R,h⟩=>⟨F,r,t,R,h.bind.mono fun d t' h v F' H' s R' rv=>by
  cases e : truD d with
  | none=>
   rw [e] at h
   exact h.elim
  | some k=>
   rw [e] at h
   refine ⟨k,by rw [hK];exact (RpB.of (r:=r) (σ:=σ) rv).tru R' e,?_⟩
   cases k with
   | true=>exact ⟨F',r,t',R',((show Aft P F (fb r t') _ from h).up s.1).mono fun d2 t2 q v2 F2 H2 s2 R2 rv2=>q v2 F2 H2 (s.trans s2) R2 rv2⟩
   | false=>exact h v F' H' s R' rv⟩
theorem s_andB (hK : X.K = P.K) (ha : PE X a (tB P fa)) (hb : PE X (.BoolOp .And (b :: rest) pos) (tB P fb)) : PE X (.BoolOp .And (a :: b :: rest) pos) (tB P (andE fa fb)):=
 peMono (pe_andT ha hb) fun σ H Q ⟨F,r,t,R,h⟩=>⟨F,r,t,R,h.bind.mono fun d t' h v F' H' s R' rv=>by
  cases e : truD d with
  | none=>
   rw [e] at h
   exact h.elim
  | some k=>
   rw [e] at h
   refine ⟨k,by rw [hK];exact rv.tru R' e,?_⟩
   cases k with
   | true=>exact ⟨F',r,t',R',((show Aft P F (fb r t') _ from h).up s.1).mono fun d2 t2 q v2 F2 H2 s2 R2 rv2=>q v2 F2 H2 (s.trans s2) R2 rv2⟩
   | false=>exact h v F' H' s R' rv⟩
theorem s_or (hK : X.K = P.K) (ha : PE X a (tD P fa)) (hb : PE X (.BoolOp .Or (b :: rest) pos) (tD P fb)) : PE X (.BoolOp .Or (a :: b :: rest) pos) (tD P (orE fa fb)):=
 peMono (pe_orT ha hb) fun σ H Q ⟨F,r,t,R,h⟩=>⟨F,r,t,R,h.bind.mono fun d t' h v F' H' s R' rv=>by
  cases e : truD d with
  | none=>
   rw [e] at h
   exact h.elim
  | some k=>
   rw [e] at h
   refine ⟨k,by rw [hK];exact (RpB.of (r:=r) (σ:=σ) rv).tru R' e,?_⟩
   cases k with
   | false=>exact ⟨F',r,t',R',((show Aft P F (fb r t') _ from h).up s.1).mono fun d2 t2 q v2 F2 H2 s2 R2 rv2=>q v2 F2 H2 (s.trans s2) R2 rv2⟩
   | true=>exact h v F' H' s R' rv⟩
theorem s_ite (hc : PT X c (tT P fc)) (ha : PE X a (tD P fa)) (hb : PE X b (tD P fb)) : PE X (.IfExp c a b pos) (tD P (iteE fc fa fb)):=
 peMono (pe_ifExp hc ha hb) fun σ H Q ⟨F,r,t,R,h⟩=>⟨F,r,t,R,h.bind.mono fun d t' h=>by
  cases e : truD d with
  | none=>
   rw [e] at h
   exact h.elim
  | some k=>
   rw [e] at h
   refine ⟨k,rfl,fun F' H' s R'=>?_⟩
   cases k with
   | true=>exact ⟨F',r,t',R',((show Aft P F (fa r t') _ from h).up s.1).mono fun d2 t2 q v2 F2 H2 s2 R2 rv2=>q v2 F2 H2 (s.trans s2) R2 rv2⟩
   | false=>exact ⟨F',r,t',R',((show Aft P F (fb r t') _ from h).up s.1).mono fun d2 t2 q v2 F2 H2 s2 R2 rv2=>q v2 F2 H2 (s.trans s2) R2 rv2⟩⟩
theorem t_and (ha : PT X a (tT P fa)) (hb : PW X (.BoolOp .And (b :: rest) pos) (tT P fb)) : PW X (.BoolOp .And (a :: b :: rest) pos) (tT P (andE fa fb)):=
 ⟨fun wh pins s0 σ H Q I ⟨F,r,t,R,h⟩=>(pw_and ha hb).run wh pins s0 σ H Q I ⟨F,r,t,R,h.bind.mono fun d t' h=>by
  cases e : truD d with
  | none=>
   rw [e] at h
   exact h.elim
  | some k=>
   rw [e] at h
   refine ⟨k,rfl,fun F' H' s R'=>?_⟩
   cases k with
   | true=>exact ⟨F',r,t',R',((show Aft P F (fb r t') _ from h).up s.1).mono fun d2 t2 ⟨b2,e2,q⟩=>⟨b2,e2,fun F2 H2 s2 R2=>q F2 H2 (s.trans s2) R2⟩⟩
   | false=>
    obtain ⟨b2,e2,q⟩:=h
    rw [e] at e2
    cases e2
    exact q F' H' s R'⟩⟩
theorem t_or (ha : PT X a (tT P fa)) (hb : PW X (.BoolOp .Or (b :: rest) pos) (tT P fb)) : PW X (.BoolOp .Or (a :: b :: rest) pos) (tT P (orE fa fb)):=
 ⟨fun wh pins s0 σ H Q I ⟨F,r,t,R,h⟩=>(pw_or ha hb).run wh pins s0 σ H Q I ⟨F,r,t,R,h.bind.mono fun d t' h=>by
  cases e : truD d with
  | none=>
   rw [e] at h
   exact h.elim
  | some k=>
   rw [e] at h
   refine ⟨k,rfl,fun F' H' s R'=>?_⟩
   cases k with
   | false=>exact ⟨F',r,t',R',((show Aft P F (fb r t') _ from h).up s.1).mono fun d2 t2 ⟨b2,e2,q⟩=>⟨b2,e2,fun F2 H2 s2 R2=>q F2 H2 (s.trans s2) R2⟩⟩
   | true=>
    obtain ⟨b2,e2,q⟩:=h
    rw [e] at e2
    cases e2
    exact q F' H' s R'⟩⟩
end
end Fm
namespace Fm
open PySem PySem.Spec PyProof.Rows L2
section
variable {P : Pm} {X : Cx} {a b c : Expr} {pos : Pos} {fa fb fc : Rho → Tw → Res D}
theorem atI_map {ns : List Int} {i v : Int} (e : atI ns i = some v) : atI (ns.map V.int) i = some (.int v):=by
 unfold atI at e ⊢
 rw [List.length_map]
 cases h : ixN ns.length i with
 | none=>
  rw [h] at e
  cases e
 | some j=>
  rw [h] at e
  have e : ns[j]? = some v:=e
  show (ns.map V.int)[j]? = _
  rw [List.getElem?_map,e]
  rfl
theorem ix_nat {xs : List V} {ds : List D} {F : Hp} {i : Int} {d : D} (q : RpL P.K P.T F xs ds) (e : atI ds i = some d) : ∃ v,atI xs i = some v ∧ Rp P.K P.T F v d:=by
 unfold atI at e ⊢
 rw [q.length]
 cases h : ixN ds.length i with
 | none=>
  rw [h] at e
  cases e
 | some j=>
  rw [h] at e
  obtain ⟨v,e2,r2⟩:=q.get (i:=j) e
  exact ⟨v,e2,r2⟩
theorem s_ix (hK : X.K = P.K) (ha : PE X a (tB P fa)) (hb : PE X b (tB P fb)) (hs : PlainIx b) : PE X (.Subscript a b pos) (tD P fun r t=>(fa r t).bind fun x t1=>(fb r t1).bind fun y t2=>Fm.lift (ixD x y) t2):=by
 refine peMono (pe_ix ix_seq ha hb hs) (op2 fun {x y dx dy d F r t σ H Q} e R rx ry q=>?_)
 cases dx with
 | tup xs=>
  cases dy with
  | int i=>
   obtain ⟨p1,v1,rfl,e1,z1,q1⟩:=rx.tup R
   obtain ⟨v,e2,r2⟩:=ix_nat q1 e
   rw [hK]
   exact .inr (.inl ⟨p1,v1,i,v,rfl,ry.int R,sqP_t R.sub e1,e2,q _ _ _ Kp.refl R r2⟩)
  | _=>cases e
 | lst xs=>
  cases dy with
  | int i=>
   obtain ⟨p1,v1,rfl,e1,z1,q1⟩:=rx.lst R
   obtain ⟨v,e2,r2⟩:=ix_nat q1 e
   rw [hK]
   exact .inl ⟨p1,v1,i,v,rfl,ry.int R,SqL.of e1,e2,q _ _ _ Kp.refl R r2⟩
  | _=>cases e
 | str z=>
  cases dy with
  | int i=>
   have e : (if okLen z.length then (atI z.cps.toList i).map fun c=>D.str ⟨#[c]⟩ else none) = some d:=e
   split at e
   · rename_i hl
     obtain ⟨c,e1,rfl⟩:=Option.map_eq_some_iff.mp e
     exact .inr (.inr ⟨z,i,c,rx.str R,ry.int R,okLen_le hl,e1,q _ _ _ Kp.refl R (.str _)⟩)
   · cases e
  | _=>cases e
 | scr ns=>
  cases dy with
  | int i=>
   have e : (L2.atI ns i).map D.int = some d:=e
   obtain ⟨v,e1,rfl⟩:=Option.map_eq_some_iff.mp e
   cases rx.rp R (fun _ z=>by cases z) (fun _ z=>by cases z)
   rw [hK]
   exact .inl ⟨_,_,i,.int v,rfl,ry.int R,sqL_mono R.sub R.sc,atI_map e1,q _ _ _ Kp.refl R (.int v)⟩
  | _=>cases e
 | _=>cases dy <;> cases e
def tO (P : Pm) (f : Rho → Tw → Res (Option D)) : TO:=fun σ H Q=>∃ F r t,RelP P F r t σ H ∧ Aft P F (f r t) fun o t'=>∃ i,optI o = some i ∧ ∀ F' H',Kp P.T F H F' H' → RelP P F' r t' σ H' → Q i H'
theorem poMono {e : Option Expr} {t u : TO} (h : PO X e t) (i : ∀ σ H Q,u σ H Q → t σ H Q) : PO X e u:=⟨fun pins s σ H Q I q=>h.run pins s σ H Q I (i σ H Q q)⟩
theorem s_none : PO X none (tO P fun r t=>.ok none t):=poMono po_none fun σ H Q ⟨F,r,t,R,i,e,q⟩=>by
 cases e
 exact q F H Kp.refl R
theorem s_some (ha : PE X a (tB P fa)) : PO X (some a) (tO P fun r t=>(fa r t).bind fun x t1=>.ok (some x) t1):=poMono (po_some ha) fun σ H Q ⟨F,r,t,R,h⟩=>⟨F,r,t,R,h.bind.mono fun d t' ⟨i,e,q⟩ v F' H' s R' rv=>by
 cases d with
 | int j=>
  cases e
  exact ⟨j,rv.int R',q F' H' s R'⟩
 | _=>cases e⟩
theorem s_nil : PA X [] (tDs P fun r t=>.ok [] t):=paMono pa_nil fun σ H Q ⟨F,r,t,R,q⟩=>q [] F H Kp.refl R .nil
theorem s_cons {es : List Expr} {fs : Rho → Tw → Res (List D)} (ha : PE X a (tD P fa)) (hr : PA X es (tDs P fs)) (hs : starEach (a :: es) X.env = (false,eval a X.env) :: starEach es X.env) :
  PA X (a :: es) (tDs P fun r t=>(fa r t).bind fun x t1=>(fs r t1).bind fun xs t2=>.ok (x :: xs) t2):=
 paMono (pa_cons ha hr hs) fun σ H Q ⟨F,r,t,R,h⟩=>⟨F,r,t,R,h.bind.mono fun d t1 h v F1 H1 s1 R1 rv=>⟨F1,r,t1,R1,(h.up s1.1).bind.mono fun ds t2 q vs F2 H2 s2 R2 rvs=>
  q (v :: vs) F2 H2 (s1.trans s2) R2 (.cons (rv.mono s2.1) rvs)⟩⟩
theorem s_tup {es : List Expr} {x1 : Nat} {fs : Rho → Tw → Res (List D)} (h : PA X es (tDs P fs)) : PE X (.Tuple es x1 pos) (tD P fun r t=>(fs r t).bind fun xs t1=>if okLen xs.length then .ok (.tup xs) t1 else .bad):=
 peMono (pe_tupP h) fun σ H Q ⟨F,r,t,R,h⟩=>⟨F,r,t,R,h.bind.mono fun ds t1 h vs F1 H1 s1 R1 rv=>by
  split at h
  · rename_i hl
    have z : vs.length ≤ sizeLine:=by
     rw [rv.length]
     exact okLen_le hl
    exact ⟨z,mkTup R1 z rv fun v F' H' s R' r=>h v F' H' (s1.trans s) R' r⟩
  · exact h.elim⟩
structure Fre (P : Pm) (F : Hp) (r : Rho) (σ : L2.St) (H : Hp) (v : V) (d : D) (p : Addr) : Prop where
 v : v = .ref p
 own : Fm.Own P.K P.T P.H0 F H p d
 no : ∀ (i : Nat) (e : D),r[i]? = some (.own e) → σ[i]? ≠ some (some (.ref p))
def tN (P : Pm) (f : Rho → Tw → Res D) : TE:=fun σ H Q=>∃ F r t,RelP P F r t σ H ∧ Aft P F (f r t) fun d t'=>∀ v F' H' p,Kp P.T F H F' H' → RelP P F' r t' σ H' → Nn H p → Fre P F' r σ H' v d p → Q v H'
theorem Fre.lst {F H : Hp} {F1 H1 : Hp} {r : Rho} {t' : Tw} {σ : L2.St} {v : V} {p : Addr} {ds : List D} {Q : VK} (s : Kp P.T F H F1 H1) (R' : RelP P F1 r t' σ H1) (hp : Nn H p) (fr : Fre P F1 r σ H1 v (.lst ds) p)
  (q : ∀ v F' H',Kp P.T F H F' H' → RelP P F' r t' σ H' → Rp P.K P.T F' v (.lst ds) → Q v H') : Q v H1:=by
 obtain ⟨rfl,o,no⟩:=fr
 obtain ⟨vs,h1,h2,h3⟩:=o.at_
 have R2:=R'.freeze (o:=.lst vs) h1 (by intro _ z;cases z) o.fr o.h0 o.n1 o.n2 no
 have s2 : Same F1 (upd F1 p (.lst vs)):=same_new o.fr
 refine q _ _ _ ⟨s.1.trans s2,fun c u h=>?_,s.old,s.had⟩ R2 (.lst upd_same h2 (h3.mono s2))
 by_cases hc : c = p
 · rw [hc]
   exact .inr hp
 · rw [upd_ne hc] at h
   exact s.new c u h
theorem tNtD_mono {f : Rho → Tw → Res D} (hl : ∀ r t d t',f r t = .ok d t' → ∃ xs,d = .lst xs) (σ : L2.St) (H : Hp) (Q : VK) (z : tD P f σ H Q) : tN P f σ H Q:=by
 obtain ⟨F,r,t,R,h⟩:=z
 refine ⟨F,r,t,R,?_⟩
 cases e : f r t with
 | ok d t'=>
  obtain ⟨xs,rfl⟩:=hl r t d t' e
  rw [e] at h
  exact fun v F' H' p s R' hp fr=>fr.lst s R' hp h
 | exc n t'=>
  rw [e] at h
  exact h
 | bad=>
  rw [e] at h
  exact h
theorem tN_tD {f : Rho → Tw → Res D} {e : Expr} (h : PE X e (tN P f)) : PE X e (tD P f):=by
 refine ⟨fun pins s σ H Q I ⟨F,r,t,R,z⟩=>?_⟩
 refine thn (h.run pins s σ H (fun v H1=>∃ F1 t' d p,Kp P.T F H F1 H1 ∧ RelP P F1 r t' σ H1 ∧ Nn H p ∧ Fre P F1 r σ H1 v d p ∧ ∀ v F' H',Kp P.T F H F' H' → RelP P F' r t' σ H' → Rp P.K P.T F' v d → Q v H') I ⟨F,r,t,R,z.mono fun d t' q v F' H' p s R' hp fr=>⟨F',t',d,p,s,R',hp,fr,q⟩⟩) fun u s1 ⟨v,H1,I1,rv,F1,t',d,p,k,R1,hp,fr,q⟩=>?_
 cases d with
 | lst ds=>exact ⟨v,H1,I1,rv,fr.lst k R1 hp q⟩
 | dct es=>
  obtain ⟨rfl,o,no⟩:=fr
  obtain ⟨kvs,h1,h2,h3⟩:=o.at_
  obtain ⟨od,I2⟩:=I1.lock h1 trivial
  have R2:=R1.lockF (od:=od) (u:=.dK kvs) (tabs_dK R1.tabs h1) o.fr o.h0 o.n1 o.n2 no
  have s2 : Same F1 (upd F1 p (.frz od (.dK kvs))):=same_new o.fr
  refine ⟨.ref p,_,I2,rv,q _ _ _ ⟨k.1.trans s2,fun c u h=>?_,fun c u h m1 m2 m3=>?_,fun c h=>k.had c (h.upd (by intro _ z;cases z)).1⟩ R2 (.dct upd_same h2 (h3.mono s2))⟩
  · by_cases hc : c = p
    · rw [hc]
      exact .inr hp
    · rw [upd_ne hc] at h
      exact k.new c u h
  · rw [upd_ne (fun z=>hp.no (by rw [← z];exact h) m3)]
    exact k.old c u h m1 m2 m3
 | dcn es=>
  obtain ⟨rfl,o,no⟩:=fr
  obtain ⟨xs,h1,hy,h2,h3⟩:=o.at_
  obtain ⟨od,I2⟩:=I1.lock h1 trivial
  have R2:=R1.lockF (od:=od) (u:=DN P.T.pg P.T.wo p xs) (tabs_dn R1.tabs h1 hy.2) o.fr o.h0 o.n1 o.n2 no
  have s2 : Same F1 (upd F1 p (.frz od (DN P.T.pg P.T.wo p xs))):=same_new o.fr
  refine ⟨.ref p,_,I2,rv,q _ _ _ ⟨k.1.trans s2,fun c u h=>?_,fun c u h m1 m2 m3=>?_,fun c h=>k.had c (h.upd (by intro _ z;cases z)).1⟩ R2 (.dcn upd_same hy h2 (h3.mono s2))⟩
  · by_cases hc : c = p
    · rw [hc]
      exact .inr hp
    · rw [upd_ne hc] at h
      exact k.new c u h
  · rw [upd_ne (fun z=>hp.no (by rw [← z];exact h) m3)]
    exact k.old c u h m1 m2 m3
 | _=>
  obtain ⟨_,o,_⟩:=fr
  exact o.at_.elim
theorem mkNew {F : Hp} {r : Rho} {t : Tw} {σ : L2.St} {H : Hp} {o : HO} {d : D} (R : RelP P F r t σ H) {p : Addr} (hp : H p = none) (h : OwnAt P.K P.T F (upd H p o) p d) :
  RelP P F r t σ (upd H p o) ∧ Kp P.T F H F (upd H p o) ∧ Fre P F r σ (upd H p o) (.ref p) d p:=by
 have b:=R.toRelH.newO (o:=o) hp
 have n1 : p ≠ P.T.a:=fun e=>by
  rw [e,R.tw.a] at hp
  cases hp
 have n2 : p ≠ P.T.b:=fun e=>by
  rw [e,R.tw.b] at hp
  cases hp
 refine ⟨R.step b,Kp.of b,rfl,⟨R.sub.free hp,n1,n2,R.had p (.of hp),h⟩,fun i e h1 h2=>?_⟩
 obtain ⟨q,e1,w⟩:=R.own i e h1
 rw [h2] at e1
 cases e1
 obtain ⟨o2,ho,_⟩:=w.at_.obj
 rw [hp] at ho
 cases ho
theorem n_lst {es : List Expr} {fs : Rho → Tw → Res (List D)} (h : PA X es (tDs P fs)) : PE X (.List es pos) (tN P fun r t=>(fs r t).bind fun xs t1=>if okLen xs.length then .ok (.lst xs) t1 else .bad):=
 peMono (pe_lst h) fun σ H Q ⟨F,r,t,R,h⟩=>⟨F,r,t,R,h.bind.mono fun ds t1 h vs F1 H1 s1 R1 rv=>by
  split at h
  · rename_i hl
    have z : vs.length ≤ sizeLine:=by
     rw [rv.length]
     exact okLen_le hl
    refine ⟨z,fun p hp=>?_⟩
    obtain ⟨R2,k2,fr⟩:=mkNew (o:=.lst vs) (d:=.lst ds) R1 hp ⟨vs,upd_same,z,rv⟩
    exact h _ _ _ p (s1.trans k2) R2 (s1.had p (.of hp)) fr
  · exact h.elim⟩
def CallS (P : Pm) (X : Cx) (f : Value) (g : D → Option D) : Prop:=
 ∃ rr : List V → Hp → VK → Prop,CallR X f rr ∧ ∀ {x : V} {dx d : D} {F : Hp} {r : Rho} {t : Tw} {σ : L2.St} {H : Hp} {Q : VK},g dx = some d → RelP P F r t σ H → RpB P F r σ x dx →
   (∀ v F' H',Kp P.T F H F' H' → RelP P F' r t σ H' → Rp P.K P.T F' v d → Q v H') → rr [x] H Q
def CallN (P : Pm) (X : Cx) (f : Value) (g : D → Option D) : Prop:=
 ∃ rr : List V → Hp → VK → Prop,CallR X f rr ∧ ∀ {x : V} {dx d : D} {F : Hp} {r : Rho} {t : Tw} {σ : L2.St} {H : Hp} {Q : VK},g dx = some d → RelP P F r t σ H → RpB P F r σ x dx →
   (∀ v F' H' p,Kp P.T F H F' H' → RelP P F' r t σ H' → Nn H p → Fre P F' r σ H' v d p → Q v H') → rr [x] H Q
theorem cs_abs : CallS P X (.builtin "abs") (blt1 .abs):=by
 refine ⟨_,call_abs,fun {x dx d F r t σ H Q} e R rx q=>?_⟩
 cases dx with
 | int i=>
  cases e
  exact ⟨i,by rw [rx.int R],q _ _ _ Kp.refl R (.int _)⟩
 | _=>cases e
theorem cs_int : CallS P X (.type "int") (blt1 .int):=by
 refine ⟨_,CallR.or call_int1 call_int_str,fun {x dx d F r t σ H Q} e R rx q=>?_⟩
 cases dx with
 | int i=>
  cases e
  exact .inl (.inl ⟨i,by rw [rx.int R],q _ _ _ Kp.refl R (.int _)⟩)
 | bl b=>
  cases e
  exact .inl (.inr ⟨b,by rw [rx.bl R],q _ _ _ Kp.refl R (.int _)⟩)
 | str z=>
  have e : (if decide (z.length ≤ 640) then (PySem.intText? z).map D.int else none) = some d:=e
  split at e
  · rename_i hl
    obtain ⟨n,en,rfl⟩:=Option.map_eq_some_iff.mp e
    exact .inr ⟨z,n,by rw [rx.str R],en,of_decide_eq_true hl,q _ _ _ Kp.refl R (.int _)⟩
  · cases e
 | _=>cases e
theorem cs_len (hK : X.K = P.K) : CallS P X (.builtin "len") (blt1 .len):=by
 refine ⟨_,CallR.or call_len call_lenD,fun {x dx d F r t σ H Q} e R rx q=>?_⟩
 rw [hK]
 cases dx with
 | tup ds=>
  cases e
  obtain ⟨p1,v1,rfl,e1,z1,q1⟩:=rx.tup R
  exact .inl ⟨_,v1.length,rfl,.inr ⟨v1,sqP_t R.sub e1,rfl⟩,by rw [q1.length];exact q _ _ _ Kp.refl R (.int _)⟩
 | lst ds=>
  cases e
  obtain ⟨p1,v1,rfl,e1,z1,q1⟩:=rx.lst R
  exact .inl ⟨_,v1.length,rfl,.inl ⟨v1,SqL.of e1,rfl⟩,by rw [q1.length];exact q _ _ _ Kp.refl R (.int _)⟩
 | scr ns=>
  cases rx.rp R (fun _ z=>by cases z) (fun _ z=>by cases z)
  cases e
  exact .inl ⟨_,(P.T.ns.map V.int).length,rfl,.inl ⟨_,sqL_mono R.sub R.sc,rfl⟩,by rw [List.length_map];exact q _ _ _ Kp.refl R (.int _)⟩
 | str z=>
  have e : (if okLen z.length then some (D.int z.length) else none) = some d:=e
  split at e
  · rename_i hl
    cases e
    obtain rfl:=rx.str R
    exact .inl ⟨_,z.length,rfl,⟨okLen_le hl,rfl⟩,q _ _ _ Kp.refl R (.int _)⟩
  · cases e
 | _=>cases e
theorem cs_all (hK : X.K = P.K) (hc : X.calm = true) : CallS P X (.builtin "all") (blt1 .all):=by
 refine ⟨_,cr_all hc,fun {x dx d F r t σ H Q} e R rx q=>?_⟩
 cases dx with
 | lst ds=>
  obtain ⟨bs,e1,rfl⟩:=Option.map_eq_some_iff.mp (show (bls ds).map (fun bs=>D.bl (bs.all id)) = some d from e)
  obtain ⟨p1,v1,rfl,e2,z1,q1⟩:=rx.lst R
  obtain rfl:=q1.blsOf e1
  exact ⟨p1,bs,rfl,SqL.of e2,q _ _ _ Kp.refl R (.bl _)⟩
 | _=>cases e
theorem cs_any (hK : X.K = P.K) (hc : X.calm = true) : CallS P X (.builtin "any") (blt1 .any):=by
 refine ⟨_,cr_any hc,fun {x dx d F r t σ H Q} e R rx q=>?_⟩
 cases dx with
 | lst ds=>
  obtain ⟨bs,e1,rfl⟩:=Option.map_eq_some_iff.mp (show (bls ds).map (fun bs=>D.bl (bs.any id)) = some d from e)
  obtain ⟨p1,v1,rfl,e2,z1,q1⟩:=rx.lst R
  obtain rfl:=q1.blsOf e1
  exact ⟨p1,bs,rfl,SqL.of e2,q _ _ _ Kp.refl R (.bl _)⟩
 | _=>cases e
theorem cs_sum (hK : X.K = P.K) (hc : X.calm = true) : CallS P X (.builtin "sum") (blt1 .sum):=by
 refine ⟨_,cr_sum hc,fun {x dx d F r t σ H Q} e R rx q=>?_⟩
 cases dx with
 | lst ds=>
  obtain ⟨bs,e1,rfl⟩:=Option.map_eq_some_iff.mp (show (intsD ds).map (fun ns=>D.int ns.sum) = some d from e)
  obtain ⟨p1,v1,rfl,e2,z1,q1⟩:=rx.lst R
  obtain rfl:=q1.intsOf e1
  exact ⟨p1,bs,rfl,SqL.of e2,q _ _ _ Kp.refl R (.int _)⟩
 | _=>cases e
theorem maxI_is : ∀ {r : List Int} {m n : Int},n ∈ m :: r → (∀ y ∈ m :: r,y ≤ n) → n = maxI m r
 | [],m,n,h,_=>by simpa [maxI] using h
 | x :: r,m,n,h,h2=>by
  have a:=h2 m (by simp)
  have b:=h2 x (by simp)
  refine maxI_is (r:=r) (m:=if m < x then x else m) ?_ fun y hy=>?_
  · simp only [List.mem_cons] at h ⊢
    split <;> rcases h with h | h | h <;> first | exact .inr h | (left;omega)
  · rcases List.mem_cons.mp hy with e | hy
    · rw [e]
      split <;> assumption
    · exact h2 y (by simp [hy])
theorem cs_max (hK : X.K = P.K) (hc : X.calm = true) : CallS P X (.builtin "max") (blt1 .max):=by
 refine ⟨_,cr_max hc,fun {x dx d F r t σ H Q} e R rx q=>?_⟩
 cases dx with
 | lst ds=>
  obtain ⟨bs,e1,e2⟩:=Option.bind_eq_some_iff.mp (show (intsD ds).bind (fun ns=>match ns with
   | []=>none
   | n :: r=>some (D.int (maxI n r))) = some d from e)
  cases bs with
  | nil=>cases e2
  | cons n bs=>
   cases e2
   obtain ⟨p1,v1,rfl,e3,z1,q1⟩:=rx.lst R
   obtain rfl:=q1.intsOf e1
   refine ⟨p1,n :: bs,rfl,SqL.of e3,by simp,fun m h1 h2=>?_⟩
   have : m = maxI n bs:=maxI_is h1 h2
   rw [this]
   exact q _ _ _ Kp.refl R (.int _)
 | _=>cases e
theorem cs_tuple (hK : X.K = P.K) : CallS P X (.type "tuple") (blt1 .tuple):=by
 refine ⟨_,call_tupleP,fun {x dx d F r t σ H Q} e R rx q=>?_⟩
 rw [hK]
 cases dx with
 | lst ds=>
  cases e
  obtain ⟨p1,v1,rfl,e2,z1,q1⟩:=rx.lst R
  exact ⟨p1,v1,rfl,.inl ⟨SqL.of e2,mkTup R z1 q1 q⟩⟩
 | tup ds=>
  cases e
  obtain ⟨p1,v1,rfl,e2,z1,q1⟩:=rx.tup R
  exact ⟨p1,v1,rfl,.inr ⟨sqP_t R.sub e2,q _ _ _ Kp.refl R (.tup e2 z1 q1)⟩⟩
 | _=>cases e
theorem cn_list (hK : X.K = P.K) : CallN P X (.type "list") (blt1 .list):=by
 refine ⟨_,call_list_of,fun {x dx d F r t σ H Q} e R rx q=>?_⟩
 rw [hK]
 cases dx with
 | lst ds=>
  cases e
  obtain ⟨p1,v1,rfl,e2,z1,q1⟩:=rx.lst R
  refine ⟨p1,v1,rfl,.inl (SqL.of e2),fun p hp=>?_⟩
  obtain ⟨R2,k2,fr⟩:=mkNew (o:=.lst v1) (d:=.lst ds) R hp ⟨v1,upd_same,z1,q1⟩
  exact q _ _ _ p k2 R2 (.of hp) fr
 | tup ds=>
  cases e
  obtain ⟨p1,v1,rfl,e2,z1,q1⟩:=rx.tup R
  refine ⟨p1,v1,rfl,.inr (sqP_t R.sub e2),fun p hp=>?_⟩
  obtain ⟨R2,k2,fr⟩:=mkNew (o:=.lst v1) (d:=.lst ds) R hp ⟨v1,upd_same,z1,q1⟩
  exact q _ _ _ p k2 R2 (.of hp) fr
 | _=>cases e
theorem insI_perm (x : Int) : ∀ l : List Int,(insI x l).Perm (x :: l)
 | []=>List.Perm.refl _
 | y :: r=>by
  unfold insI
  split
  · exact List.Perm.refl _
  · exact ((insI_perm x r).cons y).trans (List.Perm.swap x y r)
theorem srtI_perm : ∀ l : List Int,(srtI l).Perm l
 | []=>List.Perm.refl _
 | x :: r=>(insI_perm x _).trans ((srtI_perm r).cons x)
theorem insI_sorted (x : Int) : ∀ l : List Int,l.Pairwise (· ≤ ·) → (insI x l).Pairwise (· ≤ ·)
 | [],_=>List.pairwise_singleton _ _
 | y :: r,h=>by
  obtain ⟨h1,h2⟩:=List.pairwise_cons.mp h
  unfold insI
  split
  · rename_i hx
    refine List.pairwise_cons.mpr ⟨fun z hz=>?_,h⟩
    rcases List.mem_cons.mp hz with rfl | hz
    · exact hx
    · exact Int.le_trans hx (h1 z hz)
  · rename_i hx
    refine List.pairwise_cons.mpr ⟨fun z hz=>?_,insI_sorted x r h2⟩
    rcases List.mem_cons.mp ((insI_perm x r).mem_iff.mp hz) with rfl | hz
    · omega
    · exact h1 z hz
theorem srtI_sorted : ∀ l : List Int,(srtI l).Pairwise (· ≤ ·)
 | []=>List.Pairwise.nil
 | x :: r=>insI_sorted x _ (srtI_sorted r)
theorem srtI_one {l m : List Int} (h : m.Perm l) (s : m.Pairwise (· ≤ ·)) : m = srtI l:=PySem.W.ksm_same (h.trans (srtI_perm l).symm) s (srtI_sorted l)
theorem keys_of {F : Hp} : ∀ {kvs : List (Key × V)} {es : List (Key × D)} {ns : List Int},RpK P.K P.T F kvs es → keysI es = some ns → kvs.map (·.1) = ns.map Sum.inl
 | _,_,ns,.nil,h=>by
  cases h
  rfl
 | _,_,ns,@RpK.cons _ _ _ k v kvs d es h q,e=>by
  cases k with
  | inl i=>
   obtain ⟨ms,e1,rfl⟩:=Option.map_eq_some_iff.mp (show (keysI es).map (i :: ·) = some ns from e)
   simp [keys_of q e1]
  | inr x=>cases e
theorem cn_sorted (hK : X.K = P.K) (hc : X.calm = true) : CallN P X (.builtin "sorted") (blt1 .sorted):=by
 refine ⟨_,CallR.or cr_sortedI (call_sortedDI hc),fun {x dx d F r t σ H Q} e R rx q=>?_⟩
 cases dx with
 | lst ds=>
  obtain ⟨ns,e1,rfl⟩:=Option.map_eq_some_iff.mp (show (intsD ds).map (fun ns=>D.lst ((srtI ns).map D.int)) = some d from e)
  obtain ⟨p1,v1,rfl,e2,z1,q1⟩:=rx.lst R
  obtain rfl:=q1.intsOf e1
  refine .inl ⟨p1,ns,rfl,SqL.of e2,fun ms p h1 h2 hp=>?_⟩
  obtain rfl:=srtI_one h1 h2
  obtain ⟨R2,k2,fr⟩:=mkNew (o:=.lst ((srtI ns).map V.int)) (d:=.lst ((srtI ns).map D.int)) R hp ⟨_,upd_same,by rw [List.length_map,(srtI_perm ns).length_eq];simpa using z1,RpL.ofInts _⟩
  exact q _ _ _ p k2 R2 (.of hp) fr
 | dct es=>
  have e : ((keysI es).bind fun ns=>if decide (ns.length < 64) then some (.lst ((srtI ns).map D.int)) else none) = some d:=e
  obtain ⟨ns,e1,e2⟩:=Option.bind_eq_some_iff.mp e
  split at e2
  · rename_i hl
    cases e2
    have hl:=of_decide_eq_true hl
    obtain ⟨p1,v1,rfl,e3,q1⟩:=rx.dct R
    refine .inr ⟨p1,v1,ns,rfl,e3,keys_of q1 e1,hl,fun ms p h1 h2 hp=>?_⟩
    obtain rfl:=srtI_one h1 h2
    obtain ⟨R2,k2,fr⟩:=mkNew (o:=.lst ((srtI ns).map V.int)) (d:=.lst ((srtI ns).map D.int)) R hp ⟨_,upd_same,by rw [List.length_map,(srtI_perm ns).length_eq,sizeLine_eq];omega,RpL.ofInts _⟩
    exact q _ _ _ p k2 R2 (.of hp) fr
  · cases e2
 | _=>cases e
variable {x : Str} {p1 : Pos}
theorem call_form {g : D → Option D} {rr : List V → Hp → VK → Prop} (hr : ∀ {x : V} {dx d : D} {F : Hp} {r : Rho} {t : Tw} {σ : L2.St} {H : Hp} {Q : VK},g dx = some d → RelP P F r t σ H → RpB P F r σ x dx →
   (∀ v F' H',Kp P.T F H F' H' → RelP P F' r t σ H' → Rp P.K P.T F' v d → Q v H') → rr [x] H Q) (σ : L2.St) (H : Hp) (Q : VK) (h : tD P (fun r t=>(fa r t).bind fun x t1=>Fm.lift (g x) t1) σ H Q) : tCB rr (tCons (tB P fa) tNil) σ H Q:=by
 obtain ⟨F,r,t,R,h⟩:=h
 refine ⟨F,r,t,R,h.bind.mono fun d t1 h v F1 H1 s1 R1 rv=>?_⟩
 obtain ⟨d2,e,q⟩:=h.lift
 exact hr e R1 rv fun v F' H' s R' h=>q v F' H' (s1.trans s) R' h
theorem call_formN {g : D → Option D} {rr : List V → Hp → VK → Prop} (hr : ∀ {x : V} {dx d : D} {F : Hp} {r : Rho} {t : Tw} {σ : L2.St} {H : Hp} {Q : VK},g dx = some d → RelP P F r t σ H → RpB P F r σ x dx →
   (∀ v F' H' p,Kp P.T F H F' H' → RelP P F' r t σ H' → Nn H p → Fre P F' r σ H' v d p → Q v H') → rr [x] H Q) (σ : L2.St) (H : Hp) (Q : VK) (h : tN P (fun r t=>(fa r t).bind fun x t1=>Fm.lift (g x) t1) σ H Q) : tCB rr (tCons (tB P fa) tNil) σ H Q:=by
 obtain ⟨F,r,t,R,h⟩:=h
 refine ⟨F,r,t,R,h.bind.mono fun d t1 h v F1 H1 s1 R1 rv=>?_⟩
 obtain ⟨d2,e,q⟩:=h.lift
 exact hr e R1 rv fun v F' H' p s R' hp h=>q v F' H' p (s1.trans s) R' (s1.had p hp) h
theorem s_callB {id : String} {g : D → Option D} (hc : CallS P X (.builtin id) g) (hg : Gl X x) (hm : X.mg x = none) (hv : bootBuiltins x = some (.builtin id)) (ha : PE X a (tB P fa)) (hn : x ≠ "__name__") (hdb : (x == ("__debug__" : Str)) = false)
  (hs : starEach [a] X.env = (false,eval a X.env) :: starEach [] X.env) : PE X (.Call (.Name x p1) [a] [] pos) (tD P fun r t=>(fa r t).bind fun x t1=>Fm.lift (g x) t1):=by
 obtain ⟨rr,h1,h2⟩:=hc
 exact peMono (pe_callB h1 hg hm hv (pa_cons ha pa_nil hs) hn hdb hs) (call_form h2)
theorem s_callT {id : String} {g : D → Option D} (hc : CallS P X (.type id) g) (hg : Gl X x) (hm : X.mg x = none) (hv : bootBuiltins x = some (.type id)) (ha : PE X a (tB P fa)) (hn : x ≠ "__name__") (hdb : (x == ("__debug__" : Str)) = false)
  (hs : starEach [a] X.env = (false,eval a X.env) :: starEach [] X.env) : PE X (.Call (.Name x p1) [a] [] pos) (tD P fun r t=>(fa r t).bind fun x t1=>Fm.lift (g x) t1):=by
 obtain ⟨rr,h1,h2⟩:=hc
 exact peMono (pe_callTy h1 hg hm hv (pa_cons ha pa_nil hs) hn hdb hs) (call_form h2)
theorem n_callB {id : String} {g : D → Option D} (hc : CallN P X (.builtin id) g) (hg : Gl X x) (hm : X.mg x = none) (hv : bootBuiltins x = some (.builtin id)) (ha : PE X a (tB P fa)) (hn : x ≠ "__name__") (hdb : (x == ("__debug__" : Str)) = false)
  (hs : starEach [a] X.env = (false,eval a X.env) :: starEach [] X.env) : PE X (.Call (.Name x p1) [a] [] pos) (tN P fun r t=>(fa r t).bind fun x t1=>Fm.lift (g x) t1):=by
 obtain ⟨rr,h1,h2⟩:=hc
 exact peMono (pe_callB h1 hg hm hv (pa_cons ha pa_nil hs) hn hdb hs) (call_formN h2)
theorem n_callT {id : String} {g : D → Option D} (hc : CallN P X (.type id) g) (hg : Gl X x) (hm : X.mg x = none) (hv : bootBuiltins x = some (.type id)) (ha : PE X a (tB P fa)) (hn : x ≠ "__name__") (hdb : (x == ("__debug__" : Str)) = false)
  (hs : starEach [a] X.env = (false,eval a X.env) :: starEach [] X.env) : PE X (.Call (.Name x p1) [a] [] pos) (tN P fun r t=>(fa r t).bind fun x t1=>Fm.lift (g x) t1):=by
 obtain ⟨rr,h1,h2⟩:=hc
 exact peMono (pe_callTy h1 hg hm hv (pa_cons ha pa_nil hs) hn hdb hs) (call_formN h2)
end
end Fm
namespace Fm
open PySem PySem.Spec PyProof.Rows L2
mutual
theorem nk_kd : ∀ {d : D} {k : NestedKey},nkD d = some k → kdN k = d
 | .non,k,h=>by cases h;rfl
 | .int i,k,h=>by cases h;rfl
 | .str x,k,h=>by cases h;rfl
 | .tup xs,k,h=>by
  obtain ⟨ks,h1,rfl⟩:=Option.map_eq_some_iff.mp (show (nkDs xs).map NestedKey.tup = some k from h)
  rw [kdN,nks_kd h1]
 | .bl _,k,h=>by cases h
 | .lst _,k,h=>by cases h
 | .dct _,k,h=>by cases h
 | .dcn _,k,h=>by cases h
 | .tok,k,h=>by cases h
 | .scr _,k,h=>by cases h
 | .exc _,k,h=>by cases h
theorem nks_kd : ∀ {ds : List D} {ks : List NestedKey},nkDs ds = some ks → kdNs ks = ds
 | [],ks,h=>by cases h;rfl
 | d :: ds,ks,h=>by
  obtain ⟨k,h1,h2⟩:=Option.bind_eq_some_iff.mp (show ((nkD d).bind fun k=>(nkDs ds).map (k :: ·)) = some ks from h)
  obtain ⟨ks',h3,rfl⟩:=Option.map_eq_some_iff.mp h2
  rw [kdNs,nk_kd h1,nks_kd h3]
end
theorem keyT_kd {d : D} {k : NestedKey} (h : keyT d = some k) : kdN k = d ∧ k.depth ≤ 8:=by
 cases d with
 | tup xs=>
  obtain ⟨k',h1,h2⟩:=Option.bind_eq_some_iff.mp (show ((nkD (.tup xs)).bind fun k=>if decide (k.depth ≤ 8) then some k else none) = some k from h)
  split at h2
  · rename_i hd
    cases h2
    exact ⟨nk_kd h1,of_decide_eq_true hd⟩
  · cases h2
 | _=>cases h
theorem keyT_tup {d : D} {k : NestedKey} (h : keyT d = some k) : ∃ xs,d = .tup xs:=by
 cases d with
 | tup xs=>exact ⟨xs,rfl⟩
 | _=>cases h
section
variable {P : Pm} {X : Cx} {pins : List (Addr × Obj)} {σ : L2.St} {H : Hp} {s : Shared}
mutual
theorem nis {K : PySem.W.Frag} {T : Tn} {F : Hp} (I : Inv X pins σ H s) (hK : X.K = K) (sub : Same F H) : ∀ (k : NestedKey) (v : V) (u : Value),Rp K T F v (kdN k) → RelV v u → NestedIs s.heap k u
 | .none,v,u,h,r=>by
  cases h
  cases (show u = Value.none from r)
  exact .none
 | .num i,v,u,h,r=>by
  cases h
  obtain ⟨t,rfl⟩:=r
  exact .int i t
 | .text x,v,u,h,r=>by
  cases h
  obtain ⟨t,rfl⟩:=r
  exact .text x t
 | .tup ks,v,u,h,r=>by
  cases h with
  | tup h1 z q=>
   cases (show u = Value.ref _ from r)
   obtain ⟨its,rv,⟨o,ho,hc,n,hd⟩,_⟩:=I.tuple (hK ▸ sqP_t sub h1)
   exact .tup ho hc hd (by simpa using nalls I hK sub ks _ its q rv)
theorem nalls {K : PySem.W.Frag} {T : Tn} {F : Hp} (I : Inv X pins σ H s) (hK : X.K = K) (sub : Same F H) : ∀ (ks : List NestedKey) (vs : List V) (us : List Value),RpL K T F vs (kdNs ks) → Vals vs us → NestedAll s.heap ks us
 | [],vs,us,h,r=>by
  cases h
  cases r
  exact .nil
 | k :: ks,vs,us,h,r=>by
  cases h with
  | cons h1 h2=>
   cases r with
   | cons r1 r2=>exact .cons (nis I hK sub k _ _ h1 r1) (nalls I hK sub ks _ _ h2 r2)
end
theorem dof {K : PySem.W.Frag} {T : Tn} {F : Hp} {a : Addr} {xs : List (NestedKey × Addr × Value)} {es : List (NestedKey × D)} (I : Inv X pins σ H s) (hK : X.K = K) (sub : Same F H) (hpw : T.pg = X.prog ∧ T.wo = X.w) (h : Rd H a (DN T.pg T.wo a xs)) (q : RpN K T F xs es) : s.heap.DictOfH (nestedKind X.prog X.w) a xs:=by
 obtain ⟨⟨o,es',ep,h1,h2,h3,h4,h5⟩,hrest⟩:=rd_of I.hok h
 clear hrest
 rw [hpw.1,hpw.2] at h4
 refine ⟨o,es',ep,h1,h2,h3,h4,?_,h5⟩
 clear h h4 h5 h1 h2 h3
 induction xs generalizing es with
 | nil=>intro x hx;cases hx
 | cons x xs ih=>
  cases q with
  | cons q1 q2 q3 q4 q5=>
   intro y hy
   rcases List.mem_cons.mp hy with rfl | hy
   · exact ⟨nis I hK sub _ _ _ q1 rfl,q2⟩
   · exact ih q5 y hy
theorem RpN.look {K : PySem.W.Frag} {T : Tn} {F : Hp} : ∀ {xs : List (NestedKey × Addr × Value)} {es : List (NestedKey × D)},RpN K T F xs es → ∀ k,(∃ b u v d,atKey xs k = some (b,u) ∧ lookN es k = some d ∧ RelV v u ∧ Rp K T F v d) ∨ (atKey xs k = none ∧ lookN es k = none)
 | _,_,.nil,k=>.inr ⟨rfl,rfl⟩
 | _,_,@RpN.cons _ _ _ k' b u v xs d es h1 h2 h3 h4 h5,k=>by
  unfold atKey lookN
  simp only [List.find?_cons]
  by_cases e : k' = k
  · simp only [e,decide_true]
    exact .inl ⟨b,u,v,d,rfl,rfl,h3,h4⟩
  · simp only [e,decide_false]
    exact h5.look k
end
end Fm
namespace Fm
open PySem PySem.Spec PyProof.Rows L2
def NK (X : Cx) (H : Hp) (b : Addr) (k : NestedKey) : Prop:=∀ pins σ s,Inv X pins σ H s → NestedIs s.heap k (.ref b) ∧ k.depth ≤ 8
def DO (X : Cx) (H : Hp) (a : Addr) (xs : List (NestedKey × Addr × Value)) : Prop:=(a == sysModules) = false ∧ ∀ pins σ s,Inv X pins σ H s → s.heap.DictOfH (nestedKind X.prog X.w) a xs
def NGet (X : Cx) (H : Hp) (a : Addr) (y : V) (o : Option V) : Prop:=∃ xs k b,DO X H a xs ∧ y = .ref b ∧ NK X H b k ∧ RelO o ((atKey xs k).map (·.2))
def XGet (X : Cx) (H : Hp) (a : Addr) (y : V) (o : Option V) : Prop:=DGet H a y o ∨ NGet X H a y o
def XIsD (X : Cx) (H : Hp) (a : Addr) : Prop:=IsD H a ∨ ∃ xs,DO X H a xs
section
variable {X : Cx} {pins : List (Addr × Obj)} {σ : L2.St} {H : Hp} {s : Shared} {a : Addr} {y v d : V} {u r : Value} {o : Option V} {A : Around} {E : Value → Shared → Prop}
theorem do_type {xs : List (NestedKey × Addr × Value)} (I : Inv X pins σ H s) (d : DO X H a xs) : s.TypeIs (.ref a) "dict" ∧ (∀ b,Value.ref a = .ref b → ∃ ob,s.heap.get? b = some ob ∧ ob.dict = none):=
 have dd:=d.2 _ _ _ I
 ⟨dd.typeIs,fun _ q=>by cases q;exact let ⟨ob,_,_,at_,plain,_⟩:=dd;⟨ob,at_,plain.2.1⟩⟩
theorem units_in {A : Around} (hu : A.units + 200 < cLine) : A.units + 8 < cLine ∧ A.in1.units + 8 < cLine ∧ A.in1.in1.units + 8 < cLine:=by
 refine ⟨by omega,?_,?_⟩
 · show A.units + 1 + 8 < cLine
   omega
 · show A.units + 1 + 1 + 8 < cLine
   omega
theorem xisD_at (I : Inv X pins σ H s) (d : XIsD X H a) : s.TypeIs (.ref a) "dict" ∧ (∀ b,Value.ref a = .ref b → ∃ ob,s.heap.get? b = some ob ∧ ob.dict = none):=by
 rcases d with d | ⟨xs,d⟩
 · exact ⟨(isD_at I d).1,(isD_at I d).2.1⟩
 · exact do_type I d
theorem x_typeIs (I : Inv X pins σ H s) (g : XGet X H a y o) : s.TypeIs (.ref a) "dict" := by
 rcases g with g | ⟨xs,k,b,d,_⟩
 · exact dict_typeIs I g
 · exact (do_type I d).1
theorem x_getItem {Q : Value → Shared → Prop} (hu : A.units + 200 < cLine) (I : Inv X pins σ H s) (g : XGet X H a y (some v)) (ry : RelV y u) (h : ∀ w' s',Inv X pins σ H s' → RelV v w' → Q w' s') : wpAny (model X.prog X.w) A (getItem (.ref a) u) Q E s:=by
 rcases g with flat | ⟨xs,k,b,dd,rfl,nk,rel⟩
 · exact d_getItem (by omega) I flat ry h
 · obtain rfl : u = .ref b:=ry
   obtain ⟨got,e,r⟩:=RelO.some_of (v:=v) (o:=(atKey xs k).map (·.2)) rel
   cases at_ : atKey xs k with
   | none=>simp [at_] at e
   | some p=>
    obtain rfl : p.2 = got:=by simpa [at_] using e
    exact wpAny_getItem_heap (knd:=nestedKind X.prog X.w) (units_in hu).2.1 (nk _ _ _ I) (dd.2 _ _ _ I) at_ (h _ _ (I.tok _) r)
theorem x_get2 {Q : Value → Shared → Prop} (hu : A.units + 200 < cLine) (I : Inv X pins σ H s) (g : XGet X H a y o) (ry : RelV y u) (rd : RelV d r) (h : ∀ w' s',Inv X pins σ H s' → RelV (o.getD d) w' → Q w' s') : wpAny (model X.prog X.w) A (call (.builtin "dict.get") [.ref a,u,r]) Q E s:=by
 rcases g with flat | ⟨xs,k,b,dd,rfl,nk,rel⟩
 · exact d_get2 (by omega) I flat ry rd h
 · obtain rfl : u = .ref b:=ry
   have laid:=dd.2 _ _ _ I
   refine call_meetsIn PySem.F.slot_dict_get laid.typeIs PySem.F.entry_dict_get (PySem.F.args_dict_get_3 _ _ _) (meetsH_dict_get_default (nestedKind X.prog X.w) a b dd.1 r) ⟨?_,k,xs,nk _ _ _ I,laid,h _ _ (I.tok _) (rel.getD rd)⟩
   first | exact (units_in hu).2.2 | exact (units_in hu).2.1 | exact (units_in hu).1
theorem dn_ok {H' : Hp} {h' : Heap} {xs : List (NestedKey × Addr × Value)} (dd : h'.DictOfH (nestedKind X.prog X.w) a xs) : ObjOk X.prog X.w H' h' a (DN X.prog X.w a xs):=by
 obtain ⟨q,es,ep,hq,h2,h3,h4,_,h5⟩:=dd
 refine ⟨⟨q,es,ep,hq,h2,h3,h4,h5⟩,⟨q,hq⟩,fun h1 h2' ⟨o',es',ep',e1,e2,e3,e4,e5⟩ k=>⟨o',es',ep',k _ e1,e2,e3,e4,e5⟩⟩
theorem x_setItem {xs : List (NestedKey × Addr × Value)} {k : NestedKey} {b : Addr} {Q : Unit → Shared → Prop} (hu : A.units + 200 < cLine) (I : Inv X pins σ H s) (e : H a = some (DN X.prog X.w a xs)) (dd : DO X H a xs) (nk : NK X H b k) (hl : xs.length ≤ sizeLine)
  (h : ∀ s',Inv X pins σ (upd H a (DN X.prog X.w a (storedH xs k b r))) s' → Q () s') : wpAny (model X.prog X.w) A (setItem (.ref a) (.ref b) r) Q E s:=by
 refine wpAny_setItem_heap (hsz:=hl) (knd:=nestedKind X.prog X.w) (show A.in1.units + 8 < cLine from Nat.lt_of_le_of_lt (by show A.units + 1 + 8 ≤ A.units + 200;omega) hu) (nk _ _ _ I) (dd.2 _ _ _ I) fun h' dd' hs=>h _ ?_
 exact d_write I (by rw [e];exact True.intro) hs (let ⟨_,_,_,at_,_⟩:=dd';⟨_,at_⟩) (dn_ok dd')
end
def tXGet (X : Cx) (td ty : TE) : TE:=fun σ H Q=>td σ H fun x H1=>ty σ H1 fun y H2=>∃ a v,x = .ref a ∧ XGet X H2 a y (some v) ∧ Q v H2
def tXGet2 (X : Cx) (td ty tx : TE) : TE:=fun σ H Q=>td σ H fun x H1=>∃ a,x = .ref a ∧ XIsD X H1 a ∧ ty σ H1 fun y H2=>tx σ H2 fun z H3=>∃ o,XGet X H3 a y o ∧ Q (o.getD z) H3
def XPut (X : Cx) (H : Hp) (a : Addr) (y v : V) (Q : Hp → Prop) : Prop:=(∃ H',DPut H a y v H' ∧ Q H') ∨
 ∃ xs k b,H a = some (DN X.prog X.w a xs) ∧ DO X H a xs ∧ y = .ref b ∧ NK X H b k ∧ xs.length ≤ sizeLine ∧ ∀ u,RelV v u → Q (upd H a (DN X.prog X.w a (storedH xs k b u)))
def sXPut (X : Cx) (td ty tv : TE) : TS:=fun D σ H=>tv σ H fun v H1=>td σ H1 fun x H2=>ty σ H2 fun y H3=>∃ a,x = .ref a ∧ XPut X H3 a y v (D.nx σ)
section
variable {X : Cx} {o i e f value : Expr} {pos pos' apos cpos : Pos} {td ty tv tx : TE}
theorem pe_xget (hu : X.A.units + 200 < cLine) (ho : PE X o td) (hi : PE X i ty) (hs : NoSl i) : PE X (.Subscript o i pos) (tXGet X td ty):=by
 constructor
 intro pins s σ H Q I h
 have one:=ho.run pins s σ H _ I h
 refine subD_of PySem.F.slot_dict_getitem.lookup hs (thn one fun u s1 ⟨x,H1,I1,rx,q1⟩=>thn (hi.run pins s1 σ H1 _ I1 q1) fun iv s2 ⟨y,H2,I2,ry,a,v,e,g,q2⟩=>?_)
 subst e
 cases (show u = .ref a from rx)
 exact ⟨x_typeIs I2 g,x_getItem hu I2 g ry fun _ _ I3 r=>⟨v,H2,I3,r,q2⟩⟩
theorem pe_xget2 (hu : X.A.units + 200 < cLine) (ho : PE X o td) (he : PE X e ty) (hf : PE X f tx) (m : M2 X o "get" apos e f cpos) : PE X (.Call (.Attribute o "get" apos) [e,f] [] cpos) (tXGet2 X td ty tx):=by
 constructor
 intro pins s σ H Q I h
 have recv:=ho.run pins s σ H _ I h
 refine wpAny_Call_method m.base m.few m.line PySem.F.plainAttrs_dict PySem.F.slot_dict_get PySem.F.type_dict_get (thn recv fun u s1 ⟨_,H1,I1,rx,a,e,d,q1⟩=>?_)
 subst e
 cases (show u = .ref a from rx)
 have args:=he.run pins s1 σ H1 _ I1 q1
 refine ⟨(xisD_at I1 d).1,(xisD_at I1 d).2,m.trees ▸ Calls.callWith_builtin rfl (Calls.evalArgs_plain (Calls.spliced_cons (thn args fun _ s2 ⟨y,H2,I2,ry,q2⟩=>?_)))⟩
 have last:=hf.run pins s2 σ H2 _ I2 q2
 exact Calls.spliced_cons (thn last fun _ _ ⟨_,H3,I3,rz,_,g,q3⟩=>Calls.spliced_nil (x_get2 hu I3 g ry rz fun _ _ I4 r=>⟨_,H3,I4,r,q3⟩))
theorem ps_xput (hu : X.A.units + 200 < cLine) (ho : PE X o td) (hi : PE X i ty) (hv : PE X value tv) (hs : swapsWith value (some (.Subscript o i pos')) pos.line X.env = pure false) :
  PS X (.Assign [.Subscript o i pos'] value pos) (sXPut X td ty tv):=by
 refine ⟨fun pins s σ H D I h=>?_⟩
 refine wpAny_Assign_Subscript (thn (hv.run pins s σ H _ I h) fun r s1 ⟨v,H1,I1,rv,q1⟩=>thn (ho.run pins s1 σ H1 _ I1 q1) fun u s2 ⟨x,H2,I2,rx,q2⟩=>thn (hi.run pins s2 σ H2 _ I2 q2) fun iv s3 ⟨y,H3,I3,ry,a,ex,g⟩=>?_) hs
 subst ex
 obtain rfl : u = Value.ref a:=rx
 rcases g with ⟨H4,g,q3⟩ | ⟨xs,k,b,e,dd,ey,nk,hl,q3⟩
 · exact d_setItem (by omega) I3 g ry rv fun s4 I4=>⟨σ,H4,I4,q3⟩
 · subst ey
   cases (show iv = Value.ref b from ry)
   exact x_setItem hu I3 e dd nk hl fun s4 I4=>⟨σ,_,I4,q3 _ rv⟩
end
section
variable {P : Pm} {X : Cx} {F : Hp} {H : Hp}
theorem do_of {K : PySem.W.Frag} {T : Tn} {a : Addr} {xs : List (NestedKey × Addr × Value)} {es : List (NestedKey × D)} (hK : X.K = K) (sub : Same F H) (hpw : T.pg = X.prog ∧ T.wo = X.w) (h : Rd H a (DN T.pg T.wo a xs)) (hy : (a == sysModules) = false) (q : RpN K T F xs es) : DO X H a xs:=
 ⟨hy,fun _ _ _ I=>dof I hK sub hpw h q⟩
theorem nk_of {r : Rho} {t : Tw} {σ : L2.St} {v : V} {dk : D} {k : NestedKey} (hK : X.K = P.K) (R : RelP P F r t σ H) (rv : RpB P F r σ v dk) (e : keyT dk = some k) : ∃ b,v = .ref b ∧ NK X H b k ∧ Rp P.K P.T F (.ref b) (kdN k):=by
 obtain ⟨xs,rfl⟩:=keyT_tup e
 have h:=rv.rp R (by intro _ z;cases z) (by intro _ z;cases z)
 obtain ⟨h1,h2⟩:=keyT_kd e
 rw [← h1] at h
 have h':=h
 rw [h1] at h'
 cases h' with
 | tup h1 z q=>exact ⟨_,rfl,fun _ _ _ I=>⟨nis I hK R.sub k _ _ h rfl,h2⟩,h⟩
end
section
variable {K : PySem.W.Frag} {T : Tn} {F : Hp}
theorem RpN.get {xs : List (NestedKey × Addr × Value)} {es : List (NestedKey × D)} (q : RpN K T F xs es) {k : NestedKey} {d : D} (e : lookN es k = some d) : ∃ v,RelO (some v) ((atKey xs k).map (·.2)) ∧ Rp K T F v d:=by
 rcases q.look k with ⟨b,u,v,d2,h1,h2,h3,h4⟩ | ⟨h1,h2⟩
 · rw [e] at h2
   cases h2
   rw [h1]
   exact ⟨v,h3,h4⟩
 · rw [e] at h2
   cases h2
theorem RpN.repl {k : NestedKey} {v : V} {u : Value} {d : D} (hv : RelV v u) (h : Rp K T F v d) : ∀ {xs : List (NestedKey × Addr × Value)} {es : List (NestedKey × D)},RpN K T F xs es →
  RpN K T F (xs.map (putAt k u)) (es.map fun kv=>if kv.1 = k then (kv.1,d) else kv)
 | _,_,.nil=>.nil
 | _,_,@RpN.cons _ _ _ k' b u' v' xs d' es h1 h2 h3 h4 h5=>by
  simp only [List.map_cons,putAt]
  by_cases e : k' = k
  · rw [if_pos e,if_pos e]
    exact .cons h1 h2 hv h (RpN.repl hv h h5)
  · rw [if_neg e,if_neg e]
    exact .cons h1 h2 h3 h4 (RpN.repl hv h h5)
theorem RpN.snoc {k : NestedKey} {b : Addr} {v : V} {u : Value} {d : D} (hb : Rp K T F (.ref b) (kdN k)) (hk : k.depth ≤ 8) (hv : RelV v u) (h : Rp K T F v d) : ∀ {xs : List (NestedKey × Addr × Value)} {es : List (NestedKey × D)},RpN K T F xs es → RpN K T F (xs ++ [(k,b,u)]) (es ++ [(k,d)])
 | _,_,.nil=>.cons hb hk hv h .nil
 | _,_,.cons h1 h2 h3 h4 h5=>.cons h1 h2 h3 h4 (RpN.snoc hb hk hv h h5)
theorem RpN.any : ∀ {xs : List (NestedKey × Addr × Value)} {es : List (NestedKey × D)},RpN K T F xs es → ∀ k,(atKey xs k).isSome = es.any fun kv=>decide (kv.1 = k)
 | _,_,.nil,k=>rfl
 | _,_,@RpN.cons _ _ _ k' b u' v' xs d' es h1 h2 h3 h4 h5,k=>by
  have ih:=h5.any k
  unfold atKey at ih ⊢
  simp only [List.find?_cons,List.any_cons]
  by_cases e : k' = k
  · simp [e]
  · simp only [e,decide_false,Bool.false_or]
    exact ih
theorem RpN.put {k : NestedKey} {b : Addr} {v : V} {u : Value} {d : D} (hb : Rp K T F (.ref b) (kdN k)) (hk : k.depth ≤ 8) (hv : RelV v u) (h : Rp K T F v d) {xs : List (NestedKey × Addr × Value)} {es : List (NestedKey × D)} (q : RpN K T F xs es) : RpN K T F (storedH xs k b u) (putN es k d):=by
 unfold storedH putN
 rw [q.any k]
 split
 · exact q.repl hv h
 · exact q.snoc hb hk hv h
theorem RpN.length : ∀ {xs : List (NestedKey × Addr × Value)} {es : List (NestedKey × D)},RpN K T F xs es → xs.length = es.length
 | _,_,.nil=>rfl
 | _,_,.cons h1 h2 h3 h4 h5=>by rw [List.length_cons,List.length_cons,h5.length]
end
theorem storedH_len (xs : List (NestedKey × Addr × Value)) (k : NestedKey) (b : Addr) (u : Value) : (storedH xs k b u).length ≤ xs.length + 1:=by
 unfold storedH
 split
 · rw [List.length_map];omega
 · rw [List.length_append];exact Nat.le_refl _
theorem storedH_nodup (xs : List (NestedKey × Addr × Value)) (k : NestedKey) (b : Addr) (u : Value) (h : (xs.map (·.1)).Nodup) : ((storedH xs k b u).map (·.1)).Nodup:=by
 unfold storedH
 split
 · have e : (xs.map (putAt k u)).map (·.1) = xs.map (·.1):=by
    rw [List.map_map]
    refine List.map_congr_left fun x _=>?_
    simp only [Function.comp,putAt]
    split <;> rfl
   rw [e]
   exact h
 · rename_i hn
   rw [List.map_append,List.nodup_append]
   refine ⟨h,by simp,fun x hx y hy=>?_⟩
   simp only [List.map_cons,List.map_nil,List.mem_singleton] at hy
   subst hy
   intro e
   subst e
   refine hn ?_
   obtain ⟨p,hp,rfl⟩:=List.mem_map.mp hx
   unfold atKey
   rw [Option.isSome_map,List.find?_isSome]
   exact ⟨p,hp,by simp⟩
end Fm
namespace Fm
open PySem PySem.Spec PyProof.Rows L2
section
variable {P : Pm} {X : Cx} {a b c : Expr} {pos p1 p2 : Pos} {fa fb fc : Rho → Tw → Res D}
theorem tup_ty {K : PySem.W.Frag} {H : Hp} {p : Addr} {xs : List V} (h : SqT K H p xs) : TyX K H (.ref p) (.type "tuple"):=by
 rcases h with (h | ⟨o,h⟩) | ⟨o,its,n,h1,h2,_⟩
 · exact .base (.tup h)
 · exact .fTuple h
 · exact .kTuple h1 h2
theorem isa_of {F : Hp} {r : Rho} {t : Tw} {σ : L2.St} {H : Hp} {x : V} {dx : D} {T : Ty} {k : Bool} (R : RelP P F r t σ H) (rx : RpB P F r σ x dx) (e : isaD dx T = some k) : ∃ t,TyX P.K H x t ∧ PySem.W.kitOne P.K t (.type T.name) = some k:=by
 cases dx with
 | non=>
  cases rx.rp R (fun _ z=>by cases z) (fun _ z=>by cases z)
  refine ⟨_,.base .non,?_⟩
  cases T <;> cases e <;> exact kit_ty (by decide +kernel)
 | bl z=>
  obtain rfl:=rx.bl R
  refine ⟨_,.base (.bl _),?_⟩
  cases T <;> cases e <;> exact kit_ty (by decide +kernel)
 | int z=>
  obtain rfl:=rx.int R
  refine ⟨_,.base (.int _),?_⟩
  cases T <;> cases e <;> exact kit_ty (by decide +kernel)
 | str z=>
  obtain rfl:=rx.str R
  refine ⟨_,.base (.str _),?_⟩
  cases T <;> cases e <;> exact kit_ty (by decide +kernel)
 | tup z=>
  obtain ⟨p,xs,rfl,h,_,_⟩:=rx.tup R
  refine ⟨_,tup_ty (sqP_t R.sub h),?_⟩
  cases T <;> cases e <;> exact kit_ty (by decide +kernel)
 | lst z=>
  obtain ⟨p,xs,rfl,h,_,_⟩:=rx.lst R
  refine ⟨_,.base (.lst h),?_⟩
  cases T <;> cases e <;> exact kit_ty (by decide +kernel)
 | dct z=>cases T <;> cases e
 | dcn z=>cases T <;> cases e
 | exc z=>cases T <;> cases e
 | tok=>cases T <;> cases e
 | scr=>cases T <;> cases e
def Ty.nm (T : Ty) : Str:=Str.ofString T.name
theorem Ty.boot (T : Ty) : bootBuiltins T.nm = some (.type T.name):=by
 cases T
 · exact PyProof.Rows.boot_int
 · exact PyProof.Rows.boot_bool
 · exact PyProof.Rows.boot_str
 · exact PyProof.Rows.boot_tuple
 · exact PyProof.Rows.boot_list
theorem s_isa (hK : X.K = P.K) {T : Ty} (hg : Gl X "isinstance") (hm : X.mg "isinstance" = none) (hgT : Gl X T.nm) (hmT : X.mg T.nm = none) (ha : PE X a (tB P fa))
  (hs : starEach [a,.Name T.nm p2] X.env = (false,eval a X.env) :: starEach [.Name T.nm p2] X.env) :
  PE X (.Call (.Name "isinstance" p1) [a,.Name T.nm p2] [] pos) (tD P fun r t=>(fa r t).bind fun x t1=>Fm.lift ((isaD x T).map D.bl) t1):=by
 have hT : PE X (.Name T.nm p2) (tC (.ty T.name)):=pe_bltn hgT hmT T.boot rfl (by cases T <;> decide) (by cases T <;> decide)
 refine peMono (pe_callB call_isi hg hm PyProof.Rows.boot_isinstance (pa_cons ha (pa_cons hT pa_nil rfl) hs) (by decide) (by decide) hs (by rfl)) fun σ H Q ⟨F,r,t,R,h⟩=>⟨F,r,t,R,h.bind.mono fun d t1 h v F1 H1 s1 R1 rv=>?_⟩
 obtain ⟨d2,e,q⟩:=h.lift
 obtain ⟨k,e1,rfl⟩:=Option.map_eq_some_iff.mp e
 obtain ⟨ty,h1,h2⟩:=isa_of R1 rv e1
 exact ⟨v,.ty T.name,ty,.type T.name,k,rfl,.ty _,by rw [hK];exact h1,by rw [hK];exact h2,q _ _ _ s1 R1 (.bl _)⟩
theorem RpK.look {K : PySem.W.Frag} {T : Tn} {F : Hp} (k : Key) : ∀ {kvs : List (Key × V)} {es : List (Key × D)},RpK K T F kvs es → (∃ v d,valV kvs k = some v ∧ lookD es k = some d ∧ Rp K T F v d) ∨ (valV kvs k = none ∧ lookD es k = none)
 | _,_,.nil=>.inr ⟨rfl,rfl⟩
 | _,_,@RpK.cons _ _ _ k' v kvs d es h q=>by
  by_cases e : k' = k
  · refine .inl ⟨v,d,valV_pos e,?_,h⟩
    simp [lookD,List.find?_cons,e]
  · rcases RpK.look k q with ⟨v2,d2,h1,h2,h3⟩ | ⟨h1,h2⟩
    · refine .inl ⟨v2,d2,by rw [valV_neg e];exact h1,?_,h3⟩
      simpa [lookD,List.find?_cons,e] using h2
    · refine .inr ⟨by rw [valV_neg e];exact h1,?_⟩
      simpa [lookD,List.find?_cons,e] using h2
theorem RpK.any {K : PySem.W.Frag} {T : Tn} {F : Hp} (k : Key) : ∀ {kvs : List (Key × V)} {es : List (Key × D)},RpK K T F kvs es → (kvs.any fun kv=>decide (kv.1 = k)) = es.any fun kv=>decide (kv.1 = k)
 | _,_,.nil=>rfl
 | _,_,.cons h q=>by simp only [List.any_cons,RpK.any k q]
theorem RpK.repl {K : PySem.W.Frag} {T : Tn} {F : Hp} {v : V} {d : D} (k : Key) (h : Rp K T F v d) : ∀ {kvs : List (Key × V)} {es : List (Key × D)},RpK K T F kvs es →
  RpK K T F (kvs.map fun kv=>if kv.1 = k then (kv.1,v) else kv) (es.map fun kv=>if kv.1 = k then (kv.1,d) else kv)
 | _,_,.nil=>.nil
 | _,_,@RpK.cons _ _ _ k' v' kvs d' es h' q=>by
  simp only [List.map_cons]
  by_cases e : k' = k
  · rw [if_pos e,if_pos e]
    exact .cons h (RpK.repl k h q)
  · rw [if_neg e,if_neg e]
    exact .cons h' (RpK.repl k h q)
theorem RpK.snoc {K : PySem.W.Frag} {T : Tn} {F : Hp} {v : V} {d : D} (k : Key) (h : Rp K T F v d) : ∀ {kvs : List (Key × V)} {es : List (Key × D)},RpK K T F kvs es → RpK K T F (kvs ++ [(k,v)]) (es ++ [(k,d)])
 | _,_,.nil=>.cons h .nil
 | _,_,.cons h' q=>.cons h' (RpK.snoc k h q)
theorem RpK.put {K : PySem.W.Frag} {T : Tn} {F : Hp} {v : V} {d : D} (k : Key) (h : Rp K T F v d) {kvs : List (Key × V)} {es : List (Key × D)} (q : RpK K T F kvs es) : RpK K T F (L2.putK kvs k v) (putD es k d):=by
 unfold L2.putK putD
 rw [q.any k]
 split
 · exact q.repl k h
 · exact q.snoc k h
theorem key_of' {F : Hp} {r : Rho} {t : Tw} {σ : L2.St} {H : Hp} {x : V} {dx : D} {k : Key} (R : RelP P F r t σ H) (rx : RpB P F r σ x dx) (e : keyD dx = some k) : x = kV k:=by
 cases dx with
 | int i=>
  cases e
  exact rx.int R
 | str i=>
  cases e
  exact rx.str R
 | _=>cases e
theorem dget_rd {H : Hp} {a : Addr} {kvs : List (Key × V)} {k : Key} (e : Rd H a (.dK kvs)) : DGet H a (kV k) (valV kvs k):=.inl ⟨kvs,k,e,rfl,rfl⟩
theorem s_dix (hK : X.K = P.K) (hpw : P.T.pg = X.prog ∧ P.T.wo = X.w) (hu : X.A.units + 200 < cLine) (ha : PE X a (tB P fa)) (hb : PE X b (tB P fb)) (hs : PlainIx b) : PE X (.Subscript a b pos) (tD P fun r t=>(fa r t).bind fun x t1=>(fb r t1).bind fun y t2=>Fm.lift (dixD x y) t2):=by
 refine peMono (pe_xget hu ha hb hs) fun σ H Q h=>op2 (P:=P) (rr:=fun x y H2 Q=>∃ a v,x = .ref a ∧ XGet X H2 a y (some v) ∧ Q v H2) (fun {x y dx dy d F r t σ H Q} e R rx ry q=>?_) σ H Q h
 cases dx with
 | dct es=>
  obtain ⟨k,e1,e2⟩:=Option.bind_eq_some_iff.mp (show ((keyD dy).bind fun k=>lookD es k) = some d from e)
  obtain ⟨p,kvs,rfl,h1,h2⟩:=rx.dct R
  obtain rfl:=key_of' R ry e1
  rcases h2.look k with ⟨v,d2,h3,h4,h5⟩ | ⟨h3,h4⟩
  · rw [e2] at h4
    cases h4
    exact ⟨p,v,rfl,.inl (h3 ▸ dget_rd h1),q _ _ _ Kp.refl R h5⟩
  · rw [e2] at h4
    cases h4
 | dcn es=>
  obtain ⟨k,e1,e2⟩:=Option.bind_eq_some_iff.mp (show ((keyT dy).bind fun k=>lookN es k) = some d from e)
  obtain ⟨p,xs,rfl,h1,h2,h3,h4⟩:=rx.dcn R
  obtain ⟨b,rfl,nk,_⟩:=nk_of hK R ry e1
  obtain ⟨v,h5,h6⟩:=h4.get e2
  exact ⟨p,v,rfl,.inr ⟨xs,k,b,do_of hK R.sub hpw h1 h2.1 h4,rfl,nk,h5⟩,q _ _ _ Kp.refl R h6⟩
 | _=>cases e
def getE (fa fb fc : Rho → Tw → Res D) (r : Rho) (t : Tw) : Res D:=(fa r t).bind fun x t1=>match x with
  | .dct kvs=>(fb r t1).bind fun y t2=>(fc r t2).bind fun z t3=>(match keyD y with
   | some k=>.ok ((lookD kvs k).getD z) t3
   | none=>.bad)
  | .dcn kvs=>(fb r t1).bind fun y t2=>(fc r t2).bind fun z t3=>(match keyT y with
   | some k=>.ok ((lookN kvs k).getD z) t3
   | none=>.bad)
  | _=>.bad
theorem s_get (hK : X.K = P.K) (hpw : P.T.pg = X.prog ∧ P.T.wo = X.w) (hu : X.A.units + 200 < cLine) (ha : PE X a (tB P fa)) (hb : PE X b (tB P fb)) (hc : PE X c (tD P fc)) (m : M2 X a "get" p1 b c pos) : PE X (.Call (.Attribute a "get" p1) [b,c] [] pos) (tD P (getE fa fb fc)):=by
 refine peMono (pe_xget2 hu ha hb hc m) fun σ H Q ⟨F,r,t,R,h⟩=>⟨F,r,t,R,h.bind.mono fun dx t1 h v F1 H1 s1 R1 rx=>?_⟩
 cases dx with
 | dct es=>
  obtain ⟨p,kvs,rfl,h1,h2⟩:=rx.dct R1
  have h : Aft P F ((fb r t1).bind fun y t2=>(fc r t2).bind fun z t3=>(match keyD y with
   | some k=>.ok ((lookD es k).getD z) t3
   | none=>.bad)) _:=h
  refine ⟨p,rfl,.inl (.inl ⟨kvs,h1⟩),F1,r,t1,R1,(h.up s1.1).bind.mono fun dy t2 h w F2 H2 s2 R2 ry=>⟨F2,r,t2,R2,(h.up s2.1).bind.mono fun dz t3 h u F3 H3 s3 R3 rz=>?_⟩⟩
  cases e : keyD dy with
  | none=>
   rw [e] at h
   exact h.elim
  | some k=>
   rw [e] at h
   have h : ∀ v F' H',Kp P.T F H F' H' → RelP P F' r t3 σ H' → Rp P.K P.T F' v ((lookD es k).getD dz) → Q v H':=h
   obtain ⟨p',kvs',e1,h1',h2'⟩:=(rx.mono (s2.trans s3).1).dct R3
   cases e1
   obtain rfl:=key_of' R3 (ry.mono s3.1) e
   refine ⟨_,.inl (dget_rd h1'),h _ _ _ (s1.trans (s2.trans s3)) R3 ?_⟩
   rcases h2'.look k with ⟨v,d2,h3,h4,h5⟩ | ⟨h3,h4⟩
   · rw [h3,h4]
     exact h5
   · rw [h3,h4]
     exact rz
 | dcn es=>
  obtain ⟨p,xs,rfl,h1,h2,_,h4⟩:=rx.dcn R1
  have h : Aft P F ((fb r t1).bind fun y t2=>(fc r t2).bind fun z t3=>(match keyT y with
   | some k=>.ok ((lookN es k).getD z) t3
   | none=>.bad)) _:=h
  refine ⟨p,rfl,.inr ⟨xs,do_of hK R1.sub hpw h1 h2.1 h4⟩,F1,r,t1,R1,(h.up s1.1).bind.mono fun dy t2 h w F2 H2 s2 R2 ry=>⟨F2,r,t2,R2,(h.up s2.1).bind.mono fun dz t3 h u F3 H3 s3 R3 rz=>?_⟩⟩
  cases e : keyT dy with
  | none=>
   rw [e] at h
   exact h.elim
  | some k=>
   rw [e] at h
   have h : ∀ v F' H',Kp P.T F H F' H' → RelP P F' r t3 σ H' → Rp P.K P.T F' v ((lookN es k).getD dz) → Q v H':=h
   obtain ⟨p',xs',e1,h1',h2',_,h4'⟩:=(rx.mono (s2.trans s3).1).dcn R3
   cases e1
   obtain ⟨b,rfl,nk,_⟩:=nk_of hK R3 (ry.mono s3.1) e
   rcases h4'.look k with ⟨b',u',v,d2,h5,h6,h7,h8⟩ | ⟨h5,h6⟩
   · refine ⟨some v,.inr ⟨xs',k,b,do_of hK R3.sub hpw h1' h2'.1 h4',rfl,nk,by rw [h5];exact h7⟩,h _ _ _ (s1.trans (s2.trans s3)) R3 ?_⟩
     rw [h6]
     exact h8
   · refine ⟨none,.inr ⟨xs',k,b,do_of hK R3.sub hpw h1' h2'.1 h4',rfl,nk,by rw [h5];exact True.intro⟩,h _ _ _ (s1.trans (s2.trans s3)) R3 ?_⟩
     rw [h6]
     exact rz
 | _=>exact (show False from h).elim
def Cst.v : Cst → V
 | .non=>.non
 | .bl b=>.bl b
 | .int i=>.int i
 | .str x=>.str x
theorem Cst.rp {K : PySem.W.Frag} {T : Tn} {F : Hp} (c : Cst) : Rp K T F c.v c.d:=by
 cases c
 · exact .non
 · exact .bl _
 · exact .int _
 · exact .str _
def Cst.k : Cst → Const
 | .non=>.none
 | .bl b=>.bool b
 | .int i=>.int i
 | .str x=>.str x
theorem pe_cst {k : Cst} {j : Nat} : PE X (.Constant k.k j pos) (tC k.v):=by
 cases k
 · exact pe_non
 · exact pe_bl
 · exact pe_int
 · exact pe_str
theorem s_cst {k : Cst} {j : Nat} : PE X (.Constant k.k j pos) (tD P fun _ t=>.ok k.d t):=peMono pe_cst fun σ H Q ⟨F,r,t,R,q⟩=>q _ _ _ Kp.refl R k.rp
inductive DspIs : List (Str × Cst) → List (Option Expr) → List Expr → Prop
 | nil : DspIs [] [] []
 | cons {x : Str} {c : Cst} {kvs : List (Str × Cst)} {ks : List (Option Expr)} {vs : List Expr} {j j' : Nat} {q q' : Pos} : DspIs kvs ks vs → DspIs ((x,c) :: kvs) (some (.Constant (.str x) j q) :: ks) (.Constant c.k j' q' :: vs)
theorem DspIs.pps {kvs : List (Str × Cst)} {ks : List (Option Expr)} {vs : List Expr} (h : DspIs kvs ks vs) : PPs X pos ks vs (kvs.map fun p=>(tC (.str p.1),tC p.2.v)):=by
 induction h with
 | nil=>exact pps_nil
 | cons h ih=>exact pps_cons pe_str pe_cst ih
theorem DspIs.all {kvs : List (Str × Cst)} {ks : List (Option Expr)} {vs : List Expr} (h : DspIs kvs ks vs) : ks.all (·.isSome) = true ∧ ks.length = kvs.length ∧ vs.length = kvs.length:=by
 induction h with
 | nil=>exact ⟨rfl,rfl,rfl⟩
 | cons h ih=>exact ⟨by simp [ih.1],by simp [ih.2.1],by simp [ih.2.2]⟩
theorem tPairs_cst {σ : L2.St} {H : Hp} : ∀ {kvs : List (Str × Cst)} {Q : List (V × V) → Hp → Prop},Q (kvs.map fun p=>(V.str p.1,p.2.v)) H → tPairs (kvs.map fun p=>(tC (.str p.1),tC p.2.v)) σ H Q
 | [],_,h=>h
 | p :: r,Q,h=>tPairs_cst (kvs:=r) (Q:=fun ps H3=>Q ((V.str p.1,p.2.v) :: ps) H3) h
theorem merge_rel {K : PySem.W.Frag} {T : Tn} {F : Hp} : ∀ {l : List (Str × Cst)} {kvs : List (Key × V)} {es : List (Key × D)},RpK K T F kvs es →
  RpK K T F (mergeK kvs (l.map fun p=>(Sum.inr p.1,p.2.v))) (mergeD es (l.map fun p=>(p.1,p.2.d)))
 | [],_,_,q=>q
 | p :: r,_,_,q=>merge_rel (l:=r) (q.put (Sum.inr p.1) p.2.rp)
theorem n_dsp {kvs : List (Str × Cst)} {ks : List (Option Expr)} {vs : List Expr} (h : DspIs kvs ks vs) : PE X (.Dict ks vs pos) (tN P fun _ t=>if decide (kvs.length ≤ 15) then .ok (.dct (mergeD [] (kvs.map fun p=>(p.1,p.2.d)))) t else .bad):=by
 obtain ⟨a1,a2,a3⟩:=h.all
 by_cases hl : kvs.length ≤ 15
 · obtain rfl | hne : kvs = [] ∨ kvs ≠ []:=by
    cases kvs with
    | nil=>exact .inl rfl
    | cons=>exact .inr (List.cons_ne_nil _ _)
   · cases h
     refine peMono pe_dnewK fun σ H Q ⟨F,r,t,R,q⟩ p hp=>?_
     have q : ∀ v F' H' p,Kp P.T F H F' H' → RelP P F' r t σ H' → Nn H p → Fre P F' r σ H' v (.dct []) p → Q v H':=q
     obtain ⟨R2,k2,fr⟩:=mkNew (o:=.dK []) (d:=.dct []) R hp ⟨[],upd_same,Nat.zero_le _,.nil⟩
     exact q _ _ _ p k2 R2 (.of hp) fr
   · have h0 : ks ≠ []:=fun e=>hne (List.length_eq_zero_iff.mp (by rw [← a2,e];rfl))
     refine peMono (pe_disp h.pps a1 (a2.trans a3.symm) h0 (by rw [a2];exact hl)) fun σ H Q ⟨F,r,t,R,q⟩ p hp=>?_
     dsimp only at q
     rw [decide_eq_true hl] at q
     have q : ∀ v F' H' p,Kp P.T F H F' H' → RelP P F' r t σ H' → Nn H p → Fre P F' r σ H' v (.dct (mergeD [] (kvs.map fun p=>(p.1,p.2.d)))) p → Q v H':=q
     refine tPairs_cst ⟨upd_same,kvs.map (fun p=>(Sum.inr p.1,p.2.v)),by simp [kV],by simpa using hl,?_⟩
     rw [upd_upd]
     obtain ⟨R2,k2,fr⟩:=mkNew (o:=.dK (mergeK [] (kvs.map fun p=>(Sum.inr p.1,p.2.v)))) (d:=.dct (mergeD [] (kvs.map fun p=>(p.1,p.2.d)))) R hp
      ⟨_,upd_same,by have:=length_mergeK (kvs.map fun p=>(Sum.inr p.1,p.2.v)) [];rw [sizeLine_eq];simp at this;omega,merge_rel .nil⟩
     exact q _ _ _ p k2 R2 (.of hp) fr
 · exact peMono (t:=fun _ _ _=>False) ⟨fun _ _ _ _ _ _ z=>False.elim z⟩ fun σ H Q ⟨F,r,t,R,q⟩=>by
    dsimp only at q
    rw [decide_eq_false hl] at q
    exact q
theorem s_var {i : Nat} {x : Str} (hN : X.N[i]? = some x) (hv : Vis X.env.scope x) (hd : (x == ("__debug__" : Str)) = false) (hcd : (x == ("__classdict__" : Str)) = false) :
  PE X (.Name x pos) (tD P fun r t=>match r[i]? with
   | some (.val d)=>.ok d t
   | _=>.bad):=by
 refine peMono (pe_var hN hv hd hcd) fun σ H Q ⟨F,r,t,R,q⟩=>?_
 dsimp only at q
 cases e : r[i]? with
 | none=>
  rw [e] at q
  exact q.elim
 | some s=>
  rw [e] at q
  cases s with
  | val d=>
   obtain ⟨v,e1,h⟩:=R.val i d e
   exact ⟨v,e1,q v F H Kp.refl R h⟩
  | _=>exact q.elim
theorem b_var {i : Nat} {x : Str} (hN : X.N[i]? = some x) (hv : Vis X.env.scope x) (hd : (x == ("__debug__" : Str)) = false) (hcd : (x == ("__classdict__" : Str)) = false) :
  PE X (.Name x pos) (tB P fun r t=>match r[i]? with
   | some (.val d)=>.ok d t
   | some (.own d)=>.ok d t
   | _=>.bad):=by
 refine peMono (pe_var hN hv hd hcd) fun σ H Q ⟨F,r,t,R,q⟩=>?_
 dsimp only at q
 cases e : r[i]? with
 | none=>
  rw [e] at q
  exact q.elim
 | some s=>
  rw [e] at q
  cases s with
  | val d=>
   obtain ⟨v,e1,h⟩:=R.val i d e
   exact ⟨v,e1,q v F H Kp.refl R (.inl h)⟩
  | own d=>
   obtain ⟨p,e1,h⟩:=R.own i d e
   exact ⟨_,e1,q _ F H Kp.refl R (.inr ⟨i,e,e1⟩)⟩
  | _=>exact q.elim
theorem s_glob {x : Str} {v : V} {u : Value} {d : D} (hg : Gl X x) (hm : X.mg x = some u) (rv : RelV v u) (h : Rp P.K P.T (fun _=>none) v d) (hd : (x == ("__debug__" : Str)) = false) : PE X (.Name x pos) (tD P fun _ t=>.ok d t):=
 peMono (pe_glob hg hm rv hd) fun σ H Q ⟨F,r,t,R,q⟩=>q v F H Kp.refl R (h.mono fun _ _ z=>by cases z)
end
end Fm
namespace Fm
open PySem PySem.Spec PyProof.Rows L2
def Chg (is : List Nat) (σ σ' : L2.St) : Prop:=σ'.length = σ.length ∧ ∀ j,j ∉ is → σ'[j]? = σ[j]?
theorem Chg.refl {is : List Nat} {σ : L2.St} : Chg is σ σ:=⟨rfl,fun _ _=>rfl⟩
theorem Chg.trans {is js : List Nat} {σ σ1 σ2 : L2.St} (a : Chg is σ σ1) (b : Chg js σ1 σ2) : Chg (is ++ js) σ σ2:=
 ⟨b.1.trans a.1,fun j h=>(b.2 j fun z=>h (List.mem_append_right _ z)).trans (a.2 j fun z=>h (List.mem_append_left _ z))⟩
theorem wipe_get (σ : L2.St) (j : Nat) : ∀ vs : List Nat,(wipe σ vs)[j]? = if j ∈ vs ∧ j < σ.length then some none else σ[j]?
 | []=>by simp [wipe]
 | v :: vs=>by
  unfold wipe
  rw [List.getElem?_set,wipe_get σ j vs,wipe_length]
  by_cases h : v = j
  · subst h
    by_cases hl : v < σ.length
    · simp [hl]
    · simp [hl]
  · simp [h,Ne.symm h]
theorem Chg.wipe {is vs : List Nat} {σ σ' : L2.St} (c : Chg is σ σ') (h : ∀ i ∈ is,i ∈ vs) : wipe σ' vs = wipe σ vs:=by
 refine List.ext_getElem? fun j=>?_
 rw [wipe_get,wipe_get,c.1]
 by_cases hj : j ∈ vs
 · by_cases hl : j < σ.length
   · simp [hj,hl]
   · simp only [hj,hl,and_false,if_false]
     rw [List.getElem?_eq_none (by rw [c.1];omega),List.getElem?_eq_none (by omega)]
 · simp only [hj,false_and,if_false]
   exact c.2 j fun z=>hj (h j z)
section
variable {P : Pm} {X : Cx} {a b c : Expr} {pos p1 p2 : Pos} {fa fb fc : Rho → Tw → Res D}
def Tg.isT : Tg → Bool
 | .tup _=>true
 | .name _=>false
def RpG (K : PySem.W.Frag) (T : Tn) (F : Hp) (tg : Tg) (v : V) (d : D) : Prop:=Rp K T F v d ∨ (tg.isT = true ∧ ∃ p xs es,v = .ref p ∧ d = .tup es ∧ SqT K F p xs ∧ xs.length ≤ sizeLine ∧ RpL K T F xs es)
def gT (P : Pm) (tg : Tg) : TG:=fun v σ H Q=>∃ F r t d r',RelP P F r t σ H ∧ RpG P.K P.T F tg v d ∧ setT tg d r = some r' ∧ ∀ σ',RelP P F r' t σ' H → Chg tg.slots σ σ' → Q σ' H
def gTs (P : Pm) (ts : Tgs) : TGs:=fun vs σ H Q=>∃ F r t ds r',RelP P F r t σ H ∧ RpL P.K P.T F vs ds ∧ setTs ts ds r = some r' ∧ ∀ σ',RelP P F r' t σ' H → Chg ts.slots σ σ' → Q σ' H
theorem pgMono {tg : Expr} {t u : TG} (h : PG X tg t) (i : ∀ v σ H Q,u v σ H Q → t v σ H Q) : PG X tg u:=⟨fun pins s σ H v w Q I r q=>h.run pins s σ H v w Q I r (i v σ H Q q)⟩
theorem pgsMono {tg : List Expr} {t u : TGs} (h : PGs X tg t) (i : ∀ v σ H Q,u v σ H Q → t v σ H Q) : PGs X tg u:=⟨fun pins s σ H v w Q I r q=>h.run pins s σ H v w Q I r (i v σ H Q q)⟩
theorem g_name {i : Nat} {x : Str} (hN : X.N.Nodup) (hi : X.N[i]? = some x) (hx : Loc X.env.scope x) (hf : X.fn x = true ∨ X.env.scope.names.lookup x = some .local) : PG X (.Name x pos) (gT P (.name i)):=by
 refine pgMono (pg_name hN hi hx hf) fun v σ H Q ⟨F,r,t,d,r',R,rv,e,q⟩=>?_
 have rv : Rp P.K P.T F v d:=rv.elim id fun z=>by cases z.1
 simp only [setT] at e
 split at e
 · cases e
   refine q _ (R.setVal rv) ⟨by simp,fun j h=>?_⟩
   exact List.getElem?_set_ne (fun z=>h (by simp [Tg.slots,z]))
 · cases e
theorem g_nil : PGs X [] (gTs P .nil):=pgsMono pgs_nil fun v σ H Q ⟨F,r,t,ds,r',R,rv,e,q⟩=>by
 cases rv with
 | nil=>
  cases e
  exact ⟨rfl,q σ R Chg.refl⟩
 | cons _ _=>cases e
theorem g_cons {e : Expr} {es : List Expr} {tg : Tg} {ts : Tgs} (h1 : PG X e (gT P tg)) (h2 : PGs X es (gTs P ts)) (hs : (assignEach (e :: es) X.env).map (·.2) = assign e X.env :: (assignEach es X.env).map (·.2)) : PGs X (e :: es) (gTs P (.cons tg ts)):=
 pgsMono (pgs_cons h1 h2 hs) fun v σ H Q ⟨F,r,t,ds,r',R,rv,e,q⟩=>by
  cases rv with
  | nil=>cases e
  | @cons v vs d ds h hr=>
   obtain ⟨r1,e1,e2⟩:=Option.bind_eq_some_iff.mp (show ((setT tg d r).bind fun r1=>setTs ts ds r1) = some r' from e)
   exact ⟨v,vs,rfl,F,r,t,d,r1,R,.inl h,e1,fun σ1 R1 c1=>⟨F,r1,t,ds,r',R1,hr,e2,fun σ2 R2 c2=>q σ2 R2 (c1.trans c2)⟩⟩
def Tgs.count : Tgs → Nat
 | .nil=>0
 | .cons _ ts=>ts.count + 1
theorem setTs_count : ∀ {ts : Tgs} {ds : List D} {r r' : Rho},setTs ts ds r = some r' → ds.length = ts.count
 | .nil,[],_,_,_=>rfl
 | .nil,_ :: _,_,_,h=>by cases h
 | .cons _ _,[],_,_,h=>by cases h
 | .cons t ts,d :: ds,r,r',h=>by
  obtain ⟨r1,e1,e2⟩:=Option.bind_eq_some_iff.mp (show ((setT t d r).bind fun r1=>setTs ts ds r1) = some r' from h)
  show ds.length + 1 = ts.count + 1
  rw [setTs_count e2]
theorem pg_or {e : Expr} {t u : TG} (h1 : PG X e t) (h2 : PG X e u) : PG X e (fun v σ H Q=>t v σ H Q ∨ u v σ H Q):=⟨fun pins s σ H v w Q I r hw=>hw.elim (h1.run pins s σ H v w Q I r) (h2.run pins s σ H v w Q I r)⟩
theorem g_tup {es : List Expr} {k : Nat} {ts : Tgs} (hK : X.K = P.K) (hc : X.calm = true) (h : PGs X es (gTs P ts)) (hn : (assignEach es X.env).length = ts.count) (hst : (assignEach es X.env).findIdx? (·.1) = none) :
  PG X (.Tuple es k pos) (gT P (.tup ts)):=
 pgMono (pg_or (pg_tup hc h hn hst) (pg_lst hc h hn hst)) fun v σ H Q ⟨F,r,t,d,r',R,rv,e,q⟩=>by
  cases d with
  | tup ds=>
   obtain ⟨p,xs,rfl,h1,h2⟩ : ∃ p xs,v = .ref p ∧ SqT P.K F p xs ∧ RpL P.K P.T F xs ds:=by
    rcases rv with rv | ⟨_,p,xs,es,h1,h2,h3,_,h4⟩
    · cases rv with
      | tup h1 z h2=>exact ⟨_,_,rfl,h1.1,h2⟩
    · cases h2
      exact ⟨p,xs,h1,h3,h4⟩
   have e : setTs ts ds r = some r':=by simpa only [setT] using e
   rw [hK]
   exact .inl ⟨p,xs,rfl,sqT_mono R.sub h1,by rw [h2.length];exact setTs_count e,F,r,t,ds,r',R,h2,e,q⟩
  | lst ds=>
   rcases rv with rv | ⟨_,p,xs,es,h1,h2,h3,_,h4⟩
   · cases rv with
     | lst h1 z h2=>
      have e : setTs ts ds r = some r':=by simpa only [setT] using e
      exact .inr ⟨_,_,rfl,SqL.of (R.sub _ _ h1),by rw [h2.length];exact setTs_count e,F,r,t,ds,r',R,h2,e,q⟩
   · cases h2
  | _=>simp [setT] at e
structure WD (P : Pm) (w : Bool) (J : It) (G : Hp → Prop) (F : Hp) (ds : List D) : Prop where
 goes : ∀ i H,i < ds.length → G H → J.go i H
 stops : ∀ H,G H → J.stop ds.length H
 yields : ∀ i H x H' d,ds[i]? = some d → G H → J.yld i H x H' → (H' = H ∧ Rp P.K P.T F x d) ∨ (w = true ∧ ∃ p xs es,x = .ref p ∧ H p = none ∧ H' = upd H p (.tup xs) ∧ d = .tup es ∧ xs.length ≤ sizeLine ∧ RpL P.K P.T F xs es) ∨
  ∃ p o xs es,x = .ref p ∧ H p = none ∧ o.dict = none ∧ H' = upd H p (.frz o (.tup xs)) ∧ d = .tup es ∧ xs.length ≤ sizeLine ∧ RpL P.K P.T F xs es
theorem WD.draw {w : Bool} {J : It} {G : Hp → Prop} {F F2 H H' : Hp} {ds : List D} {tg : Tg} {i : Nat} {x : V} {d : D} {r : Rho} {t : Tw} {σ : L2.St} (h : WD P w J G F ds) (hw : w = true → tg.isT = true) (e : ds[i]? = some d) (g : G H) (y : J.yld i H x H') (k : Same F F2) (R : RelP P F2 r t σ H) :
  ∃ F3,Kp P.T F2 H F3 H' ∧ (∀ {P' : Pm} {r' : Rho} {σ' : L2.St},P'.T = P.T → P'.K = P.K → RelP P' F2 r' t σ' H → RelP P' F3 r' t σ' H') ∧ RelP P F3 r t σ H' ∧ RpG P.K P.T F3 tg x d:=by
 rcases h.yields i H x H' d e g y with ⟨rfl,rx⟩ | ⟨hw',p,xs,es,rfl,hp,rfl,rfl,z,q⟩ | ⟨p,o,xs,es,rfl,hp,hd,rfl,rfl,z,q⟩
 · exact ⟨F2,Kp.refl,fun _ _ h=>h,R,.inl (rx.mono k)⟩
 · have b:=R.toRelH.newF (o:=.tup xs) hp
   exact ⟨_,Kp.of b,fun h1 h2 h=>h.step (by rw [h1,h2];exact b),R.step b,.inr ⟨hw hw',p,xs,es,rfl,rfl,SqT.of upd_same,z,q.mono (k.trans b.base)⟩⟩
 · have b:=R.toRelH.newF (o:=.frz o (.tup xs)) hp
   exact ⟨_,Kp.of b,fun h1 h2 h=>h.step (by rw [h1,h2];exact b),R.step b,.inl (.tup ⟨.inl (.inr ⟨o,upd_same⟩),.inl ⟨o,xs,upd_same,hd⟩⟩ z (q.mono (k.trans b.base)))⟩
def keepG (P : Pm) (F H : Hp) (H2 : Hp) : Prop:=Same F H2 ∧ ∀ a o,H a = some o → a ≠ P.T.a → a ≠ P.T.b → NT o → H2 a = some o
def tI (P : Pm) (fz w : Bool) (f : Rho → Tw → Res (List D)) : TI:=fun σ H Q=>∃ F r t,RelP P F r t σ H ∧ Aft P F (f r t) fun ds t'=>∀ J F' H',Kp P.T F H F' H' → RelP P F' r t' σ H' →
 WD P w J (if fz then Same F' else keepG P F' H') F' ds → Q J H'
theorem piMono {tg e : Expr} {t u : TI} (h : PI X tg e t) (i : ∀ σ H Q,u σ H Q → t σ H Q) : PI X tg e u:=⟨fun pins s σ H Q I q=>h.run pins s σ H Q I (i σ H Q q)⟩
theorem WD.weak {w0 : Bool} {J : It} {G G' : Hp → Prop} {F : Hp} {ds : List D} (w : WD P w0 J G F ds) (h : ∀ H,G' H → G H) : WD P w0 J G' F ds:=
 ⟨fun i H hi g=>w.goes i H hi (h H g),fun H g=>w.stops H (h H g),fun i H x H' d e g y=>w.yields i H x H' d e (h H g) y⟩
theorem WD.fz {w0 : Bool} {J : It} {F H : Hp} {ds : List D} (w : WD P w0 J (Same F) F ds) (b : Bool) : WD P w0 J (if b then Same F else keepG P F H) F ds:=by
 cases b
 · exact w.weak fun H g=>g.1
 · exact w
theorem pi_seq {tg : Expr} {tl : TE} (hl : PE X a tl) : PI X tg a (fun σ H R=>tl σ H fun x H1=>(∃ p,x = .ref p ∧ (∃ xs,SqL X.K H1 p xs) ∧ R (Itl X.K p) H1) ∨ (∃ p,x = .ref p ∧ (∃ xs,SqT X.K H1 p xs) ∧ R (Itt X.K p) H1) ∨ ∃ z,x = .str z ∧ R (Its z) H1):=by
 constructor
 intro pins s σ H R I h
 have run:=hl.run pins s σ H _ I h
 refine thn run fun v s1 ⟨_,H1,I1,rel,q⟩=>?_
 rcases q with ⟨p,rfl,⟨_,seq⟩,q⟩ | ⟨p,rfl,⟨_,seq⟩,q⟩ | ⟨z,rfl,q⟩
 · cases rel
   have ⟨_,_,l,_⟩:=I1.list seq
   exact wpAny_pyIter_list l.isList (pi_one (tk:=s1.toks) I1 _ (turn_list p _) ⟨_,Heap.get?_push_size _ rfl,rfl,rfl⟩ q)
 · cases rel
   have ⟨_,_,t,_⟩:=I1.tuple seq
   exact wpAny_pyIter_tuple t (pi_one (tk:=s1.toks) I1 _ (turn_tuple p _) ⟨_,Heap.get?_push_size _ rfl,rfl,rfl⟩ q)
 · obtain ⟨t,rfl⟩:=rel
   cases narrow : z.cps.all (· < 128)
   · exact wpAny_pyIter_wide narrow (pi_one (tk:=s1.toks) I1 _ (turn_str _ z t "str_iterator" (.inr rfl)) ⟨_,Heap.get?_push_size _ rfl,rfl,rfl⟩ q)
   · exact wpAny_pyIter_ascii narrow (pi_one (tk:=s1.toks) I1 _ (turn_str _ z t "str_ascii_iterator" (.inl rfl)) ⟨_,Heap.get?_push_size _ rfl,rfl,rfl⟩ q)
theorem wd_at {w0 : Bool} {J : It} {n : Nat} {G : Hp → Prop} {F : Hp} {xs : List V} {ds : List D} (w : Walk J xs.length G (YAt xs)) (q : RpL P.K P.T F xs ds) : WD P w0 J G F ds:=by
 refine ⟨fun i H hi g=>w.goes i H (by rw [q.length];exact hi) g,fun H g=>by rw [← q.length];exact w.stops H g,fun i H x H' d e g y=>.inl ?_⟩
 obtain ⟨v,e1,r1⟩:=q.get e
 have hi : i < xs.length:=(List.getElem?_eq_some_iff.mp e1).1
 obtain ⟨h1,h2⟩:=w.yields i H x H' hi g y
 rw [e1] at h2
 cases h2
 exact ⟨h1,r1⟩
theorem wd_lst {w0 : Bool} {F : Hp} {p : Addr} {xs : List V} {ds : List D} {K : PySem.W.Frag} (hK : K = P.K) (h : F p = some (.lst xs)) (q : RpL P.K P.T F xs ds) : WD P w0 (Itl K p) (Same F) F ds:=
 wd_at (n:=0) (walk_list.mono (fun H g=>SqL.of (g _ _ h)) fun i H x H' _ _ y=>y) q
theorem wd_lstO {w0 : Bool} {F H : Hp} {p : Addr} {xs : List V} {ds : List D} {K : PySem.W.Frag} (hK : K = P.K) (h : H p = some (.lst xs)) (n1 : p ≠ P.T.a) (n2 : p ≠ P.T.b) (q : RpL P.K P.T F xs ds) : WD P w0 (Itl K p) (keepG P F H) F ds:=
 wd_at (n:=0) (walk_list.mono (fun H g=>SqL.of (g.2 _ _ h n1 n2 (by intro _ z;cases z))) fun i H x H' _ _ y=>y) q
theorem wd_tup {w0 : Bool} {F : Hp} {p : Addr} {xs : List V} {ds : List D} {K : PySem.W.Frag} (hK : K = P.K) (h : SqT K F p xs) (q : RpL P.K P.T F xs ds) : WD P w0 (Itt K p) (Same F) F ds:=
 wd_at (n:=0) (walk_tup.mono (fun H g=>sqT_mono g h) fun i H x H' _ _ y=>y) q
theorem wd_str {w0 : Bool} {F : Hp} {z : Str} : WD P w0 (Its z) (Same F) F (strD z):=by
 have hl : (strD z).length = z.cps.size:=by simp [strD]
 have w:=walk_str (z:=z)
 refine ⟨fun i H hi g=>w.goes i H (by rw [← hl];exact hi) trivial,fun H g=>by rw [hl];exact w.stops H trivial,fun i H x H' d e g y=>.inl ?_⟩
 have hi : i < z.cps.size:=by
  rw [← hl]
  exact (List.getElem?_eq_some_iff.mp e).1
 obtain ⟨h1,c,h2,rfl⟩:=w.yields i H x H' hi trivial y
 refine ⟨h1,?_⟩
 have e2 : (strD z)[i]? = some (.str ⟨#[c]⟩):=by
  unfold strD
  rw [List.getElem?_map,Array.getElem?_toList,h2]
  rfl
 rw [e2] at e
 cases e
 exact .str _
def evV (f : Rho → Tw → Res D) (r : Rho) (t : Tw) : Res (List D):=(f r t).bind fun x t1=>match x with
  | .tup xs=>.ok xs t1
  | .lst xs=>.ok xs t1
  | .str x=>.ok (strD x) t1
  | _=>.bad
theorem i_val {w0 : Bool} {tg : Expr} (hK : X.K = P.K) (ha : PE X a (tD P fa)) : PI X tg a (tI P true w0 (evV fa)):=piMono (pi_seq ha) fun σ H Q ⟨F,r,t,R,h⟩=>⟨F,r,t,R,h.bind.mono fun d t' h v F' H' s R' rv=>by
 cases d with
 | tup ds=>
  cases rv with
  | @tup p xs ds h1 z h2=>exact .inr (.inl ⟨p,rfl,⟨xs,by rw [hK];exact sqP_t R'.sub h1⟩,h _ _ _ s R' (wd_tup hK (by rw [hK];exact h1.1) h2)⟩)
 | lst ds=>
  cases rv with
  | @lst p xs ds h1 z h2=>exact .inl ⟨p,rfl,⟨xs,SqL.of (R'.sub _ _ h1)⟩,h _ _ _ s R' (wd_lst hK h1 h2)⟩
 | str z=>
  cases rv
  exact .inr (.inr ⟨z,rfl,h _ _ _ s R' wd_str⟩)
 | _=>exact (show False from h).elim⟩
theorem i_bor {w0 : Bool} {tg : Expr} (hK : X.K = P.K) (ha : PE X a (tB P fa)) : PI X tg a (tI P false w0 (evV fa)):=piMono (pi_seq ha) fun σ H Q ⟨F,r,t,R,h⟩=>⟨F,r,t,R,h.bind.mono fun d t' h v F' H' s R' rv=>by
 cases d with
 | tup ds=>
  obtain ⟨p,xs,rfl,h1,z,h2⟩:=rv.tup R'
  exact .inr (.inl ⟨p,rfl,⟨xs,by rw [hK];exact sqP_t R'.sub h1⟩,h _ _ _ s R' ((wd_tup hK (by rw [hK];exact h1.1) h2).fz false)⟩)
 | lst ds=>
  obtain ⟨p,xs,rfl,h1,z,h2⟩:=rv.lst R'
  have n1 : p ≠ P.T.a:=fun e=>by
   rw [e,R'.tw.a] at h1
   cases h1
  have n2 : p ≠ P.T.b:=fun e=>by
   rw [e,R'.tw.b] at h1
   cases h1
  exact .inl ⟨p,rfl,⟨xs,SqL.of h1⟩,h _ _ _ s R' (wd_lstO hK h1 n1 n2 h2)⟩
 | str z=>
  obtain rfl:=rv.str R'
  exact .inr (.inr ⟨z,rfl,h _ _ _ s R' (wd_str.fz false)⟩)
 | _=>exact (show False from h).elim⟩
theorem wd_rng {w0 : Bool} {F : Hp} {lo : Int} {n : Nat} : WD P w0 (Itr lo n) (Same F) F (rngD lo n):=by
 have hl : (rngD lo n).length = n:=by simp [rngD]
 refine ⟨fun i H hi g=>(by rw [hl] at hi;exact hi),fun H g=>(by rw [hl];exact Nat.le_refl _),fun i H x H' d e g y=>.inl ?_⟩
 obtain ⟨h1,h2⟩:=y
 refine ⟨h1,?_⟩
 have hi : i < n:=by
  rw [← hl]
  exact (List.getElem?_eq_some_iff.mp e).1
 have e2 : (rngD lo n)[i]? = some (.int (lo + (i : Nat))):=by
  unfold rngD
  rw [List.getElem?_map,List.getElem?_range hi]
  rfl
 rw [e2] at e
 cases e
 rw [h2]
 exact .int _
theorem okRng_of {i : Int} (h : okRng i = true) : -(2 ^ 62) ≤ i ∧ i < 2 ^ 62:=by
 have:=Bool.and_eq_true_iff.mp h
 exact ⟨of_decide_eq_true this.1,of_decide_eq_true this.2⟩
theorem i_rng1 {w0 : Bool} {tg : Expr} {fz : Bool} (hg : Gl X "range") (hm : X.mg "range" = none) (ha : PE X a (tB P fa)) (hs : starEach [a] X.env = (false,eval a X.env) :: starEach [] X.env) :
  PI X tg (.Call (.Name "range" p1) [a] [] pos) (tI P fz w0 fun r t=>(fa r t).bind fun x t1=>match x with
  | .int j=>if okRng j then .ok (rngD 0 j.toNat) t1 else .bad
  | _=>.bad):=piMono (pi_range1 hg hm (pa_cons ha pa_nil hs) hs) fun σ H Q ⟨F,r,t,R,h⟩=>⟨F,r,t,R,h.bind.mono fun d t' h v F' H' s R' rv=>by
 cases d with
 | int j=>
  have h : Aft P F (if okRng j then .ok (rngD 0 j.toNat) t' else .bad) _:=h
  split at h
  · rename_i hr
    obtain ⟨h1,h2⟩:=okRng_of hr
    exact ⟨j,by rw [rv.int R'],h1,h2,h _ _ _ s R' (wd_rng.fz fz)⟩
  · exact h.elim
 | _=>exact (show False from h).elim⟩
def turnE (tg : Tg) (vs : List Nat) (fc : Rho → Tw → Res (Option D)) (fe : Rho → Tw → Res D) (r : Rho) (d : D) (t : Tw) : Res (Option D):=match setT tg d (wipeR r vs) with
    | some r2=>(fc r2 t).bind fun o t=>match o with
     | none=>(fe r2 t).bind fun x t=>.ok (some x) t
     | some y=>match truD y with
      | some true=>(fe r2 t).bind fun x t=>.ok (some x) t
      | some false=>.ok none t
      | none=>.bad
    | none=>.bad
def tC1 (P : Pm) (f : Rho → Tw → Res (Option D)) : TT:=fun σ H Q=>∃ F r t,RelP P F r t σ H ∧ Aft P F (f r t) fun o t'=>∃ b,(match o with | none=>some true | some y=>truD y) = some b ∧ ∀ F' H',Kp P.T F H F' H' → RelP P F' r t' σ H' → Q b H'
theorem c_none : PTs X [] (tC1 P fun _ t=>.ok none t):=⟨fun pins s σ H Q I ⟨F,r,t,R,b,e,q⟩=>by
 cases e
 exact pts_nil.run pins s σ H Q I (q F H Kp.refl R)⟩
theorem c_some (ha : PT X a (tT P fa)) : PTs X [a] (tC1 P fun r t=>(fa r t).bind fun x t1=>.ok (some x) t1):=⟨fun pins s σ H Q I ⟨F,r,t,R,h⟩=>
 (pts_one ha).run pins s σ H Q I ⟨F,r,t,R,h.bind.mono fun d t' q=>q⟩⟩
end
end Fm
namespace Fm
open PySem PySem.Spec PyProof.Rows L2 RZ
section
variable {prog : Program} {w : World} {A : Around} {E : Value → Shared → Prop} {s : Shared}
end
section
variable {P : Pm} {X : Cx} {a b : Expr} {pos p1 : Pos} {fa fb : Rho → Tw → Res D}
end
section
variable {prog : Program} {w : World} {A : Around} {E : Value → Shared → Prop} {s : Shared}
end
theorem RpL.reverse {K : PySem.W.Frag} {T : Tn} {F : Hp} : ∀ {vs : List V} {ds : List D},RpL K T F vs ds → RpL K T F vs.reverse ds.reverse
 | _,_,.nil=>.nil
 | _,_,.cons h r=>by
  rw [List.reverse_cons,List.reverse_cons]
  exact r.reverse.append (.cons h .nil)
section
variable {X : Cx} {P : Pm} {fa fb : Rho → Tw → Res D}
end
end Fm
namespace Fm
open PySem PySem.Spec PyProof.Rows L2
abbrev Pm.nox (P : Pm) : Pm:={ P with XE:=fun _ _=>False }
section
variable {P : Pm} {X : Cx}
theorem Rel.upd {F H : Hp} {r : Rho} {t : Tw} {σ : L2.St} {p : Addr} {o : HO} {K : PySem.W.Frag} {T : Tn} {F0 H0 : Hp} (R : Rel K T F0 H0 F r t σ H) (hp : H p ≠ none) (hT : ∀ ps,H p ≠ some (.tbl ps)) (hC : ∀ c q,H p ≠ some (LamX.CodeO c q)) (f : F p = none) (h0 : Nn H0 p) (n1 : p ≠ T.a) (n2 : p ≠ T.b)
  (no : ∀ (i : Nat) (e : D),r[i]? = some (.own e) → σ[i]? ≠ some (some (.ref p))) (ho : NT o:=by intro _ z;cases z) : Rel K T F0 H0 F r t σ (L2.upd H p o):=by
 have nF : ∀ b u,F b = some u → b ≠ p:=fun b u h e=>by
  rw [e,f] at h
  cases h
 refine ⟨⟨fun b u h=>?_,R.new,R.base,fun b u h m1 m2 m3=>?_,fun b h=>R.had b (h.upd ho).1,⟨?_,?_,R.tw.ne,R.tw.small⟩,R.tF1,R.tF2,R.sc,tabs_upd R.tabs hT hC,R.nt⟩,R.len,R.val,fun i d h=>?_,R.inj⟩
 · rw [upd_ne (nF b u h)]
   exact R.sub b u h
 · have : b ≠ p:=fun e=>h0.no (by rw [← e];exact h) m3
   rw [upd_ne this]
   exact R.old b u h m1 m2 m3
 · rw [upd_ne (Ne.symm n1)]
   exact R.tw.a
 · rw [upd_ne (Ne.symm n2)]
   exact R.tw.b
 · obtain ⟨q,e,w⟩:=R.own i d h
   have nq : q ≠ p:=fun z=>no i d h (z ▸ e)
   exact ⟨q,e,⟨w.fr,w.n1,w.n2,w.h0,w.at_.keep (Same.refl F) fun o h=>by rw [upd_ne nq];exact h⟩⟩
theorem wipe_wipe (σ : L2.St) (vs : List Nat) : wipe (wipe σ vs) vs = wipe σ vs:=by
 refine List.ext_getElem? fun j=>?_
 rw [wipe_get,wipe_get,wipe_length]
 by_cases h : j ∈ vs ∧ j < σ.length
 · rw [if_pos h,if_pos h]
 · rw [if_neg h,if_neg h]
def compE (tg : Tg) (vs : List Nat) (fi : Rho → Tw → Res (List D)) (fc : Rho → Tw → Res (Option D)) (fe : Rho → Tw → Res D) (r : Rho) (t : Tw) : Res D:=
 (fi r t).bind fun xs t1=>if okLen xs.length then (compL (turnE tg vs fc fe r) xs t1).bind fun ys t2=>.ok (.lst ys) t2 else .bad
structure CInv (P : Pm) (f : D → Tw → Res (Option D)) (r : Rho) (σ : L2.St) (F1 H1 : Hp) (D : Addr) (ds ys : List Fm.D) (t2 : Tw) (i : Nat) (H : Hp) (F2 : Hp) (t' : Tw) (vacc : List V) (acc rest : List Fm.D) : Prop where
 k : Kp P.T F1 H1 F2 H
 R : RelP P F2 r t' σ H
 d : H D = some (.lst vacc)
 q : RpL P.K P.T F2 vacc acc
 l : vacc.length ≤ i
 e : compL f (ds.drop i) t' = .ok rest t2
 y : ys = acc ++ rest
theorem turn_ok {tg : Tg} {vs : List Nat} {fc : Rho → Tw → Res (Option D)} {fe : Rho → Tw → Res D} {r : Rho} {d : D} {t t1 : Tw} {o : Option D} (h : turnE tg vs fc fe r d t = .ok o t1) :
  ∃ r2 oc tc b,setT tg d (wipeR r vs) = some r2 ∧ fc r2 t = .ok oc tc ∧ (match oc with | none=>some true | some y=>truD y) = some b ∧
   ((b = true ∧ ∃ x,fe r2 tc = .ok x t1 ∧ o = some x) ∨ (b = false ∧ o = none ∧ tc = t1)):=by
 unfold turnE at h
 cases e : setT tg d (wipeR r vs) with
 | none=>
  rw [e] at h
  cases h
 | some r2=>
  rw [e] at h
  dsimp only at h
  cases e2 : fc r2 t with
  | bad=>
   rw [e2] at h
   cases h
  | exc n t3=>
   rw [e2] at h
   cases h
  | ok oc tc=>
   rw [e2] at h
   simp only [Res.bind_ok] at h
   have fin : ∀ {res : Res D},(res.bind fun x t=>Res.ok (some x) t) = .ok o t1 → ∃ x,res = .ok x t1 ∧ o = some x:=fun {res} h=>by
    cases res with
    | ok x t=>
     cases h
     exact ⟨x,rfl,rfl⟩
    | exc n t=>cases h
    | bad=>cases h
   cases oc with
   | none=>exact ⟨r2,none,tc,true,rfl,e2,rfl,.inl ⟨rfl,fin h⟩⟩
   | some y=>
    dsimp only at h
    cases e3 : truD y with
    | none=>
     rw [e3] at h
     cases h
    | some b=>
     rw [e3] at h
     cases b with
     | true=>exact ⟨r2,some y,tc,true,rfl,e2,e3,.inl ⟨rfl,fin h⟩⟩
     | false=>
      have h : Res.ok none tc = Res.ok o t1:=h
      injection h with h1 h2
      exact ⟨r2,some y,tc,false,rfl,e2,e3,.inr ⟨rfl,h1.symm,h2⟩⟩
theorem comp_read {tg : Tg} {vs : List Nat} {fi : Rho → Tw → Res (List D)} {fc : Rho → Tw → Res (Option D)} {fe : Rho → Tw → Res D} {w0 : Bool} (hw : w0 = true → tg.isT = true) (hsl : ∀ i ∈ tg.slots,i ∈ vs) (σ : L2.St) (H : Hp) (Q : VK) (h : tN P (compE tg vs fi fc fe) σ H Q) :
  tLc (tI P false w0 fi) (gT P.nox tg) (tC1 P.nox fc) (tD P.nox fe) vs σ H Q:=by
 obtain ⟨F,r,t,R,h⟩:=h
 refine ⟨F,r,t,R,h.bind.mono fun ds t1 h J F1 H1 s1 R1 w D hD=>?_⟩
 have w : WD P w0 J (keepG P F1 H1) F1 ds:=w
 split at h
 rotate_left
 · exact h.elim
 rename_i hok
 obtain ⟨ys,t2,ec,h⟩ : ∃ ys t2,compL (turnE tg vs fc fe r) ds t1 = .ok ys t2 ∧ ∀ v F' H' p,Kp P.T F H F' H' → RelP P F' r t2 σ H' → Nn H p → Fre P F' r σ H' v (.lst ys) p → Q v H':=by
  cases e : compL (turnE tg vs fc fe r) ds t1 with
  | ok ys t2=>
   rw [e] at h
   exact ⟨ys,t2,rfl,h⟩
  | exc n t2=>
   exfalso
   have no : ∀ (l : List Fm.D) (t : Tw) (n : Nat) (t2 : Tw),compL (turnE tg vs fc fe r) l t ≠ .exc n t2:=by
    intro l
    induction l with
    | nil=>
     intro t n t2 z
     cases z
    | cons d l ih=>
     intro t n t2 z
     unfold compL at z
     split at z
     · rename_i o t3 _
       cases e4 : compL (turnE tg vs fc fe r) l t3 with
       | ok a b=>
        rw [e4] at z
        cases z
       | exc a b=>exact ih _ _ _ e4
       | bad=>
        rw [e4] at z
        cases z
     · cases z
   exact no _ _ _ _ e
  | bad=>
   rw [e] at h
   exact h.elim
 have nTa : D ≠ P.T.a:=fun e=>by
  rw [e,R1.tw.a] at hD
  cases hD
 have nTb : D ≠ P.T.b:=fun e=>by
  rw [e,R1.tw.b] at hD
  cases hD
 have no : ∀ (i : Nat) (e : Fm.D),r[i]? = some (.own e) → σ[i]? ≠ some (some (.ref D)):=fun i e h1 h2=>by
  obtain ⟨q,e1,w⟩:=R1.own i e h1
  rw [h2] at e1
  cases e1
  obtain ⟨o2,ho,_⟩:=w.at_.obj
  rw [hD] at ho
  cases ho
 have FD : ∀ {F2 H2 : Hp},Kp P.T F1 H1 F2 H2 → H2 D ≠ none → True:=fun _ _=>trivial
 have b0:=R1.toRelH.newO (o:=.lst []) hD
 refine ⟨fun i m H=>m = ds.length - i ∧ i ≤ ds.length ∧ ∃ F2 t' vacc acc rest,CInv P (turnE tg vs fc fe r) r σ F1 H1 D ds ys t2 i H F2 t' vacc acc rest ∧ F2 D = none,⟨ds.length,by simp,Nat.zero_le _,F1,t1,[],[],ys,?_,?_⟩,fun i m H2 hW=>?_⟩
 · exact ⟨Kp.of b0,R1.step b0,upd_same,.nil,Nat.zero_le _,by simpa using ec,rfl⟩
 · exact R1.sub.free hD
 · obtain ⟨rfl,hi,F2,t',vacc,acc,rest,⟨k,R2,hd,q,hl,e,ey⟩,fD⟩:=hW
   have hG : keepG P F1 H1 H2:=⟨k.base.trans R2.sub,k.old⟩
   by_cases hlt : i < ds.length
   · refine .inr ⟨w.goes i H2 hlt hG,fun H'=>∃ F2 t' vacc acc rest,CInv P (turnE tg vs fc fe r) r σ F1 H1 D ds ys t2 (i + 1) H' F2 t' vacc acc rest ∧ F2 D = none,fun H' hn=>⟨_,by omega,rfl,hlt,hn⟩,fun x H' hy=>?_⟩
     have hdi : ds[i]? = some ds[i]:=List.getElem?_eq_getElem hlt
     have e' : compL (turnE tg vs fc fe r) (ds[i] :: ds.drop (i + 1)) t' = .ok rest t2:=by
      rw [← List.drop_eq_getElem_cons hlt]
      exact e
     unfold compL at e'
     cases et : turnE tg vs fc fe r ds[i] t' with
     | exc n t3=>
      rw [et] at e'
      cases e'
     | bad=>
      rw [et] at e'
      cases e'
     | ok o t3=>
      rw [et] at e'
      dsimp only at e'
      obtain ⟨rest',er,eo⟩ : ∃ rest',compL (turnE tg vs fc fe r) (ds.drop (i + 1)) t3 = .ok rest' t2 ∧ rest = consO o rest':=by
       cases e4 : compL (turnE tg vs fc fe r) (ds.drop (i + 1)) t3 with
       | ok a b=>
        rw [e4] at e'
        simp only [Res.bind_ok] at e'
        cases e'
        exact ⟨a,rfl,rfl⟩
       | exc a b=>
        rw [e4] at e'
        cases e'
       | bad=>
        rw [e4] at e'
        cases e'
      obtain ⟨r2,oc,tc,b,es,efc,eb,alt⟩:=turn_ok et
      obtain ⟨F3,k3,_,R3,rx⟩:=w.draw hw hdi hG hy k.base R2
      refine ⟨F3,wipeR r vs,t',ds[i],r2,R3.wipe vs,rx,es,fun σ' R4 c=>⟨(c.wipe hsl).trans (wipe_wipe σ vs),?_⟩⟩
      refine ⟨F3,r2,t',R4,?_⟩
      rw [efc]
      refine ⟨b,eb,fun F4 H4 k4 R5=>?_⟩
      rcases alt with ⟨rfl,y,efe,rfl⟩ | ⟨rfl,rfl,rfl⟩
      · rw [if_pos rfl]
        refine ⟨F4,r2,tc,R5,?_⟩
        rw [efe]
        intro v F5 H5 k5 R6 rv
        have k6 : Kp P.T F2 H2 F5 H5:=k3.trans (k4.trans k5)
        have hd5 : H5 D = some (.lst vacc):=k6.old D _ hd nTa nTb (by intro _ z;cases z)
        have fD5 : F5 D = none:=by
         cases z : F5 D with
         | none=>rfl
         | some u=>
          rcases k6.new D u z with z | z
          · rw [fD] at z
            cases z
          · exact (z.no hd (by intro _ z;cases z)).elim
        have hsz : vacc.length < sizeLine:=by
         have:=of_decide_eq_true hok
         rw [sizeLine_eq]
         omega
        have R7 : RelP P F5 r t3 σ H5:=R2.step (Kp.relH (P:=P.nox) k6 R6)
        have R8 : RelP P F5 r t3 σ (L2.upd H5 D (.lst (vacc ++ [v]))):=Rel.upd R7 (by rw [hd5];simp) (fun ps z=>by rw [hd5] at z;cases z) (fun c q z=>by rw [hd5] at z;cases z) fD5 (R1.had D (.of hD)) nTa nTb no
        refine ⟨vacc,hd5,hsz,F5,t3,vacc ++ [v],acc ++ [y],rest',⟨?_,R8,upd_same,(q.mono k6.base).append (.cons rv .nil),?_,er,?_⟩,fD5⟩
        · have k7:=k.trans k6
          refine ⟨k7.base,k7.new,fun a o ha m1 m2 m3=>?_,fun a ha=>k7.had a (ha.upd (by intro _ z;cases z)).1⟩
          have : a ≠ D:=fun e=>by
           rw [e,hD] at ha
           cases ha
          rw [upd_ne this]
          exact k7.old a o ha m1 m2 m3
        · rw [List.length_append,List.length_singleton]
          omega
        · rw [ey,eo]
          simp [consO]
      · rw [if_neg (by decide)]
        have k6 : Kp P.T F2 H2 F4 H4:=k3.trans k4
        have R7 : RelP P F4 r tc σ H4:=R2.step (Kp.relH (P:=P.nox) k6 R5)
        refine ⟨F4,tc,vacc,acc,rest',⟨k.trans k6,R7,k6.old D _ hd nTa nTb (by intro _ z;cases z),q.mono k6.base,by omega,er,?_⟩,?_⟩
        · rw [ey,eo];rfl
        · cases z : F4 D with
          | none=>rfl
          | some u=>
           rcases k6.new D u z with z | z
           · rw [fD] at z
             cases z
           · exact (z.no hd (by intro _ z;cases z)).elim
   · have ei : i = ds.length:=by omega
     subst ei
     refine .inl ⟨w.stops H2 hG,?_⟩
     rw [List.drop_length] at e
     cases e
     rw [List.append_nil] at ey
     subst ey
     refine h _ _ _ D (s1.trans k) R2 (s1.had D (.of hD)) ⟨rfl,⟨fD,nTa,nTb,R1.had D (.of hD),vacc,hd,?_,q⟩,no⟩
     have:=of_decide_eq_true hok
     rw [sizeLine_eq]
     omega
theorem n_comp {elt tg iter : Expr} {ifs : List Expr} {scope : Scope} {own : List (Str × Nat)} {pos : Pos} {tgt : Tg} {fi : Rho → Tw → Res (List D)} {fc : Rho → Tw → Res (Option D)} {fe : Rho → Tw → Res D} (hc : X.calm = true) (hN : X.N.Nodup)
  {w0 : Bool} (hw : w0 = true → tgt.isT = true) (hi : PI X tg iter (tI P false w0 fi)) (ok : BlkOk X.N X.env.scope scope own) (hg : ∀ (s : Shared) (H : Hp) (C : Addr) (cl : List (Str × Addr)) (fp : List Addr),PG (X.blk s H scope (compEnvC scope cl C X.env) fp) tg (gT P.nox tgt))
  (ht : ∀ (s : Shared) (H : Hp) (C : Addr) (cl : List (Str × Addr)) (fp : List Addr),PTs (X.blk s H scope (compEnvC scope cl C X.env) fp) ifs (tC1 P.nox fc))
  (he : ∀ (s : Shared) (H : Hp) (C : Addr) (cl : List (Str × Addr)) (fp : List Addr),PE (X.blk s H scope (compEnvC scope cl C X.env) fp) elt (tD P.nox fe)) (hs : ∀ x,foldedSetIterable iter X.env x = pure x) (hsl : ∀ i ∈ tgt.slots,i ∈ own.map (·.2)) :
  PE X (.ListComp elt [⟨tg,iter,ifs,0⟩] scope pos) (tN P (compE tgt (own.map (·.2)) fi fc fe)):=
 peMono (pe_lc hc hN hi ok hg ht he hs) (comp_read hw hsl)
def spD (K : PySem.W.Frag) (T : Tn) (cl : Nat → Addr) (np : Nat) (Γ : List D → Tw → Res D) : Sp:=fun vs H Q E=>∃ F t ds,RelH K T F H F t H ∧ RpL K T F vs ds ∧ ds.length = np ∧ match Γ ds t with
 | .ok d t'=>∀ v F' H',RelH K T F H F' t' H' → Rp K T F' v d → Q v H'
 | .exc n t'=>∀ F' H',RelH K T F H F' t' H' → E (.ref (cl n)) none H'
 | .bad=>False
def EX (cl : Nat → Addr) (XE : Nat → Hp → Prop) : XK:=fun c d H=>∃ n,c = .ref (cl n) ∧ d = none ∧ XE n H
theorem sp_call {cl : Nat → Addr} {np : Nat} {Γ : List D → Tw → Res D} {F H : Hp} {r : Rho} {t : Tw} {σ : L2.St} {vs : List V} {ds : List D} {Q : VK} (R : RelP P F r t σ H) (rv : RpL P.K P.T F vs ds) (hl : ds.length = np)
  (h : Aft P F (Γ ds t) fun d t'=>∀ v F' H',Kp P.T F H F' H' → RelP P F' r t' σ H' → Rp P.K P.T F' v d → Q v H') : spD P.K P.T cl np Γ vs H Q (EX cl P.XE):=by
 refine ⟨F,t,ds,R.toRelH.refl,rv,hl,?_⟩
 cases e : Γ ds t with
 | ok d t'=>
  rw [e] at h
  exact fun v F' H' b rv=>h v F' H' (Kp.of b) (R.step b) rv
 | exc n t'=>
  rw [e] at h
  exact fun F' H' b=>⟨n,rfl,rfl,h F' H' b.base (R.toRelH.trans b)⟩
 | bad=>
  rw [e] at h
  exact h
variable {k np : Nat} {f : Addr} {fd : FuncData} {ps ks : List Str} {x : Str} {p pos : Pos} {e : Expr} {es : List Expr} {kws : List Keyword} {cl : Nat → Addr} {Γ : List D → Tw → Res D} {fs gs : Rho → Tw → Res (List D)} {dvs : List V} {ds : List Value} {dds : List D}
theorem s_call (F : FnOk X.prog X.w X.K X.mg X.base (CX X.prog X.w) k f fd ps (spD P.K P.T cl np Γ)) (hr : Room k X.A) (hg : Gl X x) (hm : X.mg x = some (.ref f)) (hk : PySem.W.keepIn X.K (.ref f) = true) (hb : Binds X.K fd ps ds) (hd : Vals dvs ds)
  (hdd : ∀ F,RpL P.K P.T F dvs dds) (tk : Takes X fun c d _ H=>EX cl P.XE c d H) (ha : PA X (e :: es) (tDs P fs)) (hnp : ∀ r t xs t1,fs r t = .ok xs t1 → xs.length + dds.length = np) (hdb : (x == ("__debug__" : Str)) = false)
  (he : starEach (e :: es) X.env = (false,eval e X.env) :: starEach es X.env) (hpl : (backTo pos (starEach es X.env)).any (·.1) = false) :
  PE X (.Call (.Name x p) (e :: es) [] pos) (tD P fun r t=>(fs r t).bind fun xs t1=>Γ (xs ++ dds) t1):=
 peMono (pe_call F hr hg hm hk hb hd (passes_call tk fun _ _ _ _ h=>h) ha hdb he hpl) fun σ H Q ⟨F,r,t,R,h⟩=>⟨F,r,t,R,by
  dsimp only at h
  cases ef : fs r t with
  | ok xs t1=>
   rw [ef] at h
   intro vs F1 H1 s1 R1 rv
   exact sp_call R1 (rv.append (hdd F1)) (by rw [List.length_append];exact hnp r t xs t1 ef) (((show Aft P F (Γ (xs ++ dds) t1) _ from h).up s1.1).mono fun d t' q v F' H' s R' rv=>q v F' H' (s1.trans s) R' rv)
  | exc n t1=>
   rw [ef] at h
   exact h
  | bad=>
   rw [ef] at h
   exact h⟩
theorem s_call0 (F : FnOk X.prog X.w X.K X.mg X.base (CX X.prog X.w) k f fd ps (spD P.K P.T cl np Γ)) (hr : Room k X.A) (hg : Gl X x) (hm : X.mg x = some (.ref f)) (hk : PySem.W.keepIn X.K (.ref f) = true) (hb : Binds X.K fd ps ds) (hd : Vals dvs ds)
  (hdd : ∀ F,RpL P.K P.T F dvs dds) (tk : Takes X fun c d _ H=>EX cl P.XE c d H) (hnp : dds.length = np) (hdb : (x == ("__debug__" : Str)) = false) :
  PE X (.Call (.Name x p) [] [] pos) (tD P fun r t=>Γ dds t):=
 peMono (pe_call0 F hr hg hm hk hb hd (passes_call tk fun _ _ _ _ h=>h) hdb) fun σ H Q ⟨F,r,t,R,h⟩=>sp_call R (by simpa using hdd F) hnp h
theorem pkMono {t u : TA} (h : PK X kws t) (i : ∀ σ H Q,u σ H Q → t σ H Q) : PK X kws u:=⟨fun pos pins s σ H Q I q=>h.run pos pins s σ H Q I (i σ H Q q)⟩
theorem k_nil : PK X [] (tDs P fun _ t=>.ok [] t):=pkMono pk_nil fun σ H Q ⟨F,r,t,R,q⟩=>q [] F H Kp.refl R .nil
theorem k_cons {fa : Rho → Tw → Res D} {nm : Option Str} {kpos : Pos} (ha : PE X e (tD P fa)) (hr : PK X kws (tDs P fs)) : PK X (⟨nm,e,kpos⟩ :: kws) (tDs P fun r t=>(fa r t).bind fun x t1=>(fs r t1).bind fun xs t2=>.ok (x :: xs) t2):=
 pkMono (pk_cons ha hr) fun σ H Q ⟨F,r,t,R,h⟩=>⟨F,r,t,R,h.bind.mono fun d t1 h v F1 H1 s1 R1 rv=>⟨F1,r,t1,R1,(h.up s1.1).bind.mono fun ds t2 q vs F2 H2 s2 R2 rvs=>
  q (v :: vs) F2 H2 (s1.trans s2) R2 (.cons (rv.mono s2.1) rvs)⟩⟩
theorem s_callK {n : Nat} {g : List Value → List Value → List Value} (F : FnOk X.prog X.w X.K X.mg X.base (CX X.prog X.w) k f fd ps (spD P.K P.T cl np Γ)) (hr : Room k X.A) (hg : Gl X x) (hm : X.mg x = some (.ref f)) (hk : PySem.W.keepIn X.K (.ref f) = true)
  (hb : KBn X.K fd ps n ks g (fun vs zs=>vs ++ zs ++ dvs)) (hdd : ∀ F,RpL P.K P.T F dvs dds) (tk : Takes X fun c d _ H=>EX cl P.XE c d H) (ha : PA X (e :: es) (tDs P fs)) (hkw : PK X kws (tDs P gs))
  (hn1 : ∀ r t xs t1,fs r t = .ok xs t1 → xs.length = n) (hn2 : ∀ r t xs t1,gs r t = .ok xs t1 → xs.length = ks.length) (hnp : n + ks.length + dds.length = np)
  (hall : (backToKw pos (keywordEach kws X.env)).all (·.1.isSome) = true) (hks : (backToKw pos (keywordEach kws X.env)).filterMap (·.1) = ks)
  (hdb : (x == ("__debug__" : Str)) = false) (he : starEach (e :: es) X.env = (false,eval e X.env) :: starEach es X.env)
  (hpl : ((backTo pos (starEach (e :: es) X.env)).any (·.1) || (backToKw pos (keywordEach kws X.env)).any (·.1.isNone)) = false) :
  PE X (.Call (.Name x p) (e :: es) kws pos) (tD P fun r t=>(fs r t).bind fun xs t1=>(gs r t1).bind fun ys t2=>Γ (xs ++ ys ++ dds) t2):=
 peMono (pe_callN F hr hg hm hk hb (passes_call tk fun _ _ _ _ h=>h) ha hkw hall hks hdb he hpl) fun σ H Q ⟨F,r,t,R,h⟩=>⟨F,r,t,R,by
  dsimp only at h
  cases ef : fs r t with
  | ok xs t1=>
   rw [ef] at h
   intro vs F1 H1 s1 R1 rv
   have h : Aft P F ((gs r t1).bind fun ys t2=>Γ (xs ++ ys ++ dds) t2) _:=h
   refine ⟨F1,r,t1,R1,?_⟩
   have h:=h.up s1.1
   cases eg : gs r t1 with
   | ok ys t2=>
    rw [eg] at h
    intro zs F2 H2 s2 R2 rz
    have l1:=hn1 r t xs t1 ef
    have l2:=hn2 r t1 ys t2 eg
    refine ⟨by rw [rv.length];exact l1,by rw [rz.length];exact l2,sp_call R2 (((rv.mono s2.1).append rz).append (hdd F2)) (by rw [List.length_append,List.length_append];omega) (((show Aft P F1 (Γ (xs ++ ys ++ dds) t2) _ from h).up s2.1).mono fun d t' q v F' H' s R' rv=>q v F' H' (s1.trans (s2.trans s)) R' rv)⟩
   | exc n t1=>
    rw [eg] at h
    exact h
   | bad=>
    rw [eg] at h
    exact h
  | exc n t1=>
   rw [ef] at h
   exact h
  | bad=>
   rw [ef] at h
   exact h⟩
end
end Fm
namespace Fm
open PySem PySem.Spec PyProof.Rows L2
def aftS (P : Pm) (F : Hp) (D : Ends) (p : Fl × Rho) (t' : Tw) : Prop:=match p.1 with
 | .nx=>∀ F' σ' H',Same F F' → RelP P F' p.2 t' σ' H' → D.nx σ' H'
 | .brk=>∀ F' σ' H',Same F F' → RelP P F' p.2 t' σ' H' → D.bk σ' H'
 | .cont=>∀ F' σ' H',Same F F' → RelP P F' p.2 t' σ' H' → D.ct σ' H'
 | .ret d=>∀ v F' H',Same F F' → RelH P.K P.T P.F0 P.H0 F' t' H' → Rp P.K P.T F' v d → D.rt v H'
def tS (P : Pm) (f : Rho → Tw → Res (Fl × Rho)) : TS:=fun D σ H=>∃ F r t,RelP P F r t σ H ∧ Aft P F (f r t) (aftS P F D)
section
variable {P : Pm} {X : Cx} {a b c : Expr} {pos p1 p2 : Pos} {fa fb fc : Rho → Tw → Res D} {st : Stmt} {rest : List Stmt} {f g : Rho → Tw → Res (Fl × Rho)}
theorem aftS.up {F F' : Hp} {D : Ends} {p : Fl × Rho} {t : Tw} (h : aftS P F D p t) (s : Same F F') : aftS P F' D p t:=by
 obtain ⟨fl,r⟩:=p
 cases fl with
 | nx=>exact fun F2 σ2 H2 s2=>h F2 σ2 H2 (s.trans s2)
 | brk=>exact fun F2 σ2 H2 s2=>h F2 σ2 H2 (s.trans s2)
 | cont=>exact fun F2 σ2 H2 s2=>h F2 σ2 H2 (s.trans s2)
 | ret d=>exact fun v F2 H2 s2=>h v F2 H2 (s.trans s2)
def nilE (r : Rho) (t : Tw) : Res (Fl × Rho):=.ok (.nx,r) t
def consE (f g : Rho → Tw → Res (Fl × Rho)) (r : Rho) (t : Tw) : Res (Fl × Rho):=(f r t).bind fun p t1=>match p with
  | (.nx,r1)=>g r1 t1
  | q=>.ok q t1
theorem ss_nil : PSs X [] (tS P nilE):=pssMono pss_nil fun D σ H ⟨F,r,t,R,h⟩=>h F σ H (Same.refl F) R
theorem seq_aft {F : Hp} {D : Ends} {r : Rho} {t : Tw} (h : Aft P F (consE f g r t) (aftS P F D)) : Aft P F (f r t) (aftS P F { D with nx:=tS P g D }):=by
 unfold consE at h
 refine h.bind.mono fun p t1 h=>?_
 obtain ⟨fl,r1⟩:=p
 cases fl with
 | nx=>exact fun F' σ' H' s R=>⟨F',r1,t1,R,((show Aft P F (g r1 t1) (aftS P F D) from h).up s).mono fun p t2 q=>q.up s⟩
 | brk=>exact h
 | cont=>exact h
 | ret d=>exact h
theorem ss_cons (h1 : PS X st (tS P f)) (h2 : PSs X rest (tS P g)) : PSs X (st :: rest) (tS P (consE f g)):=pssMono (pss_cons h1 h2) fun D σ H ⟨F,r,t,R,h⟩=>⟨F,r,t,R,seq_aft h⟩
theorem st_ret (ha : PE X a (tD P fa)) : PS X (.Return (some a) pos) (tS P fun r t=>(fa r t).bind fun x t1=>.ok (.ret x,r) t1):=
 psMono (ps_ret ha) fun D σ H ⟨F,r,t,R,h⟩=>⟨F,r,t,R,h.bind.mono fun d t' q v F' H' s R' rv=>q v F' H' s.1 R'.toRelH rv⟩
def iteS (fc : Rho → Tw → Res D) (f g : Rho → Tw → Res (Fl × Rho)) (r : Rho) (t : Tw) : Res (Fl × Rho):=(fc r t).bind fun x t1=>match truD x with
  | some true=>f r t1
  | some false=>g r t1
  | none=>.bad
theorem st_ite {as bs : List Stmt} (hc : PT X c (tT P fc)) (ha : PSs X as (tS P f)) (hb : PSs X bs (tS P g)) : PS X (.If c as bs pos) (tS P (iteS fc f g)):=
 psMono (ps_if hc ha hb) fun D σ H ⟨F,r,t,R,h⟩=>⟨F,r,t,R,h.bind.mono fun d t' h=>by
  cases e : truD d with
  | none=>
   rw [e] at h
   exact h.elim
  | some k=>
   rw [e] at h
   refine ⟨k,rfl,fun F' H' s R'=>?_⟩
   cases k with
   | true=>exact ⟨F',r,t',R',((show Aft P F (f r t') _ from h).up s.1).mono fun p t2 q=>q.up s.1⟩
   | false=>exact ⟨F',r,t',R',((show Aft P F (g r t') _ from h).up s.1).mono fun p t2 q=>q.up s.1⟩⟩
theorem st_set {i : Nat} {y : Str} {py : Pos} (h : PS X (.Assign [.Name y py] a pos) (tAsg (tD P fa) (gName i))) : PS X (.Assign [.Name y py] a pos) (tS P fun r t=>(fa r t).bind fun x t1=>Fm.lift ((setT (.name i) x r).map fun r1=>(.nx,r1)) t1):=
 psMono h fun D σ H ⟨F,r,t,R,h⟩=>⟨F,r,t,R,h.bind.mono fun d t' h v F' H' s R' rv=>by
  obtain ⟨p,e,q⟩:=h.lift
  obtain ⟨r1,e1,rfl⟩:=Option.map_eq_some_iff.mp e
  simp only [setT] at e1
  split at e1
  · cases e1
    exact q F' _ H' s.1 (R'.setVal rv)
  · cases e1⟩
theorem st_new {i : Nat} {y : Str} {py : Pos} (h : PS X (.Assign [.Name y py] a pos) (tAsg (tN P fa) (gName i))) : PS X (.Assign [.Name y py] a pos) (tS P fun r t=>(fa r t).bind fun x t1=>okSet r i (.own x) t1):=
 psMono h fun D σ H ⟨F,r,t,R,h⟩=>⟨F,r,t,R,h.bind.mono fun d t' h v F' H' p s R' hp fr=>by
  unfold okSet at h
  split at h
  · obtain ⟨rfl,o,no⟩:=fr
    exact h F' _ H' s.1 (R'.setOwn o fun j e h1 _=>no j e h1)
  · exact h.elim⟩
theorem asg_plain {i : Nat} {y : Str} {py : Pos} {te : TE} (hN : X.N.Nodup) (hi : X.N[i]? = some y) (hx : Loc X.env.scope y) (ha : PE X a te) (hs : swapsWith a (some (.Name y py)) pos.line X.env = pure false) (hf : X.fn y = true ∨ X.env.scope.names.lookup y = some .local) :
  PS X (.Assign [.Name y py] a pos) (tAsg te (gName i)):=ps_set hN hi hx ha hs hf
theorem st_asg {tg : Expr} {tt : Tg} (ha : PE X a (tD P fa)) (hg : PG X tg (gT P tt)) (hs : swapsWithSole [tg] a pos.line X.env = pure false) (hw : swappedStores [tg] a X.env = pure none)
  (h1 : (assignEach [tg] X.env).map (·.2) = [assign tg X.env]) : PS X (.Assign [tg] a pos) (tS P fun r t=>(fa r t).bind fun x t1=>Fm.lift ((setT tt x r).map fun r1=>(.nx,r1)) t1):=
 psMono (ps_asg ha hg hs hw h1) fun D σ H ⟨F,r,t,R,h⟩=>⟨F,r,t,R,h.bind.mono fun d t' h v F' H' s R' rv=>by
  obtain ⟨p,e,q⟩:=h.lift
  obtain ⟨r1,e1,rfl⟩:=Option.map_eq_some_iff.mp e
  exact ⟨F',r,t',d,r1,R',.inl rv,e1,fun σ' R2 _=>q F' σ' H' s.1 R2⟩⟩
def parE (is : List Nat) (fs : Rho → Tw → Res (List D)) (r : Rho) (t : Tw) : Res (Fl × Rho):=(fs r t).bind fun xs t1=>Fm.lift ((setAll is xs r).map fun r1=>(.nx,r1)) t1
theorem st_par2 {i j : Nat} {x y : Str} {fs : Rho → Tw → Res (List D)} {px py pt pt2 : Pos} {kt k2 : Nat} (hc : X.calm = true) (hN : X.N.Nodup) (hi : X.N[i]? = some x) (hj : X.N[j]? = some y) (hij : i ≠ j)
  (hx : X.env.scope.names.lookup x = some .local) (hy : X.env.scope.names.lookup y = some .local) (ha : PA X [a,b] (tDs P fs))
  (hw : swappedStores [.Tuple [.Name x px,.Name y py] kt pt] (.Tuple [a,b] k2 pt2) X.env = pure (some [x,y])) :
  PS X (.Assign [.Tuple [.Name x px,.Name y py] kt pt] (.Tuple [a,b] k2 pt2) pos) (tS P (parE [i,j] fs)):=
 psMono (ps_par hc hN hi hj hij hx hy ha hw) fun D σ H ⟨F,r,t,R,h⟩=>⟨F,r,t,R,h.bind.mono fun ds t' h vs F' H' s R' rv=>by
  obtain ⟨p,e,q⟩:=h.lift
  obtain ⟨r1,e1,rfl⟩:=Option.map_eq_some_iff.mp e
  cases rv with
  | nil=>simp [setAll] at e1
  | @cons v1 _ d1 _ h1 rv=>
   cases rv with
   | nil=>simp [setAll] at e1
   | @cons v2 _ d2 _ h2 rv=>
    cases rv with
    | nil=>
     simp only [setAll] at e1
     split at e1
     · split at e1
       · cases e1
         exact ⟨v1,v2,rfl,q F' _ H' s.1 ((R'.setVal h1).setVal h2)⟩
       · cases e1
     · cases e1
    | cons _ _=>
     simp only [setAll] at e1
     split at e1
     · split at e1
       · cases e1
       · cases e1
     · cases e1⟩
theorem st_par3 {i j l : Nat} {x y z : Str} {fs : Rho → Tw → Res (List D)} {px py pz pt pt2 : Pos} {kt k2 : Nat} (hc : X.calm = true) (hN : X.N.Nodup) (hi : X.N[i]? = some x) (hj : X.N[j]? = some y) (hl : X.N[l]? = some z) (hij : i ≠ j) (hil : i ≠ l) (hjl : j ≠ l)
  (hx : X.env.scope.names.lookup x = some .local) (hy : X.env.scope.names.lookup y = some .local) (hz : X.env.scope.names.lookup z = some .local) (ha : PA X [a,b,c] (tDs P fs))
  (hw : swappedStores [.Tuple [.Name x px,.Name y py,.Name z pz] kt pt] (.Tuple [a,b,c] k2 pt2) X.env = pure (some [x,y,z])) :
  PS X (.Assign [.Tuple [.Name x px,.Name y py,.Name z pz] kt pt] (.Tuple [a,b,c] k2 pt2) pos) (tS P (parE [i,j,l] fs)):=
 psMono (ps_par3 hc hN hi hj hl hij hil hjl hx hy hz ha hw) fun D σ H ⟨F,r,t,R,h⟩=>⟨F,r,t,R,h.bind.mono fun ds t' h vs F' H' s R' rv=>by
  obtain ⟨p,e,q⟩:=h.lift
  obtain ⟨r1,e1,rfl⟩:=Option.map_eq_some_iff.mp e
  cases rv with
  | nil=>simp [setAll] at e1
  | @cons v1 _ d1 _ h1 rv=>
   cases rv with
   | nil=>simp [setAll] at e1
   | @cons v2 _ d2 _ h2 rv=>
    cases rv with
    | nil=>simp [setAll] at e1
    | @cons v3 _ d3 _ h3 rv=>
     cases rv with
     | nil=>
      simp only [setAll] at e1
      split at e1
      · split at e1
        · split at e1
          · cases e1
            exact ⟨v1,v2,v3,rfl,q F' _ H' s.1 (((R'.setVal h1).setVal h2).setVal h3)⟩
          · cases e1
        · cases e1
      · cases e1
     | cons _ _=>simp [setAll] at e1⟩
theorem Rel.unOwn {K : PySem.W.Frag} {T : Tn} {F0 H0 F H : Hp} {r : Rho} {t : Tw} {σ : L2.St} {i : Nat} (R : Rel K T F0 H0 F r t σ H) : Rel K T F0 H0 F (r.set i .un) t σ H:=by
 have cs : ∀ {j : Nat} {s : Sl},(r.set i .un)[j]? = some s → s ≠ .un → i ≠ j ∧ r[j]? = some s:=fun {j s} q n=>by
  by_cases hj : i = j
  · subst hj
    by_cases hi : i < r.length
    · rw [List.getElem?_set_self hi] at q
      exact absurd (Option.some.inj q).symm n
    · rw [List.getElem?_eq_none (by simpa using hi)] at q
      cases q
  · rw [List.getElem?_set_ne hj] at q
    exact ⟨hj,q⟩
 exact ⟨R.toRelH,by simpa using R.len,fun j d h=>R.val j d (cs h (by intro z;cases z)).2,fun j d h=>R.own j d (cs h (by intro z;cases z)).2,fun j k d e p h1 h2 h3 h4=>R.inj j k d e p (cs h1 (by intro z;cases z)).2 (cs h2 (by intro z;cases z)).2 h3 h4⟩
theorem Rel.asVal {K : PySem.W.Frag} {T : Tn} {F0 H0 F H : Hp} {r : Rho} {t : Tw} {σ : L2.St} {i : Nat} {v : V} {d : D} (R : Rel K T F0 H0 F r t σ H) (e : σ[i]? = some (some v)) (h : Rp K T F v d) : Rel K T F0 H0 F (r.set i (.val d)) t σ H:=by
 have hs : σ.set i (some v) = σ:=by
  refine List.ext_getElem? fun j=>?_
  by_cases hj : i = j
  · subst hj
    rw [List.getElem?_set_self (List.getElem?_eq_some_iff.mp e).1,e]
  · rw [List.getElem?_set_ne hj]
 have:=R.setVal (i:=i) h
 rw [hs] at this
 exact this
theorem Rel.noOwn {K : PySem.W.Frag} {T : Tn} {F0 H0 F H : Hp} {r : Rho} {t : Tw} {σ : L2.St} {i : Nat} {d : D} {p : Addr} (R : Rel K T F0 H0 F r t σ H) (e : r[i]? = some (.own d)) (e1 : σ[i]? = some (some (.ref p))) :
  ∀ (j : Nat) (e' : D),(r.set i .un)[j]? = some (.own e') → σ[j]? ≠ some (some (.ref p)):=fun j e' h z=>by
 by_cases hj : i = j
 · subst hj
   rw [List.getElem?_set_self (List.getElem?_eq_some_iff.mp e).1] at h
   cases h
 · rw [List.getElem?_set_ne hj] at h
   exact hj (R.inj i j d e' p e h e1 z)
theorem set_set {r : Rho} {i : Nat} {a b : Sl} : (r.set i a).set i b = r.set i b:=List.set_set ..
def frzE (i : Nat) (r : Rho) (t : Tw) : Res (Fl × Rho):=match r[i]? with
  | some (.own d)=>.ok (.nx,r.set i (.val d)) t
  | some (.val _)=>.ok (.nx,r) t
  | _=>.bad
theorem ss_frz {i : Nat} (h2 : PSs X rest (tS P g)) : PSs X rest (tS P (consE (frzE i) g)):=by
 refine ⟨fun pins s σ H D I ⟨F,r,t,R,h⟩=>?_⟩
 unfold consE frzE at h
 cases e : r[i]? with
 | none=>
  rw [e] at h
  exact h.elim
 | some sl=>
  rw [e] at h
  cases sl with
  | un=>exact h.elim
  | val d=>exact h2.run pins s σ H D I ⟨F,r,t,R,h⟩
  | own d=>
   have h : Aft P F (g (r.set i (.val d)) t) (aftS P F D):=h
   obtain ⟨p,e1,o⟩:=R.own i d e
   have no:=R.noOwn e e1
   cases d with
   | lst ds=>
    obtain ⟨vs,h1,hz,h3⟩:=o.at_
    have s2 : Same F (L2.upd F p (.lst vs)):=same_new o.fr
    have R2:=(R.unOwn (i:=i)).freeze h1 (by intro _ z;cases z) o.fr o.h0 o.n1 o.n2 no
    have R3:=R2.asVal e1 (.lst upd_same hz (h3.mono s2))
    rw [set_set] at R3
    exact h2.run pins s σ H D I ⟨_,_,t,R3,(h.up s2).mono fun p t2 q=>q.up s2⟩
   | dct es=>
    obtain ⟨kvs,h1,hz,h3⟩:=o.at_
    obtain ⟨od,I2⟩:=I.lock h1 trivial
    have s2 : Same F (L2.upd F p (.frz od (.dK kvs))):=same_new o.fr
    have R2:=(R.unOwn (i:=i)).lockF (od:=od) (u:=.dK kvs) (tabs_dK R.tabs h1) o.fr o.h0 o.n1 o.n2 no
    have R3:=R2.asVal e1 (.dct upd_same hz (h3.mono s2))
    rw [set_set] at R3
    exact h2.run pins s σ _ D I2 ⟨_,_,t,R3,(h.up s2).mono fun p t2 q=>q.up s2⟩
   | dcn es=>
    obtain ⟨xs,h1,hy,hz,h3⟩:=o.at_
    obtain ⟨od,I2⟩:=I.lock h1 trivial
    have s2 : Same F (L2.upd F p (.frz od (DN P.T.pg P.T.wo p xs))):=same_new o.fr
    have R2:=(R.unOwn (i:=i)).lockF (od:=od) (u:=DN P.T.pg P.T.wo p xs) (tabs_dn R.tabs h1 hy.2) o.fr o.h0 o.n1 o.n2 no
    have R3:=R2.asVal e1 (.dcn upd_same hy hz (h3.mono s2))
    rw [set_set] at R3
    exact h2.run pins s σ _ D I2 ⟨_,_,t,R3,(h.up s2).mono fun p t2 q=>q.up s2⟩
   | _=>exact o.at_.elim
theorem Rel.updOwn {F H : Hp} {r : Rho} {t : Tw} {σ : L2.St} {i : Nat} {d d' : D} {p : Addr} {o : HO} (R : RelP P F r t σ H) (e : r[i]? = some (.own d)) (e1 : σ[i]? = some (some (.ref p))) (h : OwnAt P.K P.T F (L2.upd H p o) p d') :
  RelP P F (r.set i (.own d')) t σ (L2.upd H p o):=by
 obtain ⟨p',e2,w⟩:=R.own i d e
 rw [e1] at e2
 cases e2
 have hi : i < r.length:=(List.getElem?_eq_some_iff.mp e).1
 obtain ⟨ob,ho,_⟩:=w.at_.obj
 have hNT : NT o:=by
  obtain ⟨o2,z,n⟩:=h.obj
  rw [upd_same] at z
  cases z
  exact n
 have cs : ∀ {j : Nat} {s : Sl},(r.set i (.own d'))[j]? = some s → (i = j ∧ s = .own d') ∨ (i ≠ j ∧ r[j]? = some s):=fun {j s} q=>by
  by_cases hj : i = j
  · subst hj
    rw [List.getElem?_set_self hi] at q
    exact .inl ⟨rfl,(Option.some.inj q).symm⟩
  · rw [List.getElem?_set_ne hj] at q
    exact .inr ⟨hj,q⟩
 have nF : ∀ b u,F b = some u → b ≠ p:=fun b u h e=>by
  rw [e,w.fr] at h
  cases h
 refine ⟨⟨fun b u h=>?_,R.new,R.base,fun b u h m1 m2 m3=>?_,fun b h=>R.had b (h.upd hNT).1,⟨?_,?_,R.tw.ne,R.tw.small⟩,R.tF1,R.tF2,R.sc,?_,R.nt⟩,by simpa using R.len,fun j e2 h2=>?_,fun j e2 h2=>?_,fun j k e2 e3 q h1 h2 h3 h4=>?_⟩
 · rw [upd_ne (nF b u h)]
   exact R.sub b u h
 · have : b ≠ p:=fun e=>w.h0.no (by rw [← e];exact h) m3
   rw [upd_ne this]
   exact R.old b u h m1 m2 m3
 · rw [upd_ne (Ne.symm w.n1)]
   exact R.tw.a
 · rw [upd_ne (Ne.symm w.n2)]
   exact R.tw.b
 · have w2:=w.at_
   cases d with
   | lst ds=>
    obtain ⟨vs,h1,_⟩:=w2
    exact tabs_lst R.tabs h1
   | dct ds=>
    obtain ⟨vs,h1,_⟩:=w2
    exact tabs_dK R.tabs h1
   | dcn ds=>
    obtain ⟨vs,h1,hy,_⟩:=w2
    exact tabs_dn R.tabs h1 hy.2
   | _=>exact w2.elim
 · rcases cs h2 with ⟨rfl,z⟩ | ⟨hj,z⟩
   · cases z
   · exact R.val j e2 z
 · rcases cs h2 with ⟨rfl,z⟩ | ⟨hj,z⟩
   · cases z
     exact ⟨p,e1,⟨w.fr,w.n1,w.n2,w.h0,h⟩⟩
   · obtain ⟨q,e4,w2⟩:=R.own j e2 z
     have nq : q ≠ p:=fun z2=>by
      subst z2
      exact hj (R.inj i j d e2 q e z e1 e4)
     exact ⟨q,e4,⟨w2.fr,w2.n1,w2.n2,w2.h0,w2.at_.keep (Same.refl F) fun o h=>by rw [upd_ne nq];exact h⟩⟩
 · have own : ∀ {j : Nat} {e2 : D},(r.set i (.own d'))[j]? = some (.own e2) → ∃ e3,r[j]? = some (.own e3):=fun {j e2} q=>by
    rcases cs q with ⟨rfl,z⟩ | ⟨_,z⟩
    · exact ⟨d,e⟩
    · exact ⟨e2,z⟩
   obtain ⟨e4,z1⟩:=own h1
   obtain ⟨e5,z2⟩:=own h2
   exact R.inj j k e4 e5 q z1 z2 h3 h4
theorem pe_slot {i : Nat} {x : Str} (hN : X.N[i]? = some x) (hv : Vis X.env.scope x) (hd : (x == ("__debug__" : Str)) = false) (hcd : (x == ("__classdict__" : Str)) = false) : PE X (.Name x pos) (tVar i):=pe_var hN hv hd hcd
def appE (i : Nat) (fa : Rho → Tw → Res D) (r : Rho) (t : Tw) : Res (Fl × Rho):=match r[i]? with
  | some (.own (.lst xs))=>(fa r t).bind fun x t1=>if decide (xs.length < 16777216) then .ok (.nx,r.set i (.own (.lst (xs ++ [x])))) t1 else .bad
  | _=>.bad
theorem own_lst {F H : Hp} {r : Rho} {t : Tw} {σ : L2.St} {i : Nat} {xs : List D} (R : RelP P F r t σ H) (e : r[i]? = some (.own (.lst xs))) : ∃ p vs,σ[i]? = some (some (.ref p)) ∧ H p = some (.lst vs) ∧ vs.length ≤ sizeLine ∧ RpL P.K P.T F vs xs:=by
 obtain ⟨p,e1,w⟩:=R.own i _ e
 obtain ⟨vs,h1,h2,h3⟩:=w.at_
 exact ⟨p,vs,e1,h1,h2,h3⟩
theorem own_dct {F H : Hp} {r : Rho} {t : Tw} {σ : L2.St} {i : Nat} {xs : List (Key × D)} (R : RelP P F r t σ H) (e : r[i]? = some (.own (.dct xs))) : ∃ p vs,σ[i]? = some (some (.ref p)) ∧ H p = some (.dK vs) ∧ vs.length ≤ sizeLine ∧ RpK P.K P.T F vs xs:=by
 obtain ⟨p,e1,w⟩:=R.own i _ e
 obtain ⟨vs,h1,h2,h3⟩:=w.at_
 exact ⟨p,vs,e1,h1,h2,h3⟩
theorem own_dcn {F H : Hp} {r : Rho} {t : Tw} {σ : L2.St} {i : Nat} {xs : List (NestedKey × D)} (R : RelP P F r t σ H) (e : r[i]? = some (.own (.dcn xs))) : ∃ p vs,σ[i]? = some (some (.ref p)) ∧ H p = some (DN P.T.pg P.T.wo p vs) ∧ ((p == sysModules) = false ∧ (vs.map (·.1)).Nodup) ∧ vs.length ≤ sizeLine ∧ RpN P.K P.T F vs xs:=by
 obtain ⟨p,e1,w⟩:=R.own i _ e
 obtain ⟨vs,h1,h2,h3,h4⟩:=w.at_
 exact ⟨p,vs,e1,h1,h2,h3,h4⟩
theorem appE_ok {i : Nat} {F : Hp} {r : Rho} {t : Tw} {Z : Fl × Rho → Tw → Prop} (h : Aft P F (appE i fa r t) Z) : ∃ xs,r[i]? = some (.own (.lst xs)) ∧ Aft P F ((fa r t).bind fun x t1=>if decide (xs.length < 16777216) then .ok (.nx,r.set i (.own (.lst (xs ++ [x])))) t1 else .bad) Z:=by
 unfold appE at h
 split at h
 · rename_i xs e
   exact ⟨xs,e,h⟩
 · exact h.elim
theorem st_app {i : Nat} {y : Str} (hK : X.K = P.K) (hN : X.N[i]? = some y) (hv : Vis X.env.scope y) (hd : (y == ("__debug__" : Str)) = false) (hcd : (y == ("__classdict__" : Str)) = false) (ha : PE X a (tD P fa)) (hline : (p1.endLine == p2.line) = true)
  (hs : starEach [a] X.env = (false,eval a X.env) :: starEach [] X.env) {q : Pos} : PS X (.Expr (.Call (.Attribute (.Name y q) "append" p1) [a] [] p2) pos) (tS P (appE i fa)):=by
 have hfew : ((backTo p2 (starEach [a] X.env)).all (fun x=>!x.1) && (backToKw p2 (keywordEach [] X.env)).all (fun x=>x.1.isSome)
   && decide (([a] : List Expr).length + ([] : List Keyword).length + (if ([] : List Keyword).isEmpty then 0 else 1) < 30)) = true:=by
  rw [hs]
  rfl
 refine psMono (ps_expr (pe_bm PySem.F.plainAttrs_list PySem.F.slot_list_append PySem.F.type_list_append mt_append (pe_slot hN hv hd hcd) (pa_cons ha pa_nil hs) rfl hfew hline hs rfl) rfl) fun D σ H ⟨F,r,t,R,h⟩=>?_
 obtain ⟨xs,e,h⟩:=appE_ok h
 obtain ⟨p,vs,e1,h1,h2,h3⟩:=own_lst R e
 refine ⟨_,e1,.inl ⟨rfl,vs,SqL.of h1⟩,F,r,t,R,h.bind.mono fun d t' h v F' H' s R' rv=>?_⟩
 split at h
 · rename_i hl
   have hl:=of_decide_eq_true hl
   obtain ⟨p',vs',e1',h1',h2',h3'⟩:=own_lst R' e
   rw [e1] at e1'
   cases e1'
   have hz : vs'.length < sizeLine:=by
    rw [h3'.length,sizeLine_eq]
    exact hl
   refine ⟨p,vs',v,rfl,rfl,h1',hz,h F' σ _ s.1 (Rel.updOwn R' e e1 ⟨_,upd_same,?_,h3'.append (.cons rv .nil)⟩)⟩
   rw [List.length_append,List.length_singleton]
   omega
 · exact h.elim
def putE (i : Nat) (fk fa : Rho → Tw → Res D) (r : Rho) (t : Tw) : Res (Fl × Rho):=match r[i]? with
  | some (.own (.dct kvs))=>(fa r t).bind fun x t1=>(fk r t1).bind fun y t2=>(match keyD y with
   | some k=>if decide (kvs.length < 16777216) then .ok (.nx,r.set i (.own (.dct (putD kvs k x)))) t2 else .bad
   | none=>.bad)
  | some (.own (.dcn kvs))=>(fa r t).bind fun x t1=>(fk r t1).bind fun y t2=>(match keyT y with
   | some k=>if decide (kvs.length < 16777216) then .ok (.nx,r.set i (.own (.dcn (putN kvs k x)))) t2 else .bad
   | none=>.bad)
  | _=>.bad
theorem putE_ok {i : Nat} {fk : Rho → Tw → Res D} {F : Hp} {r : Rho} {t : Tw} {Z : Fl × Rho → Tw → Prop} (h : Aft P F (putE i fk fa r t) Z) : (∃ kvs,r[i]? = some (.own (.dct kvs)) ∧ Aft P F ((fa r t).bind fun x t1=>(fk r t1).bind fun y t2=>(match keyD y with
   | some k=>if decide (kvs.length < 16777216) then .ok (.nx,r.set i (.own (.dct (putD kvs k x)))) t2 else .bad
   | none=>.bad)) Z) ∨ ∃ kvs,r[i]? = some (.own (.dcn kvs)) ∧ Aft P F ((fa r t).bind fun x t1=>(fk r t1).bind fun y t2=>(match keyT y with
   | some k=>if decide (kvs.length < 16777216) then .ok (.nx,r.set i (.own (.dcn (putN kvs k x)))) t2 else .bad
   | none=>.bad)) Z:=by
 unfold putE at h
 split at h
 · rename_i xs e
   exact .inl ⟨xs,e,h⟩
 · rename_i xs e
   exact .inr ⟨xs,e,h⟩
 · exact h.elim
theorem st_put {i : Nat} {y : Str} {q : Pos} (hK : X.K = P.K) (hpw : P.T.pg = X.prog ∧ P.T.wo = X.w) (hu : X.A.units + 200 < cLine) (hN : X.N[i]? = some y) (hv : Vis X.env.scope y) (hd : (y == ("__debug__" : Str)) = false) (hcd : (y == ("__classdict__" : Str)) = false) (hb : PE X b (tB P fb)) (ha : PE X a (tD P fa))
  (hs : swapsWith a (some (.Subscript (.Name y q) b p1)) pos.line X.env = pure false) : PS X (.Assign [.Subscript (.Name y q) b p1] a pos) (tS P (putE i fb fa)):=by
 refine psMono (ps_xput hu (pe_slot hN hv hd hcd) hb ha hs) fun D σ H ⟨F,r,t,R,h⟩=>?_
 rcases putE_ok h with ⟨xs,e,h⟩ | ⟨xs,e,h⟩
 · obtain ⟨p,vs,e1,h1,h2,h3⟩:=own_dct R e
   refine ⟨F,r,t,R,h.bind.mono fun d t1 h v F1 H1 s1 R1 rv=>⟨_,e1,F1,r,t1,R1,(h.up s1.1).bind.mono fun dk t2 h w F2 H2 s2 R2 rw'=>?_⟩⟩
   cases ek : keyD dk with
   | none=>
    rw [ek] at h
    exact h.elim
   | some k=>
    rw [ek] at h
    obtain rfl:=key_of' R2 rw' ek
    have h : Aft P F1 (if decide (xs.length < 16777216) then .ok (.nx,r.set i (.own (.dct (putD xs k d)))) t2 else .bad) (aftS P F D):=h
    split at h
    · rename_i hl
      have hl:=of_decide_eq_true hl
      obtain ⟨p',vs',e1',h1',h2',h3'⟩:=own_dct R2 e
      rw [e1] at e1'
      cases e1'
      have hz : vs'.length < sizeLine:=by
       rw [h3'.length,sizeLine_eq]
       exact hl
      refine ⟨p,rfl,.inl ⟨_,DPut.k h1' hz,h F2 σ _ (s1.1.trans s2.1) (Rel.updOwn R2 e e1 ⟨_,upd_same,?_,h3'.put k (rv.mono s2.1)⟩)⟩⟩
      have:=length_putK vs' k v
      omega
    · exact h.elim
 · obtain ⟨p,vs,e1,h1,h2,h3,h4⟩:=own_dcn R e
   refine ⟨F,r,t,R,h.bind.mono fun d t1 h v F1 H1 s1 R1 rv=>⟨_,e1,F1,r,t1,R1,(h.up s1.1).bind.mono fun dk t2 h w F2 H2 s2 R2 rw'=>?_⟩⟩
   cases ek : keyT dk with
   | none=>
    rw [ek] at h
    exact h.elim
   | some k=>
    rw [ek] at h
    obtain ⟨b',rfl,nk,hb'⟩:=nk_of hK R2 rw' ek
    have h : Aft P F1 (if decide (xs.length < 16777216) then .ok (.nx,r.set i (.own (.dcn (putN xs k d)))) t2 else .bad) (aftS P F D):=h
    split at h
    · rename_i hl
      have hl:=of_decide_eq_true hl
      obtain ⟨p',vs',e1',h1',h2',h3',h4'⟩:=own_dcn R2 e
      rw [e1] at e1'
      cases e1'
      have hz : vs'.length < sizeLine:=by
       rw [h4'.length,sizeLine_eq]
       exact hl
      refine ⟨p,rfl,.inr ⟨vs',k,b',by rw [← hpw.1,← hpw.2];exact h1',do_of hK R2.sub hpw (.inl h1') h2'.1 h4',rfl,nk,by omega,fun u ru=>?_⟩⟩
      rw [← hpw.1,← hpw.2]
      refine h F2 σ _ (s1.1.trans s2.1) (Rel.updOwn R2 e e1 ⟨_,upd_same,⟨h2'.1,storedH_nodup _ _ _ _ h2'.2⟩,?_,h4'.put hb' (keyT_kd ek).2 ru (rv.mono s2.1)⟩)
      have:=storedH_len vs' k b' u
      omega
    · exact h.elim
def putLE (i : Nat) (fk fa : Rho → Tw → Res D) (r : Rho) (t : Tw) : Res (Fl × Rho):=match r[i]? with
  | some (.own (.lst xs))=>(fa r t).bind fun x t1=>(fk r t1).bind fun y t2=>(match y with
   | .int j=>(match L2.ixN xs.length j with
    | some n=>.ok (.nx,r.set i (.own (.lst (xs.set n x)))) t2
    | none=>.bad)
   | _=>.bad)
  | _=>.bad
theorem putLE_ok {i : Nat} {fk : Rho → Tw → Res D} {F : Hp} {r : Rho} {t : Tw} {Z : Fl × Rho → Tw → Prop} (h : Aft P F (putLE i fk fa r t) Z) : ∃ xs,r[i]? = some (.own (.lst xs)) ∧ Aft P F ((fa r t).bind fun x t1=>(fk r t1).bind fun y t2=>(match y with
   | .int j=>(match L2.ixN xs.length j with
    | some n=>.ok (.nx,r.set i (.own (.lst (xs.set n x)))) t2
    | none=>.bad)
   | _=>.bad)) Z:=by
 unfold putLE at h
 split at h
 · rename_i xs e
   exact ⟨xs,e,h⟩
 · exact h.elim
theorem st_putL {i : Nat} {y : Str} {q : Pos} (hN : X.N[i]? = some y) (hv : Vis X.env.scope y) (hd : (y == ("__debug__" : Str)) = false) (hcd : (y == ("__classdict__" : Str)) = false) (hb : PE X b (tB P fb)) (ha : PE X a (tD P fa))
  (hasg : ∀ v,assign (.Subscript (.Name y q) b p1) X.env v = (do
   let ov ← holding [v] (eval (.Name y q) X.env)
   let iv ← holding [v,ov] (eval b X.env)
   standAt p1
   holding [v,ov,iv] (setItem ov iv v)
   release [v,ov,iv] []))
  (hs : swapsWithSole [.Subscript (.Name y q) b p1] a pos.line X.env = pure false) (hw : swappedStores [.Subscript (.Name y q) b p1] a X.env = pure none) : PS X (.Assign [.Subscript (.Name y q) b p1] a pos) (tS P (putLE i fb fa)):=by
 refine psMono (ps_asg ha (pg_sub (pe_slot hN hv hd hcd) hb set_list hasg) hs hw rfl) fun D σ H ⟨F,r,t,R,h⟩=>?_
 obtain ⟨xs,e,h⟩:=putLE_ok h
 obtain ⟨p,vs,e1,h1,h2,h3⟩:=own_lst R e
 refine ⟨F,r,t,R,h.bind.mono fun d t1 h v F1 H1 s1 R1 rv=>⟨_,e1,F1,r,t1,R1,(h.up s1.1).bind.mono fun dk t2 h w F2 H2 s2 R2 rw'=>?_⟩⟩
 cases dk with
 | int j=>
  obtain rfl:=rw'.int R2
  obtain ⟨p',vs',e1',h1',h2',h3'⟩:=own_lst R2 e
  rw [e1] at e1'
  cases e1'
  have h : Aft P F1 (match L2.ixN xs.length j with
    | some n=>.ok (.nx,r.set i (.own (.lst (xs.set n d)))) t2
    | none=>.bad) (aftS P F D):=h
  cases en : L2.ixN xs.length j with
  | none=>
   rw [en] at h
   exact h.elim
  | some n=>
   rw [en] at h
   refine ⟨p,vs',j,n,rfl,rfl,h1',by rw [h3'.length];exact en,?_⟩
   exact h F2 σ _ (s1.1.trans s2.1) (Rel.updOwn R2 e e1 ⟨_,upd_same,by rw [List.length_set];exact h2',h3'.set (rv.mono s2.1) n⟩)
 | _=>exact (show False from h).elim
def augE (i : Nat) (op : Operator) (fa : Rho → Tw → Res D) (r : Rho) (t : Tw) : Res (Fl × Rho):=match r[i]? with
  | some (.val x)=>(fa r t).bind fun y t1=>match x,y with
   | .int _,.int _=>Fm.lift ((binD op x y).map fun z=>(.nx,r.set i (.val z))) t1
   | _,_=>.bad
  | _=>.bad
theorem augE_ok {i : Nat} {op : Operator} {F : Hp} {r : Rho} {t : Tw} {Z : Fl × Rho → Tw → Prop} (h : Aft P F (augE i op fa r t) Z) : ∃ x,r[i]? = some (.val x) ∧ Aft P F ((fa r t).bind fun y t1=>match x,y with
   | .int _,.int _=>Fm.lift ((binD op x y).map fun z=>(.nx,r.set i (.val z))) t1
   | _,_=>.bad) Z:=by
 unfold augE at h
 split at h
 · rename_i xs e
   exact ⟨xs,e,h⟩
 · exact h.elim
def IpS (X : Cx) (op : Operator) : Prop:=∃ (C : Int → Int → Prop) (g : Int → Int → Int),OpR X (inplaceOp op) (rI C fun i j=>.int (g i j)) ∧ ∀ i j d,binD op (.int i) (.int j) = some d → C i j ∧ d = .int (g i j)
theorem ip_of (py : PyR X) {op : Operator} (h : op = .Add ∨ op = .Sub ∨ op = .Mult ∨ op = .FloorDiv ∨ op = .Mod) : IpS X op:=by
 rcases h with rfl | rfl | rfl | rfl | rfl
 · exact ⟨fun _ _=>True,fun i j=>i + j,opI fun _ _ _ _ _ _ _ _ q=>iadd_int q,fun i j d e=>by cases e;exact ⟨trivial,rfl⟩⟩
 · exact ⟨fun _ _=>True,fun i j=>i - j,opI fun _ _ _ _ _ _ _ _ q=>isub_int q,fun i j d e=>by cases e;exact ⟨trivial,rfl⟩⟩
 · refine ⟨CMulX,fun i j=>i * j,opI fun _ _ _ _ _ _ _ hc q=>imul_int q hc.ok,fun i j d e=>?_⟩
   simp only [binD,mulD] at e
   split at e
   · rename_i h
     cases e
     exact ⟨mul_few (of_decide_eq_true h),rfl⟩
   · cases e
 · refine ⟨CDivA,fun i j=>i.fdiv j,opInt fun _ _ _ _ _ _ _ _ _ _ I c q=>ifloordiv_int c q (.inr (py _ _ _ _ I)),fun i j d e=>?_⟩
   simp only [binD,fdivD] at e
   split at e
   · rename_i h
     cases e
     exact ⟨(of_decide_eq_true h : j ≠ 0),rfl⟩
   · cases e
 · refine ⟨fun _ j=>j ≠ 0,fun i j=>i.fmod j,opI fun i j _ _ _ _ _ hc q=>imod_int hc q,fun i j d e=>?_⟩
   simp only [binD,modD] at e
   split at e
   · cases e
   · rename_i h
     cases e
     exact ⟨h,rfl⟩
theorem st_aug {i : Nat} {y : Str} {q : Pos} {op : Operator} (hop : IpS X op) (hN : X.N.Nodup) (hi : X.N[i]? = some y) (hx : Loc X.env.scope y) (hf : X.fn y = true ∨ X.env.scope.names.lookup y = some .local) (ha : PE X a (tB P fa)) :
  PS X (.AugAssign (.Name y q) op a pos) (tS P (augE i op fa)):=by
 obtain ⟨C,g,ho,hg⟩:=hop
 refine psMono (ps_aug hN hi hx ha ho hf) fun D σ H ⟨F,r,t,R,h⟩=>?_
 obtain ⟨x,e,h⟩:=augE_ok h
 obtain ⟨v,e1,rv⟩:=R.val i x e
 refine ⟨v,e1,F,r,t,R,h.bind.mono fun d t' h w F' H' s R' rw'=>?_⟩
 cases x with
 | int m=>
  cases d with
  | int n=>
   obtain ⟨p,e2,q⟩:=Aft.lift h
   obtain ⟨z,e3,rfl⟩:=Option.map_eq_some_iff.mp e2
   obtain ⟨c,rfl⟩:=hg m n z e3
   cases rv
   exact ⟨m,n,rfl,rw'.int R',c,q F' _ H' s.1 (R'.setVal (.int _))⟩
  | _=>exact (show False from h).elim
 | _=>exact (show False from h).elim
end
end Fm
namespace Fm
open PySem PySem.Spec PyProof.Rows L2
section
variable {P : Pm} {X : Cx} {a b c : Expr} {pos p1 p2 : Pos} {fa fb fc : Rho → Tw → Res D} {st : Stmt} {rest : List Stmt} {f g : Rho → Tw → Res (Fl × Rho)}
def forE (tg : Tg) (fi : Rho → Tw → Res (List D)) (f : Rho → Tw → Res (Fl × Rho)) (r : Rho) (t : Tw) : Res (Fl × Rho):=(fi r t).bind fun xs t1=>loopF (fun d r t=>match setT tg d r with
  | some r1=>f r1 t
  | none=>.bad) xs r t1
theorem for_turn {tg : Tg} {d : D} {ds : List D} {F : Hp} {r : Rho} {t : Tw} {D' : Ends} (h : Aft P F (loopF (fun d r t=>match setT tg d r with
  | some r1=>f r1 t
  | none=>.bad) (d :: ds) r t) (aftS P F D')) : ∃ r1,setT tg d r = some r1 ∧ Aft P F (f r1 t) fun p t1=>match p with
   | (.nx,r2)=>Aft P F (loopF (fun d r t=>match setT tg d r with
    | some r1=>f r1 t
    | none=>.bad) ds r2 t1) (aftS P F D')
   | (.cont,r2)=>Aft P F (loopF (fun d r t=>match setT tg d r with
    | some r1=>f r1 t
    | none=>.bad) ds r2 t1) (aftS P F D')
   | (.brk,r2)=>aftS P F D' (.nx,r2) t1
   | (.ret d,r2)=>aftS P F D' (.ret d,r2) t1:=by
 simp only [loopF] at h
 cases e : setT tg d r with
 | none=>
  rw [e] at h
  exact h.elim
 | some r1=>
  rw [e] at h
  refine ⟨r1,rfl,h.bind.mono fun p t1 h=>?_⟩
  obtain ⟨fl,r2⟩:=p
  cases fl with
  | nx=>exact h
  | cont=>exact h
  | brk=>exact h
  | ret d=>exact h
theorem st_for {tg iter : Expr} {tt : Tg} {body : List Stmt} {fi : Rho → Tw → Res (List D)} (hp : PassesOwn (model X.prog X.w) X.A X.env X.xe) (hc : X.calm = true) {w0 : Bool} (hw : w0 = true → tt.isT = true) (hi : PI X tg iter (tI P true w0 fi)) (hg : PG X tg (gT P tt)) (hb : PSs X body (tS P f))
  (hs : ∀ x,foldedSetIterable iter X.env x = pure x) : PS X (.For tg iter body [] pos) (tS P (forE tt fi f)):=by
 refine psMono (ps_for hp hc hi hg hb hs) fun D σ H ⟨F,r,t,R,h⟩=>⟨F,r,t,R,h.bind.mono fun ds t1 h J F1 H1 s1 R1 w=>?_⟩
 have w : WD P w0 J (Same F1) F1 ds:=w
 refine ⟨fun i m σ H=>m = ds.length - i ∧ i ≤ ds.length ∧ ∃ F2 r2 t2,Same F1 F2 ∧ RelP P F2 r2 t2 σ H ∧ Aft P F2 (loopF (fun d r t=>match setT tt d r with
  | some r1=>f r1 t
  | none=>.bad) (ds.drop i) r2 t2) (aftS P F2 D),⟨ds.length,by simp,Nat.zero_le _,F1,r,t1,Same.refl F1,R1,(h.up s1.1).mono fun p t2 q=>q.up s1.1⟩,fun i m σ2 H2 hW=>?_⟩
 obtain ⟨rfl,hi,F2,r2,t2,s2,R2,h⟩:=hW
 have hG : Same F1 H2:=s2.trans R2.sub
 by_cases hlt : i < ds.length
 · refine .inr ⟨w.goes i H2 hlt hG,fun σ' H'=>∃ F2 r2 t2,Same F1 F2 ∧ RelP P F2 r2 t2 σ' H' ∧ Aft P F2 (loopF (fun d r t=>match setT tt d r with
    | some r1=>f r1 t
    | none=>.bad) (ds.drop (i + 1)) r2 t2) (aftS P F2 D),fun σ' H' hn=>⟨_,by omega,rfl,hlt,hn⟩,fun x H' hy=>?_⟩
   have hdi : ds[i]? = some ds[i]:=List.getElem?_eq_getElem hlt
   rw [List.drop_eq_getElem_cons hlt] at h
   obtain ⟨r3,e3,h⟩:=for_turn h
   obtain ⟨F3,k3,_,R3,rx⟩:=w.draw hw hdi hG hy s2 R2
   have s3:=k3.base
   refine ⟨F3,r2,t2,ds[i],r3,R3,rx,e3,fun σ4 R4 _=>⟨F3,r3,t2,R4,(h.up s3).mono fun p t4 h=>?_⟩⟩
   obtain ⟨fl,r4⟩:=p
   cases fl with
   | nx=>exact fun F5 σ5 H5 s5 R5=>⟨F5,r4,t4,(s2.trans s3).trans s5,R5,((show Aft P F2 _ (aftS P F2 D) from h).up (s3.trans s5)).mono fun p t q=>q.up (s3.trans s5)⟩
   | cont=>exact fun F5 σ5 H5 s5 R5=>⟨F5,r4,t4,(s2.trans s3).trans s5,R5,((show Aft P F2 _ (aftS P F2 D) from h).up (s3.trans s5)).mono fun p t q=>q.up (s3.trans s5)⟩
   | brk=>exact fun F5 σ5 H5 s5 R5=>h F5 σ5 H5 (s3.trans s5) R5
   | ret d=>exact fun v F5 H5 s5 R5 rv=>h v F5 H5 (s3.trans s5) R5 rv
 · have ei : i = ds.length:=by omega
   subst ei
   refine .inl ⟨w.stops H2 hG,?_⟩
   rw [List.drop_length] at h
   exact h F2 σ2 H2 (Same.refl F2) R2
theorem st_while {body : List Stmt} (hp : PassesOwn (model X.prog X.w) X.A X.env X.xe) (hc : PT X c (tT P fc)) (hb : PSs X body (tS P f)) : PS X (.While c body [] pos) (tS P (loopW fc f)):=by
 refine psMono (ps_while hp hc hb) fun D σ H ⟨F,r,t,R,h⟩=>?_
 obtain ⟨n,hn⟩:=loopW_not (c:=fc) (f:=f) (r:=r) (t:=t) fun e=>by
  rw [e] at h
  exact h
 refine ⟨fun m σ H=>∃ F2 r2 t2 v,RelP P F2 r2 t2 σ H ∧ loopN fc f m r2 t2 = some v ∧ Aft P F2 v (aftS P F2 D),⟨n,F,r,t,_,R,hn,h⟩,fun m σ2 H2 hW=>?_⟩
 obtain ⟨F2,r2,t2,v,R2,hm,h⟩:=hW
 cases m with
 | zero=>simp [loopN] at hm
 | succ m=>
  simp only [loopN] at hm
  refine ⟨F2,r2,t2,R2,?_⟩
  cases ec : fc r2 t2 with
  | exc k t3=>
   rw [ec] at hm
   cases hm
   exact h
  | bad=>
   rw [ec] at hm
   cases hm
   exact h
  | ok x t3=>
   rw [ec] at hm
   dsimp only at hm
   cases ex : truD x with
   | none=>
    rw [ex] at hm
    cases hm
    exact h.elim
   | some k=>
    rw [ex] at hm
    refine ⟨k,ex,fun F3 H3 s3 R3=>?_⟩
    cases k with
    | false=>
     cases hm
     rw [if_neg (by decide)]
     exact h F3 σ2 H3 s3.1 R3
    | true=>
     rw [if_pos rfl]
     dsimp only at hm
     refine ⟨fun σ' H'=>∃ F2 r2 t2 v,RelP P F2 r2 t2 σ' H' ∧ loopN fc f m r2 t2 = some v ∧ Aft P F2 v (aftS P F2 D),fun σ' H' q=>⟨m,by omega,q⟩,F3,r2,t3,R3,?_⟩
     cases ef : f r2 t3 with
     | exc k t4=>
      rw [ef] at hm
      cases hm
      exact Aft.up h s3.1
     | bad=>
      rw [ef] at hm
      cases hm
      exact h
     | ok p t4=>
      rw [ef] at hm
      obtain ⟨fl,r4⟩:=p
      cases fl with
      | nx=>exact fun F5 σ5 H5 s5 R5=>⟨F5,r4,t4,v,R5,hm,(h.up (s3.1.trans s5)).mono fun p t q=>q.up (s3.1.trans s5)⟩
      | cont=>exact fun F5 σ5 H5 s5 R5=>⟨F5,r4,t4,v,R5,hm,(h.up (s3.1.trans s5)).mono fun p t q=>q.up (s3.1.trans s5)⟩
      | brk=>
       cases hm
       exact fun F5 σ5 H5 s5 R5=>h F5 σ5 H5 (s3.1.trans s5) R5
      | ret d=>
       cases hm
       exact fun v F5 H5 s5 R5 rv=>h v F5 H5 (s3.1.trans s5) R5 rv
end
end Fm
namespace Fm
open PySem PySem.Spec PyProof.Rows L2
section
variable {P : Pm} {X : Cx} {a b c : Expr} {pos p1 p2 : Pos} {fa fb fc : Rho → Tw → Res D} {i : Nat} {y : Str} {q : Pos} {j : Nat}
theorem tok_at {F H : Hp} {r : Rho} {t : Tw} {σ : L2.St} (R : RelP P F r t σ H) (e : r[i]? = some (.val .tok)) : σ[i]? = some (some (.ref P.T.a)):=by
 obtain ⟨v,e1,h⟩:=R.val i _ e
 cases h
 exact e1
theorem Rel.town {F H H' : Hp} {r : Rho} {t t' : Tw} {σ : L2.St} (R : RelP P F r t σ H) (hn : ∀ b,b ≠ P.T.a → b ≠ P.T.b → H' b = H b) (tw : Town P.T t' H') : RelP P F r t' σ H':=by
 have fa:=R.tF1
 have fb:=R.tF2
 refine ⟨⟨fun b o h=>?_,R.new,R.base,fun b o h n1 n2 n3=>?_,fun b h=>?_,tw,fa,fb,R.sc,fun x hx=>?_,R.nt⟩,R.len,R.val,fun i d h=>?_,R.inj⟩
 · have n1 : b ≠ P.T.a:=fun e=>by
    rw [e,fa] at h
    cases h
   have n2 : b ≠ P.T.b:=fun e=>by
    rw [e,fb] at h
    cases h
   rw [hn b n1 n2]
   exact R.sub b o h
 · rw [hn b n1 n2]
   exact R.old b o h n1 n2 n3
 · by_cases n1 : b = P.T.a
   · subst n1
     exact (h.no tw.a (by intro _ z;cases z)).elim
   · by_cases n2 : b = P.T.b
     · subst n2
       exact (h.no tw.b (by intro _ z;cases z)).elim
     · exact R.had b fun o e=>h o (by rw [hn b n1 n2];exact e)
 · have ka : ∀ b o,H b = some o → (∀ kvs,o ≠ .dK kvs) → H' b = some o:=fun b o h n=>by
    rw [hn b (fun z=>by rw [z,R.tw.a] at h;cases h;exact n _ rfl) (fun z=>by rw [z,R.tw.b] at h;cases h;exact n _ rfl)]
    exact h
   obtain ⟨ps,h1,h2,h3⟩:=R.tabs x hx
   refine ⟨ps,ka _ _ h1 (by intro _ z;cases z),h2,fun pos cv hc=>?_⟩
   obtain ⟨c,e1,e2⟩:=h3 pos cv hc
   exact ⟨c,e1,ka _ _ e2 (by intro _ z;cases z)⟩
 · obtain ⟨p,e,w⟩:=R.own i d h
   exact ⟨p,e,⟨w.fr,w.n1,w.n2,w.h0,w.at_.keep (Same.refl F) fun o h=>by rw [hn p w.n1 w.n2];exact h⟩⟩
def tcountE (i : Nat) (r : Rho) (t : Tw) : Res D:=match r[i]? with
  | some (.val .tok)=>.ok (.int t.count) t
  | _=>.bad
def tgetE (i : Nat) (fk fd : Rho → Tw → Res D) (r : Rho) (t : Tw) : Res D:=match r[i]? with
  | some (.val .tok)=>(fk r t).bind fun y t1=>(fd r t1).bind fun z t2=>(match y,z with
   | .int a,.int b=>.ok (.int ((lkT t2.rests a).getD b)) t2
   | _,_=>.bad)
  | _=>.bad
def tcntE (i : Nat) (fa : Rho → Tw → Res D) (r : Rho) (t : Tw) : Res (Fl × Rho):=match r[i]? with
  | some (.val .tok)=>(fa r t).bind fun x t1=>(match x with
   | .int c=>.ok (.nx,r) { t1 with count:=c }
   | _=>.bad)
  | _=>.bad
def trstE (i : Nat) (fk fa : Rho → Tw → Res D) (r : Rho) (t : Tw) : Res (Fl × Rho):=match r[i]? with
  | some (.val .tok)=>(fa r t).bind fun x t1=>(fk r t1).bind fun y t2=>(match x,y with
   | .int v,.int a=>if decide (t2.rests.length < 1000000) then .ok (.nx,r) { t2 with rests:=putT t2.rests a v } else .bad
   | _,_=>.bad)
  | _=>.bad
theorem tok_of {α : Type} {F : Hp} {r : Rho} {m : Res α} {Z : α → Tw → Prop} (h : Aft P F (match r[i]? with
  | some (.val .tok)=>m
  | _=>.bad) Z) : r[i]? = some (.val .tok) ∧ Aft P F m Z:=by
 split at h
 · rename_i e
   exact ⟨e,h⟩
 · exact h.elim
theorem valV_rests (rs : List (Int × Int)) (k : Int) : valV (rs.map fun p=>((.inl p.1 : Key),V.int p.2)) (.inl k) = (lkT rs k).map V.int:=by
 induction rs with
 | nil=>rfl
 | cons p r ih=>
  by_cases e : p.1 = k
  · rw [List.map_cons,valV_pos (by rw [e])]
    simp [lkT,List.find?_cons,e]
  · rw [List.map_cons,valV_neg (by simpa using e),ih]
    simp [lkT,List.find?_cons,e]
theorem putK_rests (rs : List (Int × Int)) (k v : Int) : putK (rs.map fun p=>((.inl p.1 : Key),V.int p.2)) (.inl k) (.int v) = (putT rs k v).map fun p=>((.inl p.1 : Key),V.int p.2):=by
 unfold putK putT
 have e : ((rs.map fun p=>((.inl p.1 : Key),V.int p.2)).any fun kv=>decide (kv.1 = (.inl k : Key))) = rs.any fun p=>decide (p.1 = k):=by
  rw [List.any_map]
  congr 1
  funext p
  simp
 rw [e]
 split
 · rw [List.map_map,List.map_map]
   refine List.map_congr_left fun p _=>?_
   simp only [Function.comp]
   by_cases e : p.1 = k
   · simp [e]
   · simp [e]
 · simp
theorem putT_len (rs : List (Int × Int)) (k v : Int) : (putT rs k v).length ≤ rs.length + 1:=by
 unfold putT
 split <;> simp
theorem s_tcount (hu : X.A.units + 200 < cLine) (hN : X.N[i]? = some y) (hv : Vis X.env.scope y) (hd : (y == ("__debug__" : Str)) = false) (hcd : (y == ("__classdict__" : Str)) = false) : PE X (.Subscript (.Name y q) (.Constant (.str "count") j p1) pos) (tD P (tcountE i)):=by
 refine peMono (pe_dget (by omega) (pe_slot hN hv hd hcd) pe_str (fun _ _=>rfl)) fun σ H Q ⟨F,r,t,R,h⟩=>?_
 obtain ⟨e,h⟩:=tok_of h
 refine ⟨_,tok_at R e,P.T.a,.int t.count,rfl,DGet.k (k:=.inr "count") R.tw.a,h _ _ _ Kp.refl R (.int _)⟩
theorem town_rests (hu : X.A.units + 200 < cLine) (hN : X.N[i]? = some y) (hv : Vis X.env.scope y) (hd : (y == ("__debug__" : Str)) = false) (hcd : (y == ("__classdict__" : Str)) = false) :
  PE X (.Subscript (.Name y q) (.Constant (.str "rests") j p1) pos) (fun σ H Q=>∃ F r t,RelP P F r t σ H ∧ r[i]? = some (.val .tok) ∧ Q (.ref P.T.b) H):=by
 refine peMono (pe_dget (by omega) (pe_slot hN hv hd hcd) pe_str (fun _ _=>rfl)) fun σ H Q ⟨F,r,t,R,e,h⟩=>?_
 refine ⟨_,tok_at R e,P.T.a,.ref P.T.b,rfl,?_,h⟩
 have:=DGet.k (k:=.inr "rests") R.tw.a
 exact this
theorem s_tget (hu : X.A.units + 200 < cLine) (hN : X.N[i]? = some y) (hv : Vis X.env.scope y) (hd : (y == ("__debug__" : Str)) = false) (hcd : (y == ("__classdict__" : Str)) = false) {p3 p4 : Pos} (hb : PE X b (tB P fb)) (hc : PE X c (tD P fc))
  (m : M2 X (.Subscript (.Name y q) (.Constant (.str "rests") j p1) pos) "get" p3 b c p4) : PE X (.Call (.Attribute (.Subscript (.Name y q) (.Constant (.str "rests") j p1) pos) "get" p3) [b,c] [] p4) (tD P (tgetE i fb fc)):=by
 refine peMono (pe_dget2 (by omega) (town_rests (P:=P) hu hN hv hd hcd) hb hc m) fun σ H Q ⟨F,r,t,R,h⟩=>?_
 obtain ⟨e,h⟩:=tok_of h
 refine ⟨F,r,t,R,e,P.T.b,rfl,.inl ⟨_,.inl R.tw.b⟩,F,r,t,R,h.bind.mono fun dy t1 h v F1 H1 s1 R1 ry=>⟨F1,r,t1,R1,(h.up s1.1).bind.mono fun dz t2 h u F2 H2 s2 R2 rz=>?_⟩⟩
 cases dy with
 | int k=>
  cases dz with
  | int z=>
   obtain rfl:=(ry.mono s2.1).int R2
   cases rz
   refine ⟨_,DGet.k (k:=.inl k) R2.tw.b,?_⟩
   rw [valV_rests]
   have:=h (.int ((lkT t2.rests k).getD z)) F2 H2 (s1.trans s2) R2 (.int _)
   cases e2 : lkT t2.rests k with
   | none=>
    rw [e2] at this
    exact this
   | some w=>
    rw [e2] at this
    exact this
  | _=>exact (show False from h).elim
 | _=>exact (show False from h).elim
theorem st_tcnt (hu : X.A.units + 200 < cLine) (hN : X.N[i]? = some y) (hv : Vis X.env.scope y) (hd : (y == ("__debug__" : Str)) = false) (hcd : (y == ("__classdict__" : Str)) = false) (ha : PE X a (tD P fa))
  (hs : swapsWith a (some (.Subscript (.Name y q) (.Constant (.str "count") j p1) p2)) pos.line X.env = pure false) : PS X (.Assign [.Subscript (.Name y q) (.Constant (.str "count") j p1) p2] a pos) (tS P (tcntE i fa)):=by
 refine psMono (ps_dput (by omega) (pe_slot hN hv hd hcd) pe_str ha hs) fun D σ H ⟨F,r,t,R,h⟩=>?_
 obtain ⟨e,h⟩:=tok_of h
 refine ⟨F,r,t,R,h.bind.mono fun d t1 h v F1 H1 s1 R1 rv=>⟨_,tok_at R1 e,?_⟩⟩
 split at h
 · rename_i c
   cases rv
   have d:=DPut.k (k:=.inr "count") (v:=.int c) R1.tw.a (by rw [sizeLine_eq];simp)
   refine ⟨P.T.a,_,rfl,d,h F1 σ _ s1.1 (Rel.town R1 (fun b n1 n2=>upd_ne n1) ⟨?_,?_,R1.tw.ne,R1.tw.small⟩)⟩
   · rw [upd_same]
     rfl
   · rw [upd_ne (Ne.symm R1.tw.ne)]
     exact R1.tw.b
 · exact h.elim
theorem st_trst (hu : X.A.units + 200 < cLine) (hN : X.N[i]? = some y) (hv : Vis X.env.scope y) (hd : (y == ("__debug__" : Str)) = false) (hcd : (y == ("__classdict__" : Str)) = false) {p3 : Pos} (hb : PE X b (tB P fb)) (ha : PE X a (tD P fa))
  (hs : swapsWith a (some (.Subscript (.Subscript (.Name y q) (.Constant (.str "rests") j p1) p2) b p3)) pos.line X.env = pure false) : PS X (.Assign [.Subscript (.Subscript (.Name y q) (.Constant (.str "rests") j p1) p2) b p3] a pos) (tS P (trstE i fb fa)):=by
 refine psMono (ps_dput (by omega) (town_rests (P:=P) hu hN hv hd hcd) hb ha hs) fun D σ H ⟨F,r,t,R,h⟩=>?_
 obtain ⟨e,h⟩:=tok_of h
 refine ⟨F,r,t,R,h.bind.mono fun d t1 h v F1 H1 s1 R1 rv=>⟨F1,r,t1,R1,e,F1,r,t1,R1,(h.up s1.1).bind.mono fun dk t2 h w F2 H2 s2 R2 rk=>?_⟩⟩
 cases d with
 | int z=>
  cases dk with
  | int k=>
   obtain rfl:=rk.int R2
   have rv:=rv.mono s2.1
   cases rv
   have h : Aft P F1 (if decide (t2.rests.length < 1000000) then .ok (.nx,r) { t2 with rests:=putT t2.rests k z } else .bad) (aftS P F D):=h
   split at h
   · rename_i hl
     have hl:=of_decide_eq_true hl
     have d:=DPut.k (k:=.inl k) (v:=.int z) R2.tw.b (by rw [List.length_map,sizeLine_eq];omega)
     rw [putK_rests] at d
     refine ⟨P.T.b,_,rfl,d,h F2 σ _ (s1.1.trans s2.1) (Rel.town R2 (fun b n1 n2=>upd_ne n2) ⟨?_,?_,R2.tw.ne,?_⟩)⟩
     · rw [upd_ne R2.tw.ne]
       exact R2.tw.a
     · rw [upd_same]
     · have:=putT_len t2.rests k z
       show (putT t2.rests k z).length ≤ 1000000
       omega
   · exact h.elim
  | _=>exact (show False from h).elim
 | _=>exact (show False from h).elim
end
end Fm
namespace Fm
open PySem PySem.Spec PyProof.Rows L2
end Fm
namespace Fm
open PySem PySem.Spec PyProof.Rows L2
section
variable {P : Pm} {X : Cx} {a b c : Expr} {pos p1 p2 : Pos} {fa fb fc : Rho → Tw → Res D}
inductive DspE (X : Cx) (P : Pm) : List Str → List (Rho → Tw → Res D) → List (Option Expr) → List Expr → Prop
 | nil : DspE X P [] [] [] []
 | cons {x : Str} {f : Rho → Tw → Res D} {xs : List Str} {fs : List (Rho → Tw → Res D)} {ks : List (Option Expr)} {e : Expr} {vs : List Expr} {j : Nat} {q : Pos} : PE X e (tD P f) → DspE X P xs fs ks vs → DspE X P (x :: xs) (f :: fs) (some (.Constant (.str x) j q) :: ks) (e :: vs)
theorem DspE.pps {xs : List Str} {fs : List (Rho → Tw → Res D)} {ks : List (Option Expr)} {vs : List Expr} (h : DspE X P xs fs ks vs) : PPs X pos ks vs ((xs.zip fs).map fun p=>(tC (.str p.1),tD P p.2)):=by
 induction h with
 | nil=>exact pps_nil
 | cons h1 h ih=>exact pps_cons pe_str h1 ih
theorem DspE.all {xs : List Str} {fs : List (Rho → Tw → Res D)} {ks : List (Option Expr)} {vs : List Expr} (h : DspE X P xs fs ks vs) : ks.all (·.isSome) = true ∧ ks.length = xs.length ∧ vs.length = xs.length ∧ fs.length = xs.length:=by
 induction h with
 | nil=>exact ⟨rfl,rfl,rfl,rfl⟩
 | cons h1 h ih=>exact ⟨by simp [ih.1],by simp [ih.2.1],by simp [ih.2.2.1],by simp [ih.2.2.2]⟩
structure Nine (K : PySem.W.Frag) (cl : Nat → Addr) : Prop where
 c : ∀ m,m < 9 → ExcC K (cl m)
 s : ∀ m n,m < 9 → n < 9 → PySem.W.kitOne K (.ref (cl m)) (.ref (cl n)) = some (decide (m = n))
 v : ∀ m,m < 9 → PySem.W.kitOne K (.ref (cl m)) (.type "ValueError") = some true
end
end Fm
namespace Fm
open PySem PySem.Spec PyProof.Rows L2
section
variable {X : Cx} {pins : List (Addr × Obj)} {σ : L2.St} {H : Hp} {s : Shared}
theorem inv_track {a : Addr} {φ : Heap → Prop} {oe : Obj} {vs : Array Value} (I : Inv X pins σ H s) (hn : H a = none) (h0 : X.s_0.heap.get? a = none) (ha : s.heap.get? a = some oe) (hd : oe.data = .fields vs) (nL : a ≠ X.env.locals)
  (np : ∀ p ∈ X.pn ++ pins,p.1 ≠ a) (new : ObjOk X.prog X.w (upd H a (.ext φ)) s.heap a (.ext φ)) : Inv X pins σ (upd H a (.ext φ)) s:=by
 have off : ∀ {b},b ≠ a → upd H a (.ext φ) b = H b:=upd_ne
 have was : ∀ {b u},H b = some u → upd H a (.ext φ) b = some u:=fun {b u} e=>(off (ne_of_none e hn)).trans e
 have noCell : ∀ x c,X.env.cells.lookup x = some c → c ≠ a:=by
  rintro x c e rfl
  obtain ⟨v,o,ho,hc⟩:=I.cell x c e
  rw [show o = oe from Option.some.inj (ho.symm.trans ha),hd] at hc
  exact nomatch hc
 exact {
  ok:=I.ok,os:=I.os,bare:=I.bare,loc:=I.loc,cell:=I.cell,len:=I.len
  base:={
   keep:=I.base.keep,slot:=I.base.slot,there:=I.base.there
   free:=fun b o e n hx=>(off (by rintro rfl;rw [h0] at e;cases e)).trans (I.base.free b o e n hx)
   tups:=fun b xs e=>was (I.base.tups b xs e)
   frzs:=fun b o u e=>was (I.base.frzs b o u e)
   tbls:=fun b ps e=>(I.base.tbls b ps e).imp fun _=>was }
  free:=(off nL.symm).trans I.free
  freeC:=fun x c e=>(off (noCell x c e)).trans (I.freeC x c e)
  pin:=fun p hp=>(I.pin p hp).imp_right fun q=>q.imp_left (off (np p hp)).trans
  hok:=fun b u e=>by
   by_cases hb : b = a
   · subst hb
     obtain rfl : HO.ext φ = u:=Option.some.inj (upd_same.symm.trans e)
     exact new
   · exact (I.hok b u ((off hb).symm.trans e)).stay (fun _ _ _ q=>q) (fun _=>was) fun _ _=>was }
end
def wKeep (K : PySem.W.Frag) (N : List Str) (c : Value) (i : Nat) (ts : Addr → Value → Option Addr → TS) (D : Ends) : WX:=fun cls d σ H=>
 d = none ∧ PySem.W.exmOne K cls c = some true ∧ (σ.length = N.length → ∀ a,H a = none → ts a cls d { nx:=fun σ' H'=>H' a = none → D.nx (σ'.set i none) (upd H' a (ExI cls a)),rt:=fun _ _=>False,bk:=fun _ _=>False,ct:=fun _ _=>False } (σ.set i (some (.ref a))) H)
structure Aloft (X : Cx) (pins : List (Addr × Obj)) (a : Addr) : Prop where
 loc : a ≠ X.env.locals
 fs : a ∉ X.fs
 old : X.s_0.heap.get? a = none
 pin : ∀ p ∈ X.pn ++ pins,p.1 ≠ a
theorem aloft {X : Cx} {pins : List (Addr × Obj)} {σ : L2.St} {H : Hp} {sI : Shared} {B h : Heap} {a : Addr} {Z : Obj → Prop} (hs : X.stack = X.env :: X.outer) (hf : X.env.frame = some X.env.locals) (hex : X.ex = []) (J : Inv X pins σ H sI)
  (nb : ∀ b o,sI.heap.get? b = some o → b ∉ frs X.stack → B.get? b = some o) (fl : HandSPX.FlyingZ B (X.env :: X.outer) a Z h) : Aloft X pins a:=by
 have noFrame : a ∉ frs X.stack:=by
  rw [hs]
  intro m
  obtain ⟨o,vs,e,_,dd⟩:=fl.there
  obtain ⟨_,o2,e2,no⟩:=fl.2.2.1.mem m
  exact no vs (Option.some.inj (e2.symm.trans e) ▸ dd)
 have unseen : sI.heap.get? a = none:=Option.eq_none_iff_forall_ne_some.mpr fun o e=>by
  have z:=nb a o e noFrame
  rw [fl.2.1] at z
  exact nomatch z
 have up : ∀ e ∈ X.env :: X.outer,e.frame = some a → False:=fun e he q=>noFrame (hs ▸ List.mem_filterMap.mpr ⟨e,he,q⟩)
 refine ⟨?_,?_,?_,?_⟩
 · rintro rfl
   exact up _ List.mem_cons_self hf
 · intro m
   obtain ⟨e,he,q⟩:=List.mem_filterMap.mp m
   exact up e (List.mem_cons_of_mem _ he) q
 · refine Option.eq_none_iff_forall_ne_some.mpr fun o e=>?_
   obtain ⟨o2,e2⟩:=J.base.there a o e (by rw [hex];exact List.not_mem_nil)
   rw [unseen] at e2
   exact nomatch e2
 · rintro ⟨_,o⟩ hp rfl
   have z:=(J.pin _ hp).1
   rw [unseen] at z
   exact nomatch z
section
variable {X : Cx} {x n : Str} {c : Value} {i : Nat} {body suite : List Stmt} {b₀ : Stmt} {np pos pos' : Pos} {tb : WX → TS} {ts : Addr → Value → Option Addr → TS}
theorem ps_try_keep (hs : X.stack = X.env :: X.outer) (hf : X.env.frame = some X.env.locals) (hex : X.ex = []) (hN : X.N.Nodup) (hi : X.N[i]? = some n) (hln : X.env.kindOf n = some .local) (hc : Names X x c)
  (hb : ∀ (W : WX) (pn : List (Addr × Obj)) (xe : Value → Shared → Prop),Takes (X.tr pn xe) W → PassesOwn (model X.prog X.w) X.A X.env xe → PSs (X.tr pn xe) body (tb W))
  (hsu : ∀ (a : Addr) (oe : Obj) (cls : Value) (d : Option Addr) (pn : List (Addr × Obj)),Zc cls d oe → (∃ vs,oe.data = .fields vs) → PSs (X.suite a ((a,oe) :: pn)) (b₀ :: suite) (ts a cls d)) :
  PS X (.Try body [.ExceptHandler (some (.Name x np)) (some n) (b₀ :: suite) pos'] [] [] pos) (fun D σ H=>tb (wKeep X.K X.N c i ts D) D σ H):=by
 constructor
 intro pins s σ H D I h
 have ok:=I.ok
 have plainEnd : ∀ {pn : List (Addr × Obj)} {xe : Value → Shared → Prop} {fl : Flow} {s1 : Shared},SP (X.tr (X.pn ++ pins) xe) pn D fl s1 → SP X pins D fl s1:=fun {pn xe fl s1} q=>by
  cases fl
  case ret=>exact let ⟨v,σ1,H1,J,r⟩:=q;⟨v,σ1,H1,J.ofTry ok,r⟩
  all_goals exact let ⟨σ1,H1,J,r⟩:=q;⟨σ1,H1,J.ofTry ok,r⟩
 refine wpAny_Try_except (wpAny_mono ((hb (wKeep X.K X.N c i ts D) (X.pn ++ pins) _ ?landed PassesOwn.looking).run [] s σ H D (I.toTry _) h) ?fine fun _ _ z=>z)
 case fine=>
  intro fl s1 q
  have q:=plainEnd q
  cases fl
  case next=>exact wpAny_execs_nil q
  all_goals exact q
 case landed=>
  rintro _ s1 ⟨a,B,sI,pn,σ1,H1,cls,_,rfl,J0,nb,up,sky,na,os,ag,rfl,fits,go⟩
  have J : Inv X pins σ1 H1 sI:=J0.ofTry ok
  have frames : X.A.frames = some (X.env :: X.outer):=ok.frames.trans (congrArg some hs)
  refine Sky.land Zc.steady frames hf (show Sky B (X.env :: X.outer) a (Zc cls none) X.env.locals s1.heap from hs ▸ sky) fun h2 fl2 up2=>?_
  have al : Aloft X pins a:=aloft hs hf hex J nb fl2
  have begun : ∀ {h : Heap},HandSPX.FlyingZ B (X.env :: X.outer) a (Zc cls none) h → sI.heap.UpToSlots h → ∃ oe vs,h.get? a = some oe ∧ Zc cls none oe ∧ oe.data = .fields vs ∧ Inv X pins σ1 H1 { s1 with heap:=h } ∧ Inv (X.suite a ((a,oe) :: (X.pn ++ pins))) [] σ1 H1 { s1 with heap:=h }:=fun {h} fl to=>by
   obtain ⟨oe,vs,e,z,dd⟩:=fl.there
   have K : Inv X pins σ1 H1 { s1 with heap:=h }:=J.landed nb fl.1 to os ag
   exact ⟨oe,vs,e,z,dd,K,K.suite e dd na al.loc al.fs⟩
  obtain ⟨o2,_,e2,z2,_,K2,S2⟩:=begun fl2 (up.trans up2)
  refine wpAny_handleBy_cons (codeAny_handlers_test ?_) nofun
  have kind : PySem.W.Looks (model X.prog X.w) h2 (typeOf (.ref a)) cls:=fun _ _ _ _ k q=>wpAny_typeOf_ref (k _ _ e2) (z2.1.symm ▸ q)
  have caught:=PySem.W.exm_one (M:=model X.prog X.w) K2.kIn kind fits
  have named : ∀ {Q E},Q c { s1 with heap:=h2 } → wpAny (model X.prog X.w) (X.A.mark (some (.ref a))) (eval (.Name x np) X.env) Q E { s1 with heap:=h2 }:=fun q=>by
   obtain ⟨hg,dbg,hm | ⟨hm,hv,nn⟩⟩:=hc
   · exact ld_glob (X:=X.suite a _) S2 hg hm q dbg
   · exact ld_blt (X:=X.suite a _) S2 hg hm hv q nn dbg
  refine named (caught.here (codeAny_handlers_suite_as (HandSPX.lands_againZ fl2 fun h4 fl4 up4=>?_)))
  obtain ⟨o4,v4,_,z4,d4,_,S4⟩:=begun fl4 ((up.trans up2).trans up4)
  refine store_ok (X:=X.suite a _) (v:=.ref a) S4 hN hi (.inl hln) rfl (fun s5 S5=>?_) (.inr hln)
  refine wpAny_mono ((hsu a o4 cls none _ z4 ⟨v4,d4⟩).run [] s5 _ H1 _ S5 (go J.len a na)) (fun fl s6 q=>?_) fun _ _ z=>z.elim
  cases fl
  case next=>
   obtain ⟨σ6,H6,S6,q⟩:=q
   refine gone_ok (X:=X.suite a _) S6 hN hi hln fun s7 S7=>?_
   have ⟨there,none7,_⟩:=S7.pin (a,o4) (List.mem_append_left _ List.mem_cons_self)
   exact ⟨_,_,inv_track (S7.unsuite ok) none7 al.old there d4 al.loc al.pin ⟨⟨o4,v4,there,z4,d4⟩,⟨o4,there⟩,fun _ _ ⟨o,v,q,r⟩ k=>⟨o,v,k o q,r⟩⟩,q none7⟩
  case ret=>exact let ⟨_,_,_,_,_,z⟩:=q;z.elim
  all_goals exact let ⟨_,_,_,z⟩:=q;z.elim
end
end Fm
namespace Fm
open PySem PySem.Spec PyProof.Rows L2
section
variable {P : Pm} {X : Cx} {a b c : Expr} {pos p1 p2 : Pos} {fa fb fc : Rho → Tw → Res D}
structure ConT (X : Cx) (P : Pm) (x : Str) (d : D) : Prop where
 ex : ∃ (a : Addr) (o : Obj) (xs : List V) (ds : List D),X.mg x = some (.ref a) ∧ X.K.lookup a = some o ∧ o.cls = .type "tuple" ∧ o.dict = none ∧ d = .tup ds ∧ SqT X.K (fun _=>none) a xs ∧ RpL P.K P.T (fun _=>none) xs ds
end
end Fm
namespace Fm
open PySem PySem.Spec PyProof.Rows L2 RZ
section
variable {prog : Program} {w : World} {A : Around} {E : Value → Shared → Prop} {s : Shared}
theorem drawsT {it a : Addr} {items : Array Value} (hh : A.handled = none) (hne : it ≠ a) : Draws prog w A it [it,a] items.size (fun i x=>items[i]? = some x) (fun i h=>h.IsTupleIter it a i ∧ h.IsTuple a items) where
 live:=fun i h st=>let ⟨⟨o,ho,_⟩,_⟩:=st;⟨o,ho⟩
 frame:=fun i h h' st k=>⟨st.1.at fun o q=>k it (by simp) o q,let ⟨o,ho,r⟩:=st.2;⟨o,k a (by simp) o ho,r⟩⟩
 item:=fun i s Q E hi st hQ=>nextOf_tuple_item st.1 st.2 (Array.getElem?_eq_getElem hi) fun h' h1 sb=>hQ _ h' s.toks (Array.getElem?_eq_getElem hi) ⟨h1,let ⟨o,ho,r⟩:=st.2;⟨o,(sb.2 a (Ne.symm hne)).trans ho,r⟩⟩ sb
 done:=fun s Q E st hE=>nextOf_tuple_end hh st.1 st.2 (Array.getElem?_eq_none (Nat.le_refl _)) hE
end
structure EnT (a e it : Addr) (i : Nat) (h : Heap) : Prop where
 en : ∃ old,IsEnum h e it ((i : Nat) : Int) old
 at_ : h.IsTupleIter it a i
 ne : e ≠ it ∧ e ≠ a ∧ it ≠ a
theorem EnT.kept {a e it : Addr} {i : Nat} {h h' : Heap} (S : EnT a e it i h) (k : ∀ b ∈ [e,it],∀ o,h.get? b = some o → h'.get? b = some o) : EnT a e it i h' where
 en:=S.en.imp fun _ q=>k e (by simp) _ q
 at_:=S.at_.at (k it (by simp))
 ne:=S.ne
theorem EnT.live {a e it : Addr} {i : Nat} {h : Heap} (S : EnT a e it i h) : ∀ b ∈ [e,it],∃ o,h.get? b = some o ∧ ∀ v,o.data ≠ .cell v:=by
 obtain ⟨old,q⟩:=S.en
 obtain ⟨o,ho,_,hd⟩:=S.at_
 simp only [List.mem_cons,List.not_mem_nil,or_false,forall_eq_or_imp,forall_eq]
 exact ⟨⟨_,q,nofun⟩,o,ho,fun v z=>by rw [hd] at z;cases z⟩
theorem EnT.next {X : Cx} {elts : List Expr} {kk : Nat} {tpos : Pos} {a e it : Addr} {i : Nat} {pins : List (Addr × Obj)} {s : Shared} {σ : L2.St} {H : Hp} {E : Value → Shared → Prop} {xs : List V} {x : V} (hc : X.calm = true) (I : Inv X pins σ H s) (S : EnT a e it i s.heap)
  (foot : ∀ b ∈ [e,it],FpOk X pins H b) (seq : SqT X.K H a xs) (hx : xs[i]? = some x) : wpAny (model X.prog X.w) X.A (pyNext (.ref e)) (fun r s1=>∃ u,r = some u ∧
   wpAny (model X.prog X.w) X.A (letOwnedTupleGo (.Tuple elts kk tpos) (.ref e) u) (fun _ s2=>u = .ref s.heap.objs.size ∧ Inv X pins σ (upd H s.heap.objs.size (.tup [.int (i : Nat),x])) s2 ∧ EnT a e it (i + 1) s2.heap) E s1) E s:=by
 have ⟨⟨old,en⟩,wk,nei,nea,nia⟩:=S
 obtain ⟨its,rel,tup,_⟩:=I.tuple seq
 obtain ⟨u,hu,ru⟩:=rel.get hx
 have lt : i < its.toArray.size:=by simpa using (List.getElem?_eq_some_iff.mp hu).1
 have fresh : s.heap.objs.size ≠ e:=Nat.ne_of_gt (Heap.lt_size en)
 refine wpAny_pyNext_enum_itemD (drawsT (A:=X.A.in1) (items:=its.toArray) (I.ok.hd hc) nia) en ⟨wk,tup⟩ lt nei (by simp [nei,nea]) fun u2 h2 tk got own walk pair _ rest=>?_
 obtain rfl : u2 = u:=Option.some.inj ((show its.toArray[i]? = some u2 from got).symm.trans (by simpa using hu))
 refine ⟨.ref s.heap.objs.size,rfl,wpAny_letOwnedTupleGo_enum (s:={ s with heap:=h2,toks:=tk + 1 }) own fun h3 en3 same=>⟨rfl,?_,⟨u2,en3⟩,walk.1.at fun o q=>(same.2 it nei.symm).trans q,nei,nea,nia⟩⟩
 refine I.turnedNew (ch:=[e,it]) (fun b o hb q=>?_) foot (Nat.le_refl _) ⟨by show 2 ≤ sizeLine;decide,[.int i tk,u2],.cons ⟨_,rfl⟩ (.cons ru .nil),_,(same.2 _ fresh).trans pair,rfl,_,rfl⟩
 simp only [List.mem_cons,List.not_mem_nil,or_false,not_or] at hb
 exact (same.2 b hb.1).trans (rest b o hb.1 hb.2 q)
section
variable {P : Pm} {X : Cx} {a b : Expr} {pos p1 : Pos} {fa fb : Rho → Tw → Res D}
end
end Fm
namespace Fm
open PySem PySem.Spec PyProof.Rows L2
def noC : Rho → Tw → Res (Option D):=fun _ t=>.ok none t
def innE (tg1 : Tg) (fi1 : Rho → Tw → Res (List D)) (fe : Rho → Tw → Res D) (r2 : Rho) (t : Tw) : Res (List D):=match fi1 r2 t with
 | .ok es t1=>if okLen es.length then compL (turnE tg1 tg1.slots noC fe r2) es t1 else .bad
 | _=>.bad
def outE (tg : Tg) (vs : List Nat) (tg1 : Tg) (fi1 : Rho → Tw → Res (List D)) (fe : Rho → Tw → Res D) (r : Rho) (d : D) (t : Tw) : Res (List D):=match setT tg d (wipeR r vs) with
 | some r2=>innE tg1 fi1 fe r2 t
 | none=>.bad
def comp2E (tg : Tg) (vs : List Nat) (fi : Rho → Tw → Res (List D)) (tg1 : Tg) (fi1 : Rho → Tw → Res (List D)) (fe : Rho → Tw → Res D) (r : Rho) (t : Tw) : Res D:=
 (fi r t).bind fun xs t1=>if okLen xs.length then (comp2L (outE tg vs tg1 fi1 fe r) xs t1).bind fun ys t2=>if okLen ys.length then .ok (.lst ys) t2 else .bad else .bad
theorem comp2_noexc {f : D → Tw → Res (List D)} (l : List D) : ∀ (t : Tw) (n : Nat) (t2 : Tw),comp2L f l t ≠ .exc n t2:=by
 induction l with
 | nil=>
  intro t n t2 z
  cases z
 | cons d l ih=>
  intro t n t2 z
  unfold comp2L at z
  split at z
  · rename_i o t3 _
    cases e4 : comp2L f l t3 with
    | ok a b=>
     rw [e4] at z
     cases z
    | exc a b=>exact ih _ _ _ e4
    | bad=>
     rw [e4] at z
     cases z
  · cases z
mutual
theorem setT_own {i : Nat} {e : D} : ∀ {tg : Tg} {d : D} {r r2 : Rho},setT tg d r = some r2 → r2[i]? = some (.own e) → r[i]? = some (.own e) ∧ i ∉ tg.slots
 | .name j,d,r,r2,h,h2=>by
  simp only [setT] at h
  split at h
  · rename_i hj
    have hj:=of_decide_eq_true hj
    cases h
    by_cases hi : j = i
    · subst hi
      rw [List.getElem?_set_self hj] at h2
      cases h2
    · rw [List.getElem?_set_ne hi] at h2
      exact ⟨h2,by simpa [Tg.slots] using Ne.symm hi⟩
  · cases h
 | .tup ts,.tup xs,r,r2,h,h2=>by
  have h : setTs ts xs r = some r2:=by simpa only [setT] using h
  have:=setTs_own h h2
  exact ⟨this.1,by simpa [Tg.slots] using this.2⟩
 | .tup ts,.non,_,_,h,_=>by simp [setT] at h
 | .tup ts,.bl _,_,_,h,_=>by simp [setT] at h
 | .tup ts,.int _,_,_,h,_=>by simp [setT] at h
 | .tup ts,.str _,_,_,h,_=>by simp [setT] at h
 | .tup ts,.lst xs,r,r2,h,h2=>by
  have h : setTs ts xs r = some r2:=by simpa only [setT] using h
  have:=setTs_own h h2
  exact ⟨this.1,by simpa [Tg.slots] using this.2⟩
 | .tup ts,.dct _,_,_,h,_=>by simp [setT] at h
 | .tup ts,.tok,_,_,h,_=>by simp [setT] at h
 | .tup ts,.scr _,_,_,h,_=>by simp [setT] at h
 | .tup ts,.exc _,_,_,h,_=>by simp [setT] at h
 | .tup ts,.dcn _,_,_,h,_=>by simp [setT] at h
theorem setTs_own {i : Nat} {e : D} : ∀ {ts : Tgs} {ds : List D} {r r2 : Rho},setTs ts ds r = some r2 → r2[i]? = some (.own e) → r[i]? = some (.own e) ∧ i ∉ ts.slots
 | .nil,[],r,r2,h,h2=>by
  simp only [setTs,Option.some.injEq] at h
  subst h
  exact ⟨h2,by simp [Tgs.slots]⟩
 | .nil,_ :: _,_,_,h,_=>by simp [setTs] at h
 | .cons _ _,[],_,_,h,_=>by simp [setTs] at h
 | .cons t ts,d :: ds,r,r2,h,h2=>by
  obtain ⟨r1,e1,e2⟩:=Option.bind_eq_some_iff.mp (show ((setT t d r).bind fun r1=>setTs ts ds r1) = some r2 from h)
  obtain ⟨a,b⟩:=setTs_own e2 h2
  obtain ⟨c,d'⟩:=setT_own e1 a
  exact ⟨c,by simp [Tgs.slots,d',b]⟩
end
theorem wipeR_own {r : Rho} {i : Nat} {e : D} : ∀ {vs : List Nat},(wipeR r vs)[i]? = some (.own e) → r[i]? = some (.own e) ∧ i ∉ vs
 | [],h=>⟨h,by simp⟩
 | v :: vs,h=>by
  have h : ((wipeR r vs).set v .un)[i]? = some (.own e):=h
  by_cases hv : v = i
  · subst hv
    by_cases hl : v < (wipeR r vs).length
    · rw [List.getElem?_set_self hl] at h
      cases h
    · rw [List.getElem?_eq_none (by simpa using hl)] at h
      cases h
  · rw [List.getElem?_set_ne hv] at h
    obtain ⟨a,b⟩:=wipeR_own h
    exact ⟨a,by simp [b,Ne.symm hv]⟩
section
variable {P : Pm} {X : Cx}
structure C2 (P : Pm) (r r2 : Rho) (σ σ2 : L2.St) (F1 H1 F5 : Hp) (D : Addr) (f : Fm.D → Tw → Res (Option Fm.D)) (acc es ysI : List Fm.D) (t3 : Tw) (j : Nat) (H F6 : Hp) (t6 : Tw) (vacc : List V) (accI restI : List Fm.D) : Prop where
 k : Kp P.T F1 H1 F6 H
 R : RelP P F6 r t6 σ H
 R2 : RelP P F6 r2 t6 σ2 H
 d : H D = some (.lst vacc)
 q : RpL P.K P.T F6 vacc (acc ++ accI)
 e : compL f (es.drop j) t6 = .ok restI t3
 y : ysI = accI ++ restI
 fD : F6 D = none
 s : Same F5 F6
theorem comp2_read {tg tg1 : Tg} {vs : List Nat} {fi fi1 : Rho → Tw → Res (List D)} {fe : Rho → Tw → Res D} {w0 w1' : Bool} (hw : w0 = true → tg.isT = true) (hw1 : w1' = true → tg1.isT = true) (hsl : ∀ i ∈ tg.slots,i ∈ vs) (σ : L2.St) (H : Hp) (Q : VK) (h : tN P (comp2E tg vs fi tg1 fi1 fe) σ H Q) :
  tLc2 (tI P false w0 fi) (gT P.nox tg) (tC1 P.nox noC) (tI P.nox true w1' fi1) (gT P.nox tg1) (tC1 P.nox noC) (tD P.nox fe) vs tg1.slots σ H Q:=by
 obtain ⟨F,r,t,R,h⟩:=h
 refine ⟨F,r,t,R,h.bind.mono fun ds t1 h J F1 H1 s1 R1 w D hD=>?_⟩
 have w : WD P w0 J (keepG P F1 H1) F1 ds:=w
 split at h
 rotate_left
 · exact h.elim
 obtain ⟨ys,t2,ec,hly,h⟩ : ∃ ys t2,comp2L (outE tg vs tg1 fi1 fe r) ds t1 = .ok ys t2 ∧ ys.length ≤ sizeLine ∧ ∀ v F' H' p,Kp P.T F H F' H' → RelP P F' r t2 σ H' → Nn H p → Fre P F' r σ H' v (.lst ys) p → Q v H':=by
  cases e : comp2L (outE tg vs tg1 fi1 fe r) ds t1 with
  | ok ys t2=>
   rw [e] at h
   simp only [Res.bind_ok] at h
   split at h
   · rename_i hl
     exact ⟨ys,t2,rfl,okLen_le hl,h⟩
   · exact h.elim
  | exc n t2=>exact absurd e (comp2_noexc _ _ _ _)
  | bad=>
   rw [e] at h
   exact h.elim
 have nTa : D ≠ P.T.a:=fun e=>by
  rw [e,R1.tw.a] at hD
  cases hD
 have nTb : D ≠ P.T.b:=fun e=>by
  rw [e,R1.tw.b] at hD
  cases hD
 have no : ∀ (i : Nat) (e : Fm.D),r[i]? = some (.own e) → σ[i]? ≠ some (some (.ref D)):=fun i e h1 h2=>by
  obtain ⟨q,e1,w⟩:=R1.own i e h1
  rw [h2] at e1
  cases e1
  obtain ⟨o2,ho,_⟩:=w.at_.obj
  rw [hD] at ho
  cases ho
 have b0:=R1.toRelH.newO (o:=.lst []) hD
 have fDk : ∀ {F2 H2 F3 H3 : Hp} {vacc : List V},Kp P.T F2 H2 F3 H3 → H2 D = some (.lst vacc) → F2 D = none → F3 D = none:=fun {F2 H2 F3 H3 vacc} k hd fD=>by
  cases z : F3 D with
  | none=>rfl
  | some u=>
   rcases k.new D u z with z | z
   · rw [fD] at z
     cases z
   · exact (z.no hd (by intro _ z;cases z)).elim
 refine ⟨fun i m H=>m = ds.length - i ∧ i ≤ ds.length ∧ ∃ F2 t' vacc acc rest,(Kp P.T F1 H1 F2 H ∧ RelP P F2 r t' σ H ∧ H D = some (.lst vacc) ∧ RpL P.K P.T F2 vacc acc ∧ comp2L (outE tg vs tg1 fi1 fe r) (ds.drop i) t' = .ok rest t2 ∧ ys = acc ++ rest) ∧ F2 D = none,⟨ds.length,by simp,Nat.zero_le _,F1,t1,[],[],ys,?_,?_⟩,fun i m H2 hW=>?_⟩
 · exact ⟨Kp.of b0,R1.step b0,upd_same,.nil,by simpa using ec,rfl⟩
 · exact R1.sub.free hD
 · obtain ⟨rfl,hi,F2,t',vacc,acc,rest,⟨k,R2,hd,q,e,ey⟩,fD⟩:=hW
   have hG : keepG P F1 H1 H2:=⟨k.base.trans R2.sub,k.old⟩
   by_cases hlt : i < ds.length
   · refine .inr ⟨w.goes i H2 hlt hG,fun H'=>∃ F2 t' vacc acc rest,(Kp P.T F1 H1 F2 H' ∧ RelP P F2 r t' σ H' ∧ H' D = some (.lst vacc) ∧ RpL P.K P.T F2 vacc acc ∧ comp2L (outE tg vs tg1 fi1 fe r) (ds.drop (i + 1)) t' = .ok rest t2 ∧ ys = acc ++ rest) ∧ F2 D = none,fun H' hn=>⟨_,by omega,rfl,hlt,hn⟩,fun x H' hy=>?_⟩
     have hdi : ds[i]? = some ds[i]:=List.getElem?_eq_getElem hlt
     have e' : comp2L (outE tg vs tg1 fi1 fe r) (ds[i] :: ds.drop (i + 1)) t' = .ok rest t2:=by
      rw [← List.drop_eq_getElem_cons hlt]
      exact e
     unfold comp2L at e'
     cases et : outE tg vs tg1 fi1 fe r ds[i] t' with
     | exc n t3=>
      rw [et] at e'
      cases e'
     | bad=>
      rw [et] at e'
      cases e'
     | ok ysI t3=>
      rw [et] at e'
      dsimp only at e'
      obtain ⟨rest',er,eo⟩ : ∃ rest',comp2L (outE tg vs tg1 fi1 fe r) (ds.drop (i + 1)) t3 = .ok rest' t2 ∧ rest = ysI ++ rest':=by
       cases e4 : comp2L (outE tg vs tg1 fi1 fe r) (ds.drop (i + 1)) t3 with
       | ok a b=>
        rw [e4] at e'
        simp only [Res.bind_ok] at e'
        cases e'
        exact ⟨a,rfl,rfl⟩
       | exc a b=>
        rw [e4] at e'
        cases e'
       | bad=>
        rw [e4] at e'
        cases e'
      obtain ⟨r2,es,tE,es0,efi,hes,eci⟩ : ∃ r2 es tE,setT tg ds[i] (wipeR r vs) = some r2 ∧ fi1 r2 t' = .ok es tE ∧ es.length ≤ sizeLine ∧ compL (turnE tg1 tg1.slots noC fe r2) es tE = .ok ysI t3:=by
       unfold outE at et
       cases z : setT tg ds[i] (wipeR r vs) with
       | none=>
        rw [z] at et
        cases et
       | some r2=>
        rw [z] at et
        dsimp only at et
        unfold innE at et
        cases z2 : fi1 r2 t' with
        | ok es tE=>
         rw [z2] at et
         dsimp only at et
         split at et
         · rename_i hl
           exact ⟨r2,es,tE,rfl,z2,okLen_le hl,et⟩
         · cases et
        | exc n t4=>
         rw [z2] at et
         cases et
        | bad=>
         rw [z2] at et
         cases et
      obtain ⟨F3,k3,_,R3,rx⟩:=w.draw hw hdi hG hy k.base R2
      refine ⟨F3,wipeR r vs,t',ds[i],r2,R3.wipe vs,rx,es0,fun σ2 R4 c=>⟨(c.wipe hsl).trans (wipe_wipe σ vs),?_⟩⟩
      have no2 : ∀ (i : Nat) (e : Fm.D),r2[i]? = some (.own e) → σ2[i]? ≠ some (some (.ref D)):=fun i e h1 h2=>by
       obtain ⟨a,b⟩:=setT_own es0 h1
       obtain ⟨a2,b2⟩:=wipeR_own a
       rw [c.2 i b,wipe_get,if_neg (fun z=>b2 z.1)] at h2
       exact no i e a2 h2
      refine ⟨F3,r2,t',R4,true,rfl,fun F4 H4 k4 R5=>?_⟩
      show (if true = true then _ else _)
      rw [if_pos rfl]
      refine ⟨F4,r2,t',R5,?_⟩
      rw [efi]
      intro J1 F5 H5 k5 R6 w1
      have w1 : WD P.nox w1' J1 (Same F5) F5 es:=w1
      have k6 : Kp P.T F2 H2 F5 H5:=k3.trans (k4.trans k5)
      have hd5 : H5 D = some (.lst vacc):=k6.old D _ hd nTa nTb (by intro _ z;cases z)
      have fD5:=fDk k6 hd fD
      have R7 : RelP P F5 r tE σ H5:=R2.step (Kp.relH (P:=P.nox) k6 R6)
      refine ⟨fun j m H=>m = es.length - j ∧ j ≤ es.length ∧ ∃ F6 t6 va accI restI,C2 P r r2 σ σ2 F1 H1 F5 D (turnE tg1 tg1.slots noC fe r2) acc es ysI t3 j H F6 t6 va accI restI,⟨es.length,by simp,Nat.zero_le _,F5,tE,vacc,[],ysI,⟨k.trans k6,R7,R6,hd5,by rw [List.append_nil];exact q.mono k6.base,by simpa using eci,rfl,fD5,Same.refl _⟩⟩,fun j m HJ hW1=>?_⟩
      obtain ⟨rfl,hj,F6,t6,va,accI,restI,⟨kJ,RJ,RJ2,hdJ,qJ,eJ,yJ,fDJ,sJ⟩⟩:=hW1
      have hGJ : Same F5 HJ:=sJ.trans RJ.sub
      have lva : va.length = (acc ++ accI).length:=qJ.length
      by_cases hjl : j < es.length
      · refine .inr ⟨w1.goes j HJ hjl hGJ,fun H'=>∃ F6 t6 va accI restI,C2 P r r2 σ σ2 F1 H1 F5 D (turnE tg1 tg1.slots noC fe r2) acc es ysI t3 (j + 1) H' F6 t6 va accI restI,fun H' hn=>⟨_,by omega,rfl,hjl,hn⟩,fun x1 HX hy1=>?_⟩
        have hej : es[j]? = some es[j]:=List.getElem?_eq_getElem hjl
        have eJ' : compL (turnE tg1 tg1.slots noC fe r2) (es[j] :: es.drop (j + 1)) t6 = .ok restI t3:=by
         rw [← List.drop_eq_getElem_cons hjl]
         exact eJ
        unfold compL at eJ'
        cases etj : turnE tg1 tg1.slots noC fe r2 es[j] t6 with
        | exc n t4=>
         rw [etj] at eJ'
         cases eJ'
        | bad=>
         rw [etj] at eJ'
         cases eJ'
        | ok o t4=>
         rw [etj] at eJ'
         dsimp only at eJ'
         obtain ⟨restI',erI,eoI⟩ : ∃ rest',compL (turnE tg1 tg1.slots noC fe r2) (es.drop (j + 1)) t4 = .ok rest' t3 ∧ restI = consO o rest':=by
          cases e4 : compL (turnE tg1 tg1.slots noC fe r2) (es.drop (j + 1)) t4 with
          | ok a b=>
           rw [e4] at eJ'
           simp only [Res.bind_ok] at eJ'
           cases eJ'
           exact ⟨a,rfl,rfl⟩
          | exc a b=>
           rw [e4] at eJ'
           cases eJ'
          | bad=>
           rw [e4] at eJ'
           cases eJ'
         obtain ⟨r3,oc,tc,b,es3,efc,eb,alt⟩:=turn_ok etj
         cases efc
         cases eb
         obtain ⟨y,efe,rfl⟩ : ∃ y,fe r3 t6 = .ok y t4 ∧ o = some y:=by
          rcases alt with ⟨_,y,efe,rfl⟩ | ⟨z,_⟩
          · exact ⟨y,efe,rfl⟩
          · cases z
         obtain ⟨F7,k7,toX,RX2,rx1⟩:=w1.draw hw1 hej hGJ hy1 sJ RJ2
         have RX:=toX (P':=P) rfl rfl RJ
         refine ⟨F7,wipeR r2 tg1.slots,t6,es[j],r3,RX2.wipe tg1.slots,rx1,es3,fun σ3 R8 c3=>⟨(c3.wipe fun i hi=>hi).trans (wipe_wipe σ2 _),?_⟩⟩
         refine ⟨F7,r3,t6,R8,true,rfl,fun F8 H8 k8 R9=>?_⟩
         show (if true = true then _ else _)
         rw [if_pos rfl]
         refine ⟨F8,r3,t6,R9,?_⟩
         rw [efe]
         intro v F9 H9 k9 R10 rv
         have k10 : Kp P.T F6 HJ F9 H9:=k7.trans (k8.trans k9)
         have hd9 : H9 D = some (.lst va):=k10.old D _ hdJ nTa nTb (by intro _ z;cases z)
         have fD9:=fDk k10 hdJ fDJ
         have hsz : va.length < sizeLine:=by
          have e1 : ys.length = acc.length + (accI.length + (restI'.length + 1) + rest'.length):=by
           rw [ey,eo,yJ,eoI]
           simp [consO]
           omega
          rw [lva,List.length_append]
          omega
         have bK:=Kp.relH (P:=P.nox) k10 R10
         have R11 : RelP P F9 r t4 σ H9:=RJ.step bK
         have R12 : RelP P F9 r2 t4 σ2 H9:=RJ2.step bK
         have hN:=R1.had D (.of hD)
         have R13 : RelP P F9 r t4 σ (L2.upd H9 D (.lst (va ++ [v]))):=Rel.upd R11 (by rw [hd9];simp) (fun ps z=>by rw [hd9] at z;cases z) (fun c q z=>by rw [hd9] at z;cases z) fD9 hN nTa nTb no
         have R14 : RelP P F9 r2 t4 σ2 (L2.upd H9 D (.lst (va ++ [v]))):=Rel.upd R12 (by rw [hd9];simp) (fun ps z=>by rw [hd9] at z;cases z) (fun c q z=>by rw [hd9] at z;cases z) fD9 hN nTa nTb no2
         refine ⟨va,hd9,hsz,F9,t4,va ++ [v],accI ++ [y],restI',⟨?_,R13,R14,upd_same,by rw [← List.append_assoc];exact (qJ.mono k10.base).append (.cons rv .nil),erI,?_,fD9,sJ.trans k10.base⟩⟩
         · have k11:=kJ.trans k10
           refine ⟨k11.base,k11.new,fun a o ha m1 m2 m3=>?_,fun a ha=>k11.had a (ha.upd (by intro _ z;cases z)).1⟩
           have : a ≠ D:=fun e=>by
            rw [e,hD] at ha
            cases ha
           rw [upd_ne this]
           exact k11.old a o ha m1 m2 m3
         · rw [yJ,eoI]
           simp [consO]
      · have ej : j = es.length:=by omega
        subst ej
        refine .inl ⟨w1.stops HJ hGJ,F6,t3,va,acc ++ ysI,rest',⟨kJ,?_,hdJ,?_,er,?_⟩,fDJ⟩
        all_goals
         rw [List.drop_length] at eJ
         cases eJ
         rw [List.append_nil] at yJ
         subst yJ
        · exact RJ
        · exact qJ
        · rw [ey,eo,List.append_assoc]
   · have ei : i = ds.length:=by omega
     subst ei
     refine .inl ⟨w.stops H2 hG,?_⟩
     rw [List.drop_length] at e
     cases e
     rw [List.append_nil] at ey
     subst ey
     exact h _ _ _ D (s1.trans k) R2 (s1.had D (.of hD)) ⟨rfl,⟨fD,nTa,nTb,R1.had D (.of hD),vacc,hd,by rw [q.length];exact hly,q⟩,no⟩
theorem n_comp2 {elt tg iter tg1 iter1 : Expr} {scope : Scope} {own : List (Str × Nat)} {pos : Pos} {tgt tgt1 : Tg} {fi fi1 : Rho → Tw → Res (List D)} {fe : Rho → Tw → Res D} (hc : X.calm = true) (hN : X.N.Nodup)
  {w0 w1' : Bool} (hw : w0 = true → tgt.isT = true) (hw1 : w1' = true → tgt1.isT = true) (hi : PI X tg iter (tI P false w0 fi)) (ok : BlkOk X.N X.env.scope scope own) (hg : ∀ (s : Shared) (H : Hp) (C : Addr) (cl : List (Str × Addr)) (fp : List Addr),PG (X.blk s H scope (compEnvC scope cl C X.env) fp) tg (gT P.nox tgt))
  (hi1 : ∀ (s : Shared) (H : Hp) (C : Addr) (cl : List (Str × Addr)) (fp : List Addr),PI (X.blk s H scope (compEnvC scope cl C X.env) fp) tg1 iter1 (tI P.nox true w1' fi1))
  (hg1 : ∀ (s : Shared) (H : Hp) (C : Addr) (cl : List (Str × Addr)) (fp : List Addr),PG (X.blk s H scope (compEnvC scope cl C X.env) fp) tg1 (gT P.nox tgt1))
  (he : ∀ (s : Shared) (H : Hp) (C : Addr) (cl : List (Str × Addr)) (fp : List Addr),PE (X.blk s H scope (compEnvC scope cl C X.env) fp) elt (tD P.nox fe)) (hs : ∀ x,foldedSetIterable iter X.env x = pure x) (hs1 : ∀ env x,foldedSetIterable iter1 env x = pure x) (hsl : ∀ i ∈ tgt.slots,i ∈ own.map (·.2)) (hsl1 : ∀ i ∈ tgt1.slots,i ∈ own.map (·.2)) :
  PE X (.ListComp elt [⟨tg,iter,[],0⟩,⟨tg1,iter1,[],0⟩] scope pos) (tN P (comp2E tgt (own.map (·.2)) fi tgt1 fi1 fe)):=
 peMono (pe_lc2 hc hN hi ok hsl1 hg (fun _ _ _ _ _=>c_none) hi1 hg1 (fun _ _ _ _ _=>c_none) he hs hs1) (comp2_read hw hw1 hsl)
end
end Fm
namespace Fm
open PySem PySem.Spec PyProof.Rows L2
section
variable {P : Pm} {X : Cx} {a1 a2 a3 : Expr} {f1 f2 f3 : Rho → Tw → Res D} {pos : Pos}
end
end Fm
namespace Fm
open PySem PySem.Spec PyProof.Rows L2
section
variable {P : Pm} {X : Cx} {a1 a2 : Expr} {f1 f2 : Rho → Tw → Res D} {pos : Pos}
end
end Fm
namespace Fm
open PySem PySem.Spec PyProof.Rows L2 PySem.W
section
variable {X : Cx} {pins : List (Addr × Obj)} {σ : L2.St} {H : Hp} {s : Shared}
abbrev PairK (X : Cx) (H : Hp) : List Addr → List (NestedKey × Addr × V) → Prop:=Paired fun t p=>SqT X.K H t [.ref p.2.1,p.2.2] ∧ NK X H p.2.1 p.1
abbrev PairU : List (NestedKey × Addr × V) → List (NestedKey × Addr × Value) → Prop:=Paired fun p u=>p.1 = u.1 ∧ p.2.1 = u.2.1 ∧ RelV p.2.2 u.2.2
theorem pairsN_of (I : Inv X pins σ H s) : ∀ {ts : List Addr} {ps : List (NestedKey × Addr × V)},PairK X H ts ps →
  ∃ us : List (NestedKey × Addr × Value),PairU ps us ∧ us.length = ts.length ∧ ∀ (j : Nat) (q : NestedKey × Addr × Value),us[j]? = some q → ∃ t,ts[j]? = some t ∧ IsTup s.heap t #[.ref q.2.1,q.2.2] ∧ NestedIs s.heap q.1 (.ref q.2.1) ∧ q.1.depth ≤ 8
 | _,_,.nil=>⟨[],.nil,rfl,fun j q e=>by simp at e⟩
 | _,_,.cons (a:=t) (b:=p) h r=>by
  obtain ⟨us,q1,q2,q3⟩:=pairsN_of I r
  obtain ⟨its,rv,ht,_⟩:=I.tuple h.1
  obtain ⟨u,y,ei,ru,ry⟩:=vals2 rv
  subst ei
  cases (show u = Value.ref p.2.1 from ru)
  refine ⟨(p.1,p.2.1,y) :: us,.cons ⟨rfl,rfl,ry⟩ q1,by rw [List.length_cons,List.length_cons,q2],fun j q e=>?_⟩
  cases j with
  | zero=>
   cases (show (p.1,p.2.1,y) = q from Option.some.inj e)
   exact ⟨t,rfl,ht,h.2 _ _ _ I⟩
  | succ j=>exact q3 j q (by simpa using e)
theorem plainT (I : Inv X pins σ H s) {a : Addr} {xs : List V} (h : SqT X.K H a xs) (n : NoD X.K H a) : ∃ its : List Value,Vals xs its ∧ PlainSeq "tuple" s.heap a its.toArray ∧ xs.length ≤ sizeLine:=by
 obtain ⟨its,r,⟨o,ho,hc,m,hd⟩,z⟩:=I.tuple h
 refine ⟨its,r,⟨o,m,ho,hc,?_,hd⟩,z⟩
 rcases n with ⟨o',xs',h1,h2⟩ | ⟨o',h1,h2⟩
 · obtain ⟨h3,_⟩:=I.hok a _ h1
   rw [ho] at h3
   cases h3
   exact h2
 · have h3:=I.kIn a o' h1
   rw [ho] at h3
   cases h3
   exact h2
def rDictN (X : Cx) : List V → Hp → VK → Prop:=fun xs H Q=>∃ (a : Addr) (ts : List Addr) (ps : List (NestedKey × Addr × V)),xs = [.ref a] ∧ ((SqT X.K H a (ts.map V.ref) ∧ NoD X.K H a) ∨ SqL X.K H a (ts.map V.ref)) ∧ PairK X H ts ps ∧
 ∀ q us,PairU ps us → H q = none → (q == sysModules) = false → Q (.ref q) (upd H q (DN X.prog X.w q (storedAllH [] us)))
theorem call_dictN (hc : X.calm = true) (hu : X.A.units + 200 < cLine) : CallR X (.type "dict") (rDictN X):=by
 intro pins s σ H xs vs Q I r h
 obtain ⟨a,ts,ps,ex,hq,hp,q⟩:=h
 subst ex
 obtain ⟨u,eu,rx⟩:=vals1 r
 subst eu
 cases rx
 obtain ⟨us,r1,r2,r3⟩:=pairsN_of I hp
 have items : ∀ (j : Nat) (k v : Value),(us.map fun q=>(Value.ref q.2.1,q.2.2))[j]? = some (k,v) → (ts.map Value.ref).toArray[j]? = some (.ref ((ts[j]?).getD 0)) ∧ PairAt s.heap ((ts[j]?).getD 0) k v:=fun j k v e=>by
  rw [List.getElem?_map] at e
  obtain ⟨q,e1,e2⟩:=Option.map_eq_some_iff.mp e
  cases e2
  obtain ⟨t,h1,h2,_⟩:=r3 j q e1
  rw [h1]
  exact ⟨by simp [h1],.inl h2⟩
 have pit : PairItems s.heap (ts.map Value.ref).toArray (fun j=>(ts[j]?).getD 0) (us.map fun q=>(Value.ref q.2.1,q.2.2)):=⟨by simp [r2],items⟩
 have hav : PairsHaveH (nestedKind X.prog X.w) (us.map fun q=>(Value.ref q.2.1,q.2.2)).length (PairRel (us.map fun q=>(Value.ref q.2.1,q.2.2))) us:=by
  refine ⟨by simp,fun i key v e=>?_⟩
  have e : (us.map fun q=>(Value.ref q.2.1,q.2.2))[i]? = some (key,v):=e
  rw [List.getElem?_map] at e
  obtain ⟨q,e1,e2⟩:=Option.map_eq_some_iff.mp e
  cases e2
  exact ⟨q.1,q.2.1,e1,rfl⟩
 have stay : KeysStay (nestedKind X.prog X.w) s.heap s.heap.objs.size [] us:=fun h' hk x hx=>by
  obtain ⟨j,hj⟩:=List.getElem?_of_mem hx
  obtain ⟨t,_,_,h3⟩:=r3 j x hj
  exact nestedKind_stays.all h' (fun b o _ e=>hk b o (Nat.ne_of_lt (Heap.lt_size e)) (by simp) e) _ _ h3
 have fin : ∀ h' tk,h'.DictOfH (nestedKind X.prog X.w) s.heap.objs.size (storedAllH [] us) → (∀ b o,b ∉ ([] : List Addr) → s.heap.get? b = some o → h'.get? b = some o) → EP X pins σ Q (.ref s.heap.objs.size) { s with heap:=h',toks:=tk }:=fun h' tk hd hk=>by
  exact ⟨.ref s.heap.objs.size,_,I.laid (t':=tk) (fun b o e=>hk b o (by simp) e) (Nat.le_refl _) (dn_ok hd),rfl,q _ us r1 (I.hok.fresh (Nat.le_refl _)) (beq_eq_false_iff_ne.mpr (Nat.ne_of_gt I.big))⟩
 have room : (nestedKind X.prog X.w).room X.A.in1.in1:=show X.A.in1.in1.units + 8 < cLine from Nat.lt_of_le_of_lt (by show X.A.units + 1 + 1 + 8 ≤ X.A.units + 200;omega) hu
 rcases hq with ⟨hq,hn⟩ | hq
 · obtain ⟨its,rv,pl,hz⟩:=plainT I hq hn
   have ei:=refs_at rv
   subst ei
   exact call_dict_pairsH (PairArg.tuple a _ (fun j=>(ts[j]?).getD 0) (us.map fun q=>(Value.ref q.2.1,q.2.2))) (I.ok.hd hc) room ⟨pl,pit⟩ hav stay (by rw [List.length_map] at hz ⊢;omega) fin
 · obtain ⟨its,rv,pl,hz⟩:=I.list hq
   have ei:=refs_at rv
   subst ei
   obtain ⟨o,n,ho,hc',hd,hdat⟩:=pl
   exact call_dict_pairsH (PairArg.list a _ (fun j=>(ts[j]?).getD 0) (us.map fun q=>(Value.ref q.2.1,q.2.2))) (I.ok.hd hc) room ⟨⟨o,n,ho,hc',hd,hdat⟩,pit⟩ hav stay (by rw [List.length_map] at hz ⊢;omega) fin
end
section
variable {P : Pm} {X : Cx} {a : Expr} {pos p1 : Pos} {fa : Rho → Tw → Res D}
theorem prs_rel {F H : Hp} (hK : X.K = P.K) (sub : Same F H) : ∀ {vs : List V} {ds : List D} {ps : List (NestedKey × D)},RpL P.K P.T F vs ds → prsN ds = some ps →
  ∃ ts kvs,vs = ts.map V.ref ∧ PairK X H ts kvs ∧ Paired (fun (kv : NestedKey × Addr × V) (p : NestedKey × D)=>kv.1 = p.1 ∧ p.1.depth ≤ 8 ∧ Rp P.K P.T F (.ref kv.2.1) (kdN p.1) ∧ Rp P.K P.T F kv.2.2 p.2) kvs ps
 | _,_,_,.nil,h=>by
  cases h
  exact ⟨[],[],rfl,.nil,.nil⟩
 | _,_,ps,@RpL.cons _ _ _ v vs d ds h1 h2,h=>by
  unfold prsN at h
  split at h
  · rename_i z;cases z
  · rename_i k w r z
    cases z
    obtain ⟨k',e1,h⟩:=Option.bind_eq_some_iff.mp h
    obtain ⟨ps',e2,rfl⟩:=Option.map_eq_some_iff.mp h
    obtain ⟨ts,kvs,rfl,q1,q2⟩:=prs_rel hK sub h2 e2
    obtain ⟨e3,e4⟩:=keyT_kd e1
    obtain ⟨xs,rfl⟩:=keyT_tup e1
    cases h1 with
    | @tup t us _ g1 g2 g3=>
     cases g3 with
     | @cons u1 _ _ _ g4 g5=>
      cases g5 with
      | @cons u2 _ _ _ g6 g7=>
       cases g7
       have g4':=g4
       rw [← e3] at g4'
       cases g4 with
       | @tup b _ _ g8 g9 g10=>
        exact ⟨t :: ts,(k',b,u2) :: kvs,rfl,.cons ⟨by rw [hK];exact sqP_t sub g1,fun _ _ _ I=>⟨nis I hK sub k' _ _ g4' rfl,e4⟩⟩ q1,.cons ⟨rfl,e4,g4',g6⟩ q2⟩
  · cases h
theorem puts_rel {K : PySem.W.Frag} {T : Tn} {F : Hp} : ∀ {kvs : List (NestedKey × Addr × V)} {ps : List (NestedKey × D)} {us xs : List (NestedKey × Addr × Value)} {es : List (NestedKey × D)},
  Paired (fun (kv : NestedKey × Addr × V) (p : NestedKey × D)=>kv.1 = p.1 ∧ p.1.depth ≤ 8 ∧ Rp K T F (.ref kv.2.1) (kdN p.1) ∧ Rp K T F kv.2.2 p.2) kvs ps → PairU kvs us → RpN K T F xs es → (xs.map (·.1)).Nodup →
  RpN K T F (storedAllH xs us) (putsN es ps) ∧ ((storedAllH xs us).map (·.1)).Nodup ∧ (storedAllH xs us).length ≤ xs.length + ps.length
 | _,_,_,xs,es,.nil,.nil,q,n=>⟨q,n,Nat.le_refl _⟩
 | _,_,_,xs,es,.cons (a:=kv) (b:=p) h1 h2,.cons (b:=u) g1 g2,q,n=>by
  obtain ⟨a1,a2,a3,a4⟩:=h1
  obtain ⟨b1,b2,b3⟩:=g1
  rw [a1] at b1
  rw [b2] at a3
  have q':=q.put (k:=p.1) (b:=u.2.1) a3 a2 b3 a4
  have n':=storedH_nodup xs p.1 u.2.1 u.2.2 n
  obtain ⟨c1,c2,c3⟩:=puts_rel h2 g2 q' n'
  have l:=storedH_len xs p.1 u.2.1 u.2.2
  have e : ∀ l,storedAllH xs (u :: l) = storedAllH (storedH xs p.1 u.2.1 u.2.2) l:=fun l=>by
   unfold storedAllH
   rw [List.foldl_cons,← b1]
  rw [e]
  exact ⟨c1,c2,by rw [List.length_cons];omega⟩
theorem cn_dictN (hK : X.K = P.K) (hpw : P.T.pg = X.prog ∧ P.T.wo = X.w) (hc : X.calm = true) (hu : X.A.units + 200 < cLine) : CallN P X (.type "dict") (blt1 .dictN):=by
 refine ⟨_,call_dictN hc hu,fun {x dx d F r t σ H Q} e R rx q=>?_⟩
 have fin : ∀ {vs : List V} {ds : List D} {a : Addr} {ps : List (NestedKey × D)},prsN ds = some ps → d = .dcn (putsN [] ps) → RpL P.K P.T F vs ds → vs.length ≤ sizeLine → ((SqT X.K H a vs ∧ NoD X.K H a) ∨ SqL X.K H a vs) → rDictN X [.ref a] H Q:=fun {vs ds a ps} e1 e2 h1 hz h2=>by
  obtain ⟨ts,kvs,rfl,q1,q2⟩:=prs_rel hK R.sub h1 e1
  refine ⟨a,ts,kvs,rfl,h2,q1,fun p us hus hp hs=>?_⟩
  obtain ⟨c1,c2,c3⟩:=puts_rel q2 hus (xs:=[]) (es:=[]) .nil .nil
  subst e2
  have hl : (storedAllH [] us).length ≤ sizeLine:=by
   have l1 : ts.length = kvs.length:=Paired.length q1
   have l2 : kvs.length = ps.length:=Paired.length q2
   rw [List.length_map] at hz
   simp at c3
   omega
  obtain ⟨R2,k2,fr⟩:=mkNew (o:=DN P.T.pg P.T.wo p (storedAllH [] us)) (d:=.dcn (putsN [] ps)) R hp ⟨_,upd_same,⟨hs,c2⟩,hl,c1⟩
  rw [← hpw.1,← hpw.2]
  exact q _ _ _ p k2 R2 (.of hp) fr
 cases dx with
 | lst ds=>
  obtain ⟨ps,e1,e2⟩:=Option.map_eq_some_iff.mp (show (prsN ds).map (fun ps=>D.dcn (putsN [] ps)) = some d from e)
  obtain ⟨p1,v1,rfl,g2,z1,g1⟩:=rx.lst R
  exact fin e1 e2.symm g1 z1 (.inr (SqL.of g2))
 | tup ds=>
  obtain ⟨ps,e1,e2⟩:=Option.map_eq_some_iff.mp (show (prsN ds).map (fun ps=>D.dcn (putsN [] ps)) = some d from e)
  obtain ⟨p1,v1,rfl,g2,z1,g1⟩:=rx.tup R
  exact fin e1 e2.symm g1 z1 (.inl ⟨by rw [hK];exact sqP_t R.sub g2,by rw [hK];exact noD_mono R.sub g2.2⟩)
 | _=>cases e
end
end Fm
namespace Fm
open PySem PySem.Spec PyProof.Rows L2
section
variable {X : Cx} {pins : List (Addr × Obj)} {σ : L2.St} {H : Hp} {s : Shared}
end
end Fm
namespace Fm
open PySem PySem.Spec PyProof.Rows L2 PySem.W
section
variable {X : Cx} {pins : List (Addr × Obj)} {σ : L2.St} {H : Hp} {s : Shared}
abbrev PairV (X : Cx) (H : Hp) : List Addr → List (Key × V) → Prop:=Paired fun t p=>SqT X.K H t [kV p.1,p.2]
theorem pairsK_of (I : Inv X pins σ H s) : ∀ {ts : List Addr} {ps : List (Key × V)},PairV X H ts ps →
  ∃ us : List (Key × Value × Value),Paired (fun (p : Key × V) (u : Key × Value × Value)=>p.1 = u.1 ∧ RelV (kV p.1) u.2.1 ∧ RelV p.2 u.2.2) ps us ∧ us.length = ts.length ∧ ∀ (j : Nat) (q : Key × Value × Value),us[j]? = some q → ∃ t,ts[j]? = some t ∧ IsTup s.heap t #[q.2.1,q.2.2]
 | _,_,.nil=>⟨[],.nil,rfl,fun j q e=>by simp at e⟩
 | _,_,.cons (a:=t) (b:=p) h r=>by
  obtain ⟨us,q1,q2,q3⟩:=pairsK_of I r
  obtain ⟨its,rv,ht,_⟩:=I.tuple h
  obtain ⟨u,y,ei,ru,ry⟩:=vals2 rv
  subst ei
  refine ⟨(p.1,u,y) :: us,.cons ⟨rfl,ru,ry⟩ q1,by rw [List.length_cons,List.length_cons,q2],fun j q e=>?_⟩
  cases j with
  | zero=>
   cases (show (p.1,u,y) = q from Option.some.inj e)
   exact ⟨t,rfl,ht⟩
  | succ j=>exact q3 j q (by simpa using e)
def rDictK (X : Cx) : List V → Hp → VK → Prop:=fun xs H Q=>∃ (a : Addr) (ts : List Addr) (ps : List (Key × V)),xs = [.ref a] ∧ ((SqT X.K H a (ts.map V.ref) ∧ NoD X.K H a) ∨ SqL X.K H a (ts.map V.ref)) ∧ PairV X H ts ps ∧
 ∀ q,H q = none → Q (.ref q) (upd H q (.dK (mergeK [] ps)))
theorem call_dictK (hc : X.calm = true) : CallR X (.type "dict") (rDictK X):=by
 intro pins s σ H xs vs Q I r h
 obtain ⟨a,ts,ps,ex,hq,hp,q⟩:=h
 subst ex
 obtain ⟨u,eu,rx⟩:=vals1 r
 subst eu
 cases rx
 obtain ⟨us,r1,r2,r3⟩:=pairsK_of I hp
 have items : ∀ (j : Nat) (k v : Value),(us.map fun q=>(q.2.1,q.2.2))[j]? = some (k,v) → (ts.map Value.ref).toArray[j]? = some (.ref ((ts[j]?).getD 0)) ∧ PairAt s.heap ((ts[j]?).getD 0) k v:=fun j k v e=>by
  rw [List.getElem?_map] at e
  obtain ⟨q,e1,e2⟩:=Option.map_eq_some_iff.mp e
  cases e2
  obtain ⟨t,h1,h2⟩:=r3 j q e1
  rw [h1]
  exact ⟨by simp [h1],.inl h2⟩
 have pit : PairItems s.heap (ts.map Value.ref).toArray (fun j=>(ts[j]?).getD 0) (us.map fun q=>(q.2.1,q.2.2)):=⟨by simp [r2],items⟩
 have hav : PairsHave (mixKind X.prog X.w) (us.map fun q=>(q.2.1,q.2.2)).length (PairRel (us.map fun q=>(q.2.1,q.2.2))) (us.map fun q=>(q.1,q.2.2)):=by
  refine ⟨by simp,fun i key v e=>?_⟩
  have e : (us.map fun q=>(q.2.1,q.2.2))[i]? = some (key,v):=e
  rw [List.getElem?_map] at e
  obtain ⟨q,e1,e2⟩:=Option.map_eq_some_iff.mp e
  cases e2
  refine ⟨q.1,by rw [List.getElem?_map,e1];rfl,?_⟩
  have aux : ∀ {ps : List (Key × V)} {us : List (Key × Value × Value)},Paired (fun (p : Key × V) (u : Key × Value × Value)=>p.1 = u.1 ∧ RelV (kV p.1) u.2.1 ∧ RelV p.2 u.2.2) ps us → ∀ {i : Nat} {q : Key × Value × Value},us[i]? = some q → RelV (kV q.1) q.2.1:=by
   intro ps us r
   induction r with
   | nil=>intro i q e;simp at e
   | cons h r ih=>
    intro i q e
    cases i with
    | zero=>
     cases (show _ = q from Option.some.inj e)
     rw [← h.1]
     exact h.2.1
    | succ i=>exact ih (by simpa using e)
  exact kV_is (aux r1 e1)
 have rel : KV ps (us.map fun q=>(q.1,q.2.2)):=by
  clear items pit hav r2 r3 q hp hq
  induction r1 with
  | nil=>exact .nil
  | cons h r ih=>exact .cons ⟨h.1,h.2.2⟩ ih
 have lps : ps.length = us.length:=Paired.length r1
 have fin : ps.length ≤ sizeLine → ∀ h' tk,h'.DictOf (mixKind X.prog X.w) s.heap.objs.size (merged [] (us.map fun q=>(q.1,q.2.2))) → (∀ b o,b ∉ ([] : List Addr) → s.heap.get? b = some o → h'.get? b = some o) → EP X pins σ Q (.ref s.heap.objs.size) { s with heap:=h',toks:=tk }:=fun hz h' tk hd hk=>by
  have hl:=length_mergeK ps []
  simp at hl
  exact ⟨.ref s.heap.objs.size,_,I.laid (t':=tk) (fun b o e=>hk b o (by simp) e) (Nat.le_refl _) (dk_new (Nat.le_trans hl hz) (beq_eq_false_iff_ne.mpr (Nat.ne_of_gt I.big)) (rel.merge .nil) hd),rfl,q _ (I.hok.fresh (Nat.le_refl _))⟩
 rcases hq with ⟨hq,hn⟩ | hq
 · obtain ⟨its,rv,pl,hz⟩:=plainT I hq hn
   have ei:=refs_at rv
   subst ei
   rw [List.length_map] at hz
   exact call_dict_pairs (PairArg.tuple a _ (fun j=>(ts[j]?).getD 0) (us.map fun q=>(q.2.1,q.2.2))) (I.ok.hd hc) ⟨pl,pit⟩ hav (by rw [List.length_map];omega) (fin (by omega))
 · obtain ⟨its,rv,pl,hz⟩:=I.list hq
   have ei:=refs_at rv
   subst ei
   rw [List.length_map] at hz
   obtain ⟨o,n,ho,hc',hd,hdat⟩:=pl
   exact call_dict_pairs (PairArg.list a _ (fun j=>(ts[j]?).getD 0) (us.map fun q=>(q.2.1,q.2.2))) (I.ok.hd hc) ⟨⟨o,n,ho,hc',hd,hdat⟩,pit⟩ hav (by rw [List.length_map];omega) (fin (by omega))
end
section
variable {P : Pm} {X : Cx} {a b : Expr} {pos p1 p2 : Pos} {fa fb : Rho → Tw → Res D}
theorem prsK_rel {F H : Hp} (hK : X.K = P.K) (sub : Same F H) : ∀ {vs : List V} {ds : List D} {ps : List (Key × D)},RpL P.K P.T F vs ds → prsK ds = some ps →
  ∃ ts kvs,vs = ts.map V.ref ∧ PairV X H ts kvs ∧ RpK P.K P.T F kvs ps
 | _,_,_,.nil,h=>by
  cases h
  exact ⟨[],[],rfl,.nil,.nil⟩
 | _,_,ps,@RpL.cons _ _ _ v vs d ds h1 h2,h=>by
  unfold prsK at h
  split at h
  · rename_i z;cases z
  · rename_i k w r z
    cases z
    obtain ⟨k',e1,h⟩:=Option.bind_eq_some_iff.mp h
    obtain ⟨ps',e2,rfl⟩:=Option.map_eq_some_iff.mp h
    obtain ⟨ts,kvs,rfl,q1,q2⟩:=prsK_rel hK sub h2 e2
    cases h1 with
    | @tup t us _ g1 g2 g3=>
     cases g3 with
     | @cons u1 _ _ _ g4 g5=>
      cases g5 with
      | @cons u2 _ _ _ g6 g7=>
       cases g7
       have eu : u1 = kV k':=by
        cases g4 <;> first | (cases e1;done) | (cases e1;rfl)
       subst eu
       exact ⟨t :: ts,(k',u2) :: kvs,rfl,.cons (by rw [hK];exact sqP_t sub g1) q1,.cons g6 q2⟩
  · cases h
theorem join_rel {K : PySem.W.Frag} {T : Tn} {F : Hp} : ∀ {more : List (Key × V)} {ps : List (Key × D)} {kvs : List (Key × V)} {es : List (Key × D)},RpK K T F more ps → RpK K T F kvs es → RpK K T F (mergeK kvs more) (joinD es ps)
 | _,_,_,_,.nil,q=>q
 | _,_,_,_,@RpK.cons _ _ _ k v kvs' d es' h r,q=>join_rel (more:=kvs') (ps:=es') r (q.put k h)
theorem cn_dictK (hK : X.K = P.K) (hc : X.calm = true) : CallN P X (.type "dict") (blt1 .dictK):=by
 refine ⟨_,call_dictK hc,fun {x dx d F r t σ H Q} e R rx q=>?_⟩
 have fin : ∀ {vs : List V} {ds : List D} {a : Addr} {ps : List (Key × D)},prsK ds = some ps → d = .dct (joinD [] ps) → RpL P.K P.T F vs ds → vs.length ≤ sizeLine → ((SqT X.K H a vs ∧ NoD X.K H a) ∨ SqL X.K H a vs) → rDictK X [.ref a] H Q:=fun {vs ds a ps} e1 e2 h1 hz h2=>by
  obtain ⟨ts,kvs,rfl,q1,q2⟩:=prsK_rel hK R.sub h1 e1
  refine ⟨a,ts,kvs,rfl,h2,q1,fun p hp=>?_⟩
  subst e2
  have hl : (mergeK [] kvs).length ≤ sizeLine:=by
   have l0:=length_mergeK kvs []
   have l1 : ts.length = kvs.length:=Paired.length q1
   rw [List.length_map] at hz
   simp at l0
   omega
  obtain ⟨R2,k2,fr⟩:=mkNew (o:=.dK (mergeK [] kvs)) (d:=.dct (joinD [] ps)) R hp ⟨_,upd_same,hl,join_rel q2 .nil⟩
  exact q _ _ _ p k2 R2 (.of hp) fr
 cases dx with
 | lst ds=>
  obtain ⟨ps,e1,e2⟩:=Option.map_eq_some_iff.mp (show (prsK ds).map (fun ps=>D.dct (joinD [] ps)) = some d from e)
  obtain ⟨p1,v1,rfl,g2,z1,g1⟩:=rx.lst R
  exact fin e1 e2.symm g1 z1 (.inr (SqL.of g2))
 | tup ds=>
  obtain ⟨ps,e1,e2⟩:=Option.map_eq_some_iff.mp (show (prsK ds).map (fun ps=>D.dct (joinD [] ps)) = some d from e)
  obtain ⟨p1,v1,rfl,g2,z1,g1⟩:=rx.tup R
  exact fin e1 e2.symm g1 z1 (.inl ⟨by rw [hK];exact sqP_t R.sub g2,by rw [hK];exact noD_mono R.sub g2.2⟩)
 | _=>cases e
end
section
variable {P : Pm} {X : Cx} {a b : Expr} {pos p1 p2 : Pos} {fa fb : Rho → Tw → Res D}
end
mutual
theorem reads_lt {h : Heap} : ∀ {v : Value} {d : PyData} {as : List Addr},Reads h v d as → ∀ a ∈ as,a < h.objs.size
 | _,_,_,.none,a,m=>nomatch m
 | _,_,_,.bool _,a,m=>nomatch m
 | _,_,_,.int _ _,a,m=>nomatch m
 | _,_,_,.str _ _,a,m=>nomatch m
 | _,_,_,.list h1 h2 h3 h4,a,m=>by
  rcases List.mem_cons.mp m with rfl | m
  · exact Heap.lt_size h1
  · exact readsAll_lt h4 a m
 | _,_,_,.tuple h1 h2 h3 h4,a,m=>readsAll_lt h4 a m
 | _,_,_,.dict h1 h2 h3 h4 h5,a,m=>by
  rcases List.mem_append.mp m with m | m
  · rcases List.mem_cons.mp m with rfl | m
    · exact Heap.lt_size h1
    · exact readsAll_lt h4 a m
  · exact readsAll_lt h5 a m
theorem readsAll_lt {h : Heap} : ∀ {v : List Value} {d : List PyData} {as : List Addr},ReadsAll h v d as → ∀ a ∈ as,a < h.objs.size
 | _,_,_,.nil,a,m=>nomatch m
 | _,_,_,.cons h1 h2,a,m=>(List.mem_append.mp m).elim (reads_lt h1 a) (readsAll_lt h2 a)
end
section
variable {X : Cx} {pins : List (Addr × Obj)} {σ : L2.St} {H : Hp} {s : Shared}
end
section
variable {P : Pm} {X : Cx} {a : Expr} {pos p1 p2 p3 : Pos} {fa : Rho → Tw → Res D}
end
end Fm
namespace Fm
open PySem PySem.Spec PyProof.Rows L2 PySem.W
structure Bk (X : Cx) (pins : List (Addr × Obj)) (σ : L2.St) (H3 : Hp) (s3 : Shared) (fp : List Addr) (ce : Env) : Prop where
 I : Inv X pins σ H3 s3
 foot : ∀ b ∈ fp,FpOk X pins H3 b
 loc : ce.locals = s3.heap.objs.size
section
variable {X : Cx} {pins : List (Addr × Obj)} {σ σ' : L2.St} {H3 H' : Hp} {s3 s' : Shared} {fp : List Addr} {ce : Env} {scope : Scope}
theorem blk_foot (I' : Inv (X.blk s3 H3 scope ce fp) [] σ' H' s') (none_ : ∀ b ∈ fp,H' b = none) : ∀ b ∈ fp,FpOk (X.blk s3 H3 scope ce fp) [] H' b:=fun b hb=>
 have out:=I'.ok.exf b hb
 ⟨none_ b hb,out.1,I'.ok.exfs b hb,.inl hb,out.2,fun p hp=>by cases (show p ∈ ([] : List (Addr × Obj)) from hp)⟩
theorem Bk.back (B : Bk X pins σ H3 s3 fp ce) (I' : Inv (X.blk s3 H3 scope ce fp) [] σ' H' s') : Inv X pins σ H' s':=
 B.I.call' (ch:=fp) I'.os I'.base I'.hok I'.bare fun b hb=>let ⟨_,a,_,c,d,e⟩:=B.foot b hb;⟨c,a,d,e⟩
theorem turned_ok {P : Program} {w : World} {K : PySem.W.Frag} {tg : Expr} {J : It} {it : Addr} {tn : Nat → Heap → Prop} {Y : Cx} {pl : List (Addr × Obj)} {σ0 σ8 : L2.St} {s7 : Shared} {i : Nat} (T : Turn P w K tg J fp it tn) (st : tn i s7.heap) (I' : Inv Y (pl ++ pinsAt fp s7.heap) σ8 H' s')
  (len : σ0.length = σ8.length) (knew : ∀ (j : Nat) v,σ0[j]? = some (some v) → σ8[j]? = some (some v)) : Inv Y pl σ0 H' s' ∧ tn i s'.heap ∧ ∀ b ∈ fp,H' b = none:=by
 have pin : ∀ b ∈ fp,∀ o,s7.heap.get? b = some o → s'.heap.get? b = some o ∧ H' b = none:=fun b hb o e=>
  (I'.pin (b,o) (by simp [mem_pinsAt hb e])).imp_right And.left
 exact ⟨I'.unpinned.weak len knew,T.keep _ _ _ st fun b hb o e=>(pin b hb o e).1,fun b hb=>let ⟨o,e,_⟩:=T.obj _ _ st b hb;(pin b hb o e).2⟩
theorem wiped {vs : List Nat} {σ8 : L2.St} (hw : wipe σ8 vs = wipe σ vs) : (wipe σ vs).length = σ8.length ∧ ∀ (j : Nat) v,(wipe σ vs)[j]? = some (some v) → σ8[j]? = some (some v):=
 hw ▸ ⟨wipe_length _ _,fun _ _ e=>(wipe_some e).1⟩
end
section
variable {X : Cx} {pins : List (Addr × Obj)} {σ : L2.St} {H : Hp} {s : Shared} {Q : VK}
end
end Fm
namespace Fm
open PySem PySem.Spec PyProof.Rows L2 PySem.W
section
variable {X : Cx}
abbrev InBlk (X : Cx) (scope : Scope) (p : Cx → Prop) : Prop:=∀ (s : Shared) (H : Hp) (C : Addr) (cl : List (Str × Addr)) (fp : List Addr),p (X.blk s H scope (compEnvC scope cl C X.env) fp)
end
section
variable {P : Pm} {X : Cx}
def dpE (fk fv : Rho → Tw → Res D) (r : Rho) (t : Tw) : Res D:=(fk r t).bind fun x t1=>(fv r t1).bind fun y t2=>.ok (.tup [x,y]) t2
structure CInvN (P : Pm) (f : D → Tw → Res (Option D)) (r : Rho) (σ : L2.St) (F1 H1 : Hp) (D : Addr) (ds : List Fm.D) (fin : List (NestedKey × Fm.D)) (t2 : Tw) (i : Nat) (H : Hp) (F2 : Hp) (t' : Tw) (xs : List (NestedKey × Addr × Value)) (es : List (NestedKey × Fm.D)) (rest : List Fm.D) (ps : List (NestedKey × Fm.D)) : Prop where
 k : Kp P.T F1 H1 F2 H
 R : RelP P F2 r t' σ H
 d : H D = some (DN P.T.pg P.T.wo D xs)
 q : RpN P.K P.T F2 xs es
 nd : (xs.map (·.1)).Nodup
 l : xs.length ≤ i
 e : compL f (ds.drop i) t' = .ok rest t2
 p : prsN rest = some ps
 y : fin = putsN es ps
theorem compL_exc {tg : Tg} {vs : List Nat} {fc : Rho → Tw → Res (Option D)} {fe : Rho → Tw → Res D} {r : Rho} : ∀ (l : List D) (t : Tw) (n : Nat) (t2 : Tw),compL (turnE tg vs fc fe r) l t ≠ .exc n t2
 | [],t,n,t2,z=>by cases z
 | d :: l,t,n,t2,z=>by
  unfold compL at z
  split at z
  · rename_i o t3 _
    cases e4 : compL (turnE tg vs fc fe r) l t3 with
    | ok a b=>
     rw [e4] at z
     cases z
    | exc a b=>exact compL_exc l _ _ _ e4
    | bad=>
     rw [e4] at z
     cases z
  · cases z
theorem dp_ok {fk fv : Rho → Tw → Res D} {r : Rho} {t t1 : Tw} {x : D} (h : dpE fk fv r t = .ok x t1) : ∃ dx dy tk,fk r t = .ok dx tk ∧ fv r tk = .ok dy t1 ∧ x = .tup [dx,dy]:=by
 unfold dpE at h
 cases e1 : fk r t with
 | ok dx tk=>
  rw [e1] at h
  simp only [Res.bind_ok] at h
  cases e2 : fv r tk with
  | ok dy t2=>
   rw [e2] at h
   simp only [Res.bind_ok] at h
   cases h
   exact ⟨dx,dy,tk,rfl,e2,rfl⟩
  | exc n t2=>rw [e2] at h;cases h
  | bad=>rw [e2] at h;cases h
 | exc n t2=>rw [e1] at h;cases h
 | bad=>rw [e1] at h;cases h
end
end Fm
namespace Fm
open PySem PySem.Spec PyProof.Rows L2 PySem.W PySem.Froz
structure TxW (P : Program) (w : World) (D : SD) (l : List Str) : Prop where
 ok : TxOk P w D l
 once : l.Nodup
 txt : ∀ e ∈ D.1.toList,∃ k tk,e.2 = Value.str k tk
 ris : Ris D.2.2.place.toList
 led : w.params.followText "set-order" = true ∨ D.2.2.led = true
def SetX (P : Program) (w : World) (h : Heap) (a : Addr) (l : List Str) : Prop:=∃ D : SD,h.get? a = some (sObj "set" D) ∧ TxW P w D l
section
variable {P : Program} {w : World} {A : Around} {E : Value → Shared → Prop} {s : Shared} {a : Addr} {l : List Str} {D : SD}
theorem tailTx_keeps {ep : Nat} {es : Array (Int × Value)} {t : SetTable} {b : Bool} (r : Ris t.place.toList) : (tailTx ep es t b).1.toList.Perm es.toList ∧ Ris (tailTx ep es t b).2.2.place.toList ∧ (tailTx ep es t b).2.2.led = t.led:=by
 unfold tailTx
 split
 · exact ⟨relayAll_perm _ _ _,relayAll_ris _ _ _,relayAll_led _ _ _⟩
 · exact ⟨.refl _,r,rfl⟩
theorem TxW.add {k : Str} (tk : Tok) (T : TxW P w D l) (new : k ∉ l) : TxW P w (addTx (hashStr w k) (.str k tk) D) (k :: l):=by
 obtain ⟨es,ep,t⟩:=D
 have perm:=layNew_perm t es (hashStr w k) (.str k tk)
 have ris:=layNew_ris t es (hashStr w k) (.str k tk) T.ris
 have led:=layNew_led t es (hashStr w k) (.str k tk)
 have ris2 : Ris (if (layNew t es (hashStr w k) (.str k tk)).2.1.plain = true then { (layNew t es (hashStr w k) (.str k tk)).2.1 with plain:=false } else (layNew t es (hashStr w k) (.str k tk)).2.1 : SetTable).place.toList:=by split <;> exact ris
 have led2 : (if (layNew t es (hashStr w k) (.str k tk)).2.1.plain = true then { (layNew t es (hashStr w k) (.str k tk)).2.1 with plain:=false } else (layNew t es (hashStr w k) (.str k tk)).2.1 : SetTable).led = t.led:=by split <;> exact led
 obtain ⟨p,r,d⟩:=tailTx_keeps (ep:=ep) (es:=(layNew t es (hashStr w k) (.str k tk)).1) (b:=(layNew t es (hashStr w k) (.str k tk)).2.2.1) ris2
 refine ⟨add_ok tk T.ok,List.nodup_cons.mpr ⟨new,T.once⟩,fun e he=>?_,r,T.led.imp id fun z=>(d.trans led2).trans z⟩
 have m:=perm.mem_iff.mp (p.mem_iff.mp he)
 rw [Array.toList_push,List.mem_append,List.mem_singleton] at m
 exact m.elim (T.txt e) fun q=>⟨k,tk,q ▸ rfl⟩
theorem SetX.kept {h h' : Heap} (R : SetX P w h a l) (k : ∀ o,h.get? a = some o → h'.get? a = some o) : SetX P w h' a l:=let ⟨D,at_,T⟩:=R;⟨D,k _ at_,T⟩
def txtOf (v : Value) : Str:=match v with
 | .str k _=>k
 | _=>""
theorem perm_of_once : ∀ {l m : List Str},l.Nodup → m.length = l.length → (∀ k ∈ l,k ∈ m) → m.Perm l
 | [],m,_,len,_=>by rw [List.length_eq_zero_iff.mp len]
 | k :: l,m,once,len,sub=>by
  obtain ⟨out,once⟩:=List.nodup_cons.mp once
  have here:=sub k List.mem_cons_self
  have ih:=perm_of_once (m:=m.erase k) once (by rw [List.length_erase_of_mem here,len];rfl) fun j mj=>(List.mem_erase_of_ne (a:=j) (b:=k) (by rintro rfl;exact out mj)).mpr (sub j (List.mem_cons_of_mem _ mj))
  exact (List.perm_cons_erase here).trans (ih.cons k)
theorem TxW.keys (T : TxW P w D l) : ((D.1.toList.map fun e=>txtOf e.2)).Perm l:=by
 have is : ∀ e ∈ D.1.toList,∀ k,(strKind P w).is k e.2 = true ↔ txtOf e.2 = k:=fun e he k=>by
  obtain ⟨j,tk,ev⟩:=T.txt e he
  rw [ev]
  exact ⟨fun q=>(strKind P w).inj _ _ _ (is_str j tk) q,by rintro rfl;exact is_str _ tk⟩
 have mem : ∀ k,k ∈ D.1.toList.map (fun e=>txtOf e.2) ↔ k ∈ l:=fun k=>by
  rw [T.ok.mem k,List.mem_map]
  exact ⟨fun ⟨e,he,q⟩=>⟨e,he,(is e he k).mpr q⟩,fun ⟨e,he,q⟩=>⟨e,he,(is e he k).mp q⟩⟩
 have len : (D.1.toList.map fun e=>txtOf e.2).length = l.length:=by rw [List.length_map,Array.length_toList];exact T.ok.sz
 exact perm_of_once T.once len fun k m=>(mem k).mpr m
def gath : List Str → List Str → List Str
 | l,[]=>l
 | l,k :: ks=>gath (if k ∈ l then l else k :: l) ks
end
end Fm
namespace Fm
open PySem PySem.Spec PyProof.Rows L2 PySem.W PySem.Froz
section
variable {P : Program} {w : World} {A : Around} {E : Value → Shared → Prop} {s : Shared}
end
end Fm
namespace Fm
open PySem PySem.Spec PyProof.Rows L2 PySem.W
def SetXO (P : Program) (w : World) (a : Addr) (l : List Str) : HO:=.ext fun h=>SetX P w h a l
section
variable {X : Cx}
end
end Fm
namespace Fm
open PySem PySem.Spec PyProof.Rows L2 PySem.W
section
variable {P : Pm} {X : Cx} {a : Expr} {pos p1 p2 p3 : Pos} {fa : Rho → Tw → Res D}
end
end Fm
namespace Fm
open PySem PySem.Spec PyProof.Rows L2 PySem.W PySem.Froz
section
variable {elt t0 i0 t1 i1 : Expr} {scope : Scope} {pos : Pos} {it acc : Value} {env : Env}
variable {prog : Program} {w : World} {A : Around} {R : Result → Shared → Prop} {s : Shared}
end
section
variable {X : Cx}
end
end Fm
namespace Fm
open PySem PySem.Spec PyProof.Rows L2 PySem.W PySem.Froz
section
variable {P : Pm} {X : Cx}
structure S2 (P : Pm) (r r2 : Rho) (σ σ2 : L2.St) (F1 H1 F5 : Hp) (D : Addr) (f : Fm.D → Tw → Res (Option Fm.D)) (es : List Fm.D) (t3 : Tw) (rest' : List Fm.D) (G : List Str) (j : Nat) (H F6 : Hp) (t6 : Tw) (l : List Str) (restI : List Fm.D) (ks : List Str) : Prop where
 k : Kp P.T F1 H1 F6 H
 R : RelP P F6 r t6 σ H
 R2 : RelP P F6 r2 t6 σ2 H
 d : H D = some (SetXO P.T.pg P.T.wo D l)
 e : compL f (es.drop j) t6 = .ok restI t3
 y : strsD (restI ++ rest') = some ks
 g : gath l ks = G
 n : l.length + ks.length ≤ 62
 nd : l.Nodup
 fD : F6 D = none
 s : Same F5 F6
end
end Fm
namespace Fm
open PySem PySem.Spec PyProof.Rows L2 PySem.W
section
variable {P : Pm} {X : Cx}
def dcompKE (tg : Tg) (vs : List Nat) (fi : Rho → Tw → Res (List D)) (fk fv : Rho → Tw → Res D) (r : Rho) (t : Tw) : Res D:=
 (fi r t).bind fun xs t1=>if okLen xs.length then (compL (turnE tg vs noC (dpE fk fv) r) xs t1).bind fun ys t2=>(match prsK ys with
  | some ps=>.ok (.dct (joinD [] ps)) t2
  | none=>.bad) else .bad
structure CInvK (P : Pm) (f : D → Tw → Res (Option D)) (r : Rho) (σ : L2.St) (F1 H1 : Hp) (D : Addr) (ds : List Fm.D) (fin : List (Key × Fm.D)) (t2 : Tw) (i : Nat) (H : Hp) (F2 : Hp) (t' : Tw) (xs : List (Key × V)) (es : List (Key × Fm.D)) (rest : List Fm.D) (ps : List (Key × Fm.D)) : Prop where
 k : Kp P.T F1 H1 F2 H
 R : RelP P F2 r t' σ H
 d : H D = some (.dK xs)
 q : RpK P.K P.T F2 xs es
 l : xs.length ≤ i
 e : compL f (ds.drop i) t' = .ok rest t2
 p : prsK rest = some ps
 y : fin = joinD es ps
theorem dcompK_read {tg : Tg} {vs : List Nat} {fi : Rho → Tw → Res (List D)} {fk fv : Rho → Tw → Res D} {w0 : Bool} (hK : X.K = P.K) (hw : w0 = true → tg.isT = true) (hsl : ∀ i ∈ tg.slots,i ∈ vs) (σ : L2.St) (H : Hp) (Q : VK) (h : tN P (dcompKE tg vs fi fk fv) σ H Q) :
  tDc (tI P false w0 fi) (gT P.nox tg) (tC1 P.nox noC) (tD P.nox fk) (tD P.nox fv) vs σ H Q:=by
 obtain ⟨F,r,t,R,h⟩:=h
 refine ⟨F,r,t,R,h.bind.mono fun ds t1 h J F1 H1 s1 R1 w D hD=>?_⟩
 have w : WD P w0 J (keepG P F1 H1) F1 ds:=w
 split at h
 rotate_left
 · exact h.elim
 rename_i hok
 obtain ⟨ys,ps,t2,ec,ep,h⟩ : ∃ ys ps t2,compL (turnE tg vs noC (dpE fk fv) r) ds t1 = .ok ys t2 ∧ prsK ys = some ps ∧ ∀ v F' H' p,Kp P.T F H F' H' → RelP P F' r t2 σ H' → Nn H p → Fre P F' r σ H' v (.dct (joinD [] ps)) p → Q v H':=by
  cases e : compL (turnE tg vs noC (dpE fk fv) r) ds t1 with
  | ok ys t2=>
   rw [e] at h
   simp only [Res.bind_ok] at h
   cases ep : prsK ys with
   | none=>
    rw [ep] at h
    exact h.elim
   | some ps=>
    rw [ep] at h
    exact ⟨ys,ps,t2,rfl,ep,h⟩
  | exc n t2=>exact (compL_exc _ _ _ _ e).elim
  | bad=>
   rw [e] at h
   exact h.elim
 have nTa : D ≠ P.T.a:=fun e=>by
  rw [e,R1.tw.a] at hD
  cases hD
 have nTb : D ≠ P.T.b:=fun e=>by
  rw [e,R1.tw.b] at hD
  cases hD
 have no : ∀ (i : Nat) (e : Fm.D),r[i]? = some (.own e) → σ[i]? ≠ some (some (.ref D)):=fun i e h1 h2=>by
  obtain ⟨q,e1,w⟩:=R1.own i e h1
  rw [h2] at e1
  cases e1
  obtain ⟨o2,ho,_⟩:=w.at_.obj
  rw [hD] at ho
  cases ho
 have b0:=R1.toRelH.newO (o:=.dK []) hD
 refine ⟨fun i m H=>m = ds.length - i ∧ i ≤ ds.length ∧ ∃ F2 t' xs es rest ps',CInvK P (turnE tg vs noC (dpE fk fv) r) r σ F1 H1 D ds (joinD [] ps) t2 i H F2 t' xs es rest ps' ∧ F2 D = none,⟨ds.length,by simp,Nat.zero_le _,F1,t1,[],[],ys,ps,?_,?_⟩,fun i m H2 hW=>?_⟩
 · exact ⟨Kp.of b0,R1.step b0,upd_same,.nil,Nat.zero_le _,by simpa using ec,ep,rfl⟩
 · exact R1.sub.free hD
 · obtain ⟨rfl,hi,F2,t',xs,es,rest,ps',⟨k,R2,hd,q,hl,e,epr,ey⟩,fD⟩:=hW
   have hG : keepG P F1 H1 H2:=⟨k.base.trans R2.sub,k.old⟩
   by_cases hlt : i < ds.length
   · refine .inr ⟨w.goes i H2 hlt hG,fun H'=>∃ F2 t' xs es rest ps',CInvK P (turnE tg vs noC (dpE fk fv) r) r σ F1 H1 D ds (joinD [] ps) t2 (i + 1) H' F2 t' xs es rest ps' ∧ F2 D = none,fun H' hn=>⟨_,by omega,rfl,hlt,hn⟩,fun x H' hy=>?_⟩
     have hdi : ds[i]? = some ds[i]:=List.getElem?_eq_getElem hlt
     have e' : compL (turnE tg vs noC (dpE fk fv) r) (ds[i] :: ds.drop (i + 1)) t' = .ok rest t2:=by
      rw [← List.drop_eq_getElem_cons hlt]
      exact e
     unfold compL at e'
     cases et : turnE tg vs noC (dpE fk fv) r ds[i] t' with
     | exc n t3=>
      rw [et] at e'
      cases e'
     | bad=>
      rw [et] at e'
      cases e'
     | ok o t3=>
      rw [et] at e'
      dsimp only at e'
      obtain ⟨rest',er,eo⟩ : ∃ rest',compL (turnE tg vs noC (dpE fk fv) r) (ds.drop (i + 1)) t3 = .ok rest' t2 ∧ rest = consO o rest':=by
       cases e4 : compL (turnE tg vs noC (dpE fk fv) r) (ds.drop (i + 1)) t3 with
       | ok a b=>
        rw [e4] at e'
        simp only [Res.bind_ok] at e'
        cases e'
        exact ⟨a,rfl,rfl⟩
       | exc a b=>
        rw [e4] at e'
        cases e'
       | bad=>
        rw [e4] at e'
        cases e'
      obtain ⟨r2,oc,tc,b,es',efc,eb,alt⟩:=turn_ok et
      obtain ⟨F3,k3,_,R3,rx⟩:=w.draw hw hdi hG hy k.base R2
      refine ⟨F3,wipeR r vs,t',ds[i],r2,R3.wipe vs,rx,es',fun σ' R4 c=>⟨(c.wipe hsl).trans (wipe_wipe σ vs),?_⟩⟩
      refine ⟨F3,r2,t',R4,?_⟩
      rw [efc]
      refine ⟨b,eb,fun F4 H4 k4 R5=>?_⟩
      have hoc : oc = none:=by
       have : Res.ok (none : Option Fm.D) t' = Res.ok oc tc:=efc
       injection this with h1 _
       exact h1.symm
      subst hoc
      rcases alt with ⟨rfl,y,efe,rfl⟩ | ⟨rfl,_,_⟩
      rotate_left
      · cases eb
      show if true = true then _ else _
      rw [if_pos rfl]
      obtain ⟨dx,dy,tk,e1,e2,rfl⟩:=dp_ok efe
      refine ⟨F4,r2,tc,R5,?_⟩
      rw [e1]
      intro v F5 H5 k5 R6 rv
      refine ⟨F5,r2,tk,R6,?_⟩
      rw [e2]
      intro v2 F6 H6 k6 R7 rv2
      have k7 : Kp P.T F2 H2 F6 H6:=k3.trans (k4.trans (k5.trans k6))
      have hd6 : H6 D = some (.dK xs):=k7.old D _ hd nTa nTb (by intro _ z;cases z)
      have fD6 : F6 D = none:=by
       cases z : F6 D with
       | none=>rfl
       | some u=>
        rcases k7.new D u z with z | z
        · rw [fD] at z
          cases z
        · exact (z.no hd (by intro _ z;cases z)).elim
      have hz : prsK (.tup [dx,dy] :: rest') = some ps':=by
       have : rest = .tup [dx,dy] :: rest':=by rw [eo];rfl
       rw [← this]
       exact epr
      simp only [prsK] at hz
      cases ekey : keyD dx with
      | none=>
       rw [ekey] at hz
       cases hz
      | some key=>
       rw [ekey] at hz
       cases ep2 : prsK rest' with
       | none=>
        rw [ep2] at hz
        cases hz
       | some ps2=>
        rw [ep2] at hz
        have hz : (key,dy) :: ps2 = ps':=by simpa using hz
        have R8 : RelP P F6 r t3 σ H6:=R2.step (Kp.relH (P:=P.nox) k7 R7)
        have ek:=key_of' R8 (.inl (rv.mono k6.base)) ekey
        refine ⟨xs,key,ek,hd6,?_,?_⟩
        · have:=of_decide_eq_true hok
          rw [sizeLine_eq]
          omega
        · have R9 : RelP P F6 r t3 σ (L2.upd H6 D (.dK (L2.putK xs key v2))):=Rel.upd R8 (by rw [hd6];intro z;cases z) (fun ps z=>by rw [hd6] at z;cases z) (fun c q z=>by rw [hd6] at z;unfold LamX.CodeO at z;cases z) fD6 (R1.had D (.of hD)) nTa nTb no
          refine ⟨F6,t3,L2.putK xs key v2,putD es key dy,rest',ps2,⟨?_,R9,upd_same,(q.mono k7.base).put key rv2,?_,er,ep2,?_⟩,fD6⟩
          · have k8:=k.trans k7
            refine ⟨k8.base,k8.new,fun a o ha m1 m2 m3=>?_,fun a ha=>k8.had a (ha.upd (by intro _ z;cases z)).1⟩
            have : a ≠ D:=fun e=>by
             rw [e,hD] at ha
             cases ha
            rw [upd_ne this]
            exact k8.old a o ha m1 m2 m3
          · have:=L2.length_putK xs key v2
            omega
          · rw [ey,← hz]
            rfl
   · have ei : i = ds.length:=by omega
     subst ei
     refine .inl ⟨w.stops H2 hG,?_⟩
     rw [List.drop_length] at e
     cases e
     cases epr
     have ey : joinD [] ps = es:=ey
     rw [ey] at h
     refine h _ _ _ D (s1.trans k) R2 (s1.had D (.of hD)) ⟨rfl,⟨fD,nTa,nTb,R1.had D (.of hD),xs,hd,?_,q⟩,no⟩
     have:=of_decide_eq_true hok
     rw [sizeLine_eq]
     omega
theorem n_dcompK {kx vx tg iter : Expr} {scope : Scope} {own : List (Str × Nat)} {pos : Pos} {tgt : Tg} {fi : Rho → Tw → Res (List D)} {fk fv : Rho → Tw → Res D} (hK : X.K = P.K) (hc : X.calm = true) (hN : X.N.Nodup)
  {w0 : Bool} (hw : w0 = true → tgt.isT = true) (hi : PI X tg iter (tI P false w0 fi)) (ok : BlkOk X.N X.env.scope scope own) (hg : ∀ (s : Shared) (H : Hp) (C : Addr) (cl : List (Str × Addr)) (fp : List Addr),PG (X.blk s H scope (compEnvC scope cl C X.env) fp) tg (gT P.nox tgt))
  (hk : ∀ (s : Shared) (H : Hp) (C : Addr) (cl : List (Str × Addr)) (fp : List Addr),PE (X.blk s H scope (compEnvC scope cl C X.env) fp) kx (tD P.nox fk))
  (he : ∀ (s : Shared) (H : Hp) (C : Addr) (cl : List (Str × Addr)) (fp : List Addr),PE (X.blk s H scope (compEnvC scope cl C X.env) fp) vx (tD P.nox fv)) (hs : ∀ x,foldedSetIterable iter X.env x = pure x) (hsl : ∀ i ∈ tgt.slots,i ∈ own.map (·.2)) :
  PE X (.DictComp kx vx [⟨tg,iter,[],0⟩] scope pos) (tN P (dcompKE tgt (own.map (·.2)) fi fk fv)):=
 peMono (pe_dc hc hN hi ok hg (fun _ _ _ _ _=>c_none) hk he hs) (dcompK_read hK hw hsl)
theorem end_store {pins : List (Addr × Obj)} {σ : L2.St} {H' : Hp} {s' : Shared} {y : Str} {py : Pos} {i : Nat} {L C : Addr} {D : Ends} {m : Str → Option Value} (nd : X.N.Nodup) (at_ : X.N[i]? = some y) (loc : X.env.scope.names.lookup y = some .local) (J : L2.Inv X pins σ H' s') (ns : s'.heap.Ns C m) (fp : FpOk X pins H' C) (q : gName i (.ref L) σ H' D.nx) :
  compPost (model X.prog X.w) X.A X.xe (some (assign (.Name y py) X.env)) (fun _ s=>SP X pins D .next s) (.ref L) C (.ok .next) s':=
 wpAny_assign_Name (store_ok2 (v:=V.ref L) J nd at_ (.inl loc) rfl (fun s2 J2 r=>by
  obtain ⟨a,kept,w⟩:=r
  have apart : C ≠ a:=w.elim (fun z=>z ▸ fp.2.1) fun z e=>fp.2.2.2.2.1 y a z e.symm
  exact ⟨m,ns.sameBut kept apart,fun _ sb=>⟨_,H',J2.turned (t':=s2.toks) (fun b _ hb=>(sb.2 b hb).trans) fp.1 fp.2.1 fp.2.2.2.1 fp.2.2.2.2.1 fp.2.2.2.2.2,q⟩⟩) (.inr loc))
theorem st_dcK {i : Nat} {y : Str} {py : Pos} {kx vx tg iter : Expr} {ifs : List Expr} {scope : Scope} {own : List (Str × Nat)} {pos spos : Pos} {wi : TI} {g : TG} {tt : TT} {tk tv : TE} (calm : X.calm = true) (nd : X.N.Nodup) (at_ : X.N[i]? = some y) (loc : X.env.scope.names.lookup y = some .local)
  (sw : swapsWith (.DictComp kx vx [⟨tg,iter,ifs,0⟩] scope pos) (some (.Name y py)) spos.line X.env = pure true) (hi : PI X tg iter wi) (ok : BlkOk X.N X.env.scope scope own)
  (hg : InBlk X scope fun Y=>PG Y tg g) (ht : InBlk X scope fun Y=>PTs Y ifs tt) (hk : InBlk X scope fun Y=>PE Y kx tk) (he : InBlk X scope fun Y=>PE Y vx tv) (hs : ∀ x,foldedSetIterable iter X.env x = pure x) :
  PS X (.Assign [.Name y py] (.DictComp kx vx [⟨tg,iter,ifs,0⟩] scope pos) spos) (tAsg (tDc wi g tt tk tv (own.map (·.2))) (gName i)) where
 run:=fun pins s σ H D I h=>by
  have core:=dc_core (pos:=pos) (pos':=firstIterPos [⟨tg,iter,ifs,0⟩] pos) (Q:=fun x H1=>gName i x σ H1 D.nx) (use:=some (assign (.Name y py) X.env)) (Qf:=fun _ s=>SP X pins D .next s) calm nd I hi ok hg ht hk he hs h fun L C _ _ _ J q ns fp=>end_store nd at_ loc J ns fp q
  rw [exec_Assign_Name_used (hs:=sw)]
  exact wpAny_bind (wpAny_standAt (wpAny_bind (wpAny_bind (thn core fun _ _ z=>wpAny_pure (wpAny_pure z)))))
theorem sw_dict {kx vx : Expr} {gs : List Comprehension} {scope : Scope} {pos py : Pos} {y : Str} {l : Nat} {env : Env} (hk : env.scope.kind = .function) (hy : env.scope.names.lookup y = some .local) (hl : (py.line == pos.line) = true)
  (ha : (scope.names.any fun (n,k)=>n == y && (k == .local || k == .cell)) = false) : swapsWith (.DictComp kx vx gs scope pos) (some (.Name y py)) l env = pure true:=by
 have h1 : env.kindOf y = some .local:=hy
 have h2 : env.blockKind = .function:=by simp [Env.blockKind,hk]
 simp [swapsWith,Expr.pos,h1,h2,hl,ha]
end
end Fm
namespace Fm
open PySem PySem.Spec PyProof.Rows L2 PySem.W
section
variable {kx vx t0 i0 t1 i1 : Expr} {scope : Scope} {pos : Pos} {it : Value} {D : Addr} {env : Env}
variable {prog : Program} {w : World} {A : Around} {R : Result → Shared → Prop} {s : Shared}
abbrev nb (prog : Program) (w : World) (A : Around) (env : Env) (R : Result → Shared → Prop) : Value → Shared → Prop:=notedBy (model prog w) A env fun x s'=>R (.error x) s'
end
section
variable {X : Cx}
end
section
variable {P : Pm} {X : Cx}
structure N2 (P : Pm) (r r2 : Rho) (σ σ2 : L2.St) (F1 H1 F5 : Hp) (D : Addr) (f : Fm.D → Tw → Res (Option Fm.D)) (ds : List Fm.D) (t3 : Tw) (rest' : List Fm.D) (fin : List (NestedKey × Fm.D)) (j : Nat) (H F6 : Hp) (t6 : Tw) (xs : List (NestedKey × Addr × Value)) (es : List (NestedKey × Fm.D)) (restI : List Fm.D) (ps : List (NestedKey × Fm.D)) : Prop where
 k : Kp P.T F1 H1 F6 H
 R : RelP P F6 r t6 σ H
 R2 : RelP P F6 r2 t6 σ2 H
 d : H D = some (DN P.T.pg P.T.wo D xs)
 q : RpN P.K P.T F6 xs es
 nd : (xs.map (·.1)).Nodup
 e : compL f (ds.drop j) t6 = .ok restI t3
 p : prsN (restI ++ rest') = some ps
 y : fin = putsN es ps
 n : xs.length + ps.length ≤ sizeLine
 fD : F6 D = none
 s : Same F5 F6
end
end Fm
namespace Fm
open PySem PySem.Spec PyProof.Rows L2 PySem.W
section
variable {X : Cx}
end
section
variable {P : Pm} {X : Cx} {a b a2 b2 : Expr} {pos : Pos} {fa fb fa2 fb2 : Rho → Tw → Res D}
end
end Fm
namespace Fm
open PySem PySem.Spec PyProof.Rows L2
def knOk (x : Str) (sc : Scope) (y : Str) : NameKind → Prop
 | .cell=>False
 | .local=>y = x
 | .free=>sc.names.lookup y = some .cell ∨ sc.names.lookup y = some .free
 | _=>True
structure LamP (x : Str) (sc scope : Scope) : Prop where
 plain : scope.kind = .function ∧ scope.isCoroutine = false ∧ scope.isGenerator = false
 par : scope.names.lookup x = some .local
 one : ∀ y ∈ scope.names,knOk x sc y.1 y.2
theorem LamP.at {x : Str} {sc scope : Scope} (L : LamP x sc scope) {y : Str} {k : NameKind} (h : scope.names.lookup y = some k) : knOk x sc y k:=L.one (y,k) (PySem.mem_of_lookup h)
theorem LamP.has {X : Cx} {x : Str} {scope : Scope} (L : LamP x X.env.scope scope) (ok : X.Ok) : ∀ y ∈ scope.names,y.2 = .free → ∃ c,X.env.cells.lookup y.1 = some c:=by
 rintro ⟨y,k⟩ hy e
 subst e
 exact ok.has y (L.one _ hy)
section
variable {X : Cx} {pins : List (Addr × Obj)} {σ : L2.St} {H : Hp} {s : Shared}
theorem LamP.cl {x : Str} {scope : Scope} (L : LamP x X.env.scope scope) (ok : X.Ok) {y : Str} {c : Addr} (e : (cloFrom X.env.cells scope.names []).lookup y = some c) : X.env.cells.lookup y = some c:=by
 have hm:=cloFrom_mem (PySem.mem_of_lookup e)
 rw [or_iff_right List.not_mem_nil] at hm
 obtain ⟨d,hd⟩:=L.has ok _ hm.1 rfl
 exact hd.trans (congrArg some (by
  have:=hm.2
  rw [show X.env.cells.lookup y = some d from hd] at this
  exact this.symm))
theorem LamP.got {x : Str} {scope : Scope} (L : LamP x X.env.scope scope) {y : Str} (h : scope.names.lookup y = some .free) : ∃ c,(cloFrom X.env.cells scope.names []).lookup y = some c:=mem_lookup (cloFrom_has (PySem.mem_of_lookup h))
end
end Fm
namespace Fm
open PySem PySem.Spec PyProof.Rows L2 RZ
def Out (S : List Addr) (h h' : Heap) : Prop:=∀ b o,b ∉ S → h.get? b = some o → h'.get? b = some o
theorem Out.refl (S : List Addr) (h : Heap) : Out S h h:=fun _ _ _ q=>q
theorem Out.then {S : List Addr} {h h1 h2 : Heap} (p : Out S h h1) (q : Out S h1 h2) : Out S h h2:=fun b o n e=>q b o n (p b o n e)
theorem Out.same {S : List Addr} {a : Addr} {h h' : Heap} (m : a ∈ S) (q : Heap.SameBut a h h') : Out S h h':=fun b _ n e=>(q.2 b fun z=>n (z ▸ m)).trans e
theorem Out.ext {S : List Addr} {a : Addr} {h h' : Heap} (m : a ∈ S) (q : Heap.ExtBut a h h') : Out S h h':=fun b o n e=>q b o (fun z=>n (z ▸ m)) e
theorem Out.push {S : List Addr} {h : Heap} (o : Obj) : Out S h (h.push o):=fun _ _ _=>Heap.get?_push_of_some _
abbrev zipO (TI TO : Addr) (v0 : Value) (f : Bool) : Obj:={ cls:=.type "zip",dict:=none,data:=.fields #[v0,.bool f,.bool false,.ref TI,.ref TO],slots:=#[] }
section
variable {prog : Program} {w : World} {A : Around} {E : Value → Shared → Prop} {s : Shared} {z TI TO : Addr} {v0 : Value} {f : Bool}
theorem Draws.off {i a : Addr} {fp : List Addr} {n k : Nat} {P : Nat → Value → Prop} {St : Nat → Heap → Prop} {h h' : Heap} (D : Draws prog w A i fp n P St) (na : a ∉ fp) (same : Heap.SameBut a h h') (st : St k h) : St k h':=
 D.frame _ _ _ st fun b hb o e=>(same.2 b fun q=>na (q ▸ hb)).trans e
structure ZAp (z TI TO i1 i2 : Addr) (f1 f2 : List Addr) : Prop where
 src : TI ∉ [z,TO,i1,i2]
 own : TO ≠ z ∧ TO ≠ i1 ∧ TO ≠ i2
 zip : z ≠ i1 ∧ z ≠ i2
 one : z ∉ f1 ∧ TO ∉ f1 ∧ i2 ∉ f1
 two : z ∉ f2 ∧ TO ∉ f2 ∧ i1 ∉ f2
structure Zp (S1 S2 : Nat → Heap → Prop) (z TI TO i1 i2 : Addr) (k : Nat) (h : Heap) : Prop where
 zip : ∃ v0 f,(v0 = .none ∨ ∃ T : Addr,v0 = rawInt T) ∧ h.get? z = some (zipO TI TO v0 f)
 src : IsPair h TI (.ref i1) (.ref i2)
 own : ∃ x y,IsPair h TO x y
 one : S1 k h
 two : S2 k h
variable {i1 i2 : Addr} {f1 f2 : List Addr} {n1 n2 k : Nat} {P1 P2 : Nat → Value → Prop} {S1 S2 : Nat → Heap → Prop}
theorem Zp.imp {S1' S2' : Nat → Heap → Prop} {h : Heap} (Z : Zp S1 S2 z TI TO i1 i2 k h) (g1 : S1 k h → S1' k h) (g2 : S2 k h → S2' k h) : Zp S1' S2' z TI TO i1 i2 k h:={ Z with one:=g1 Z.one,two:=g2 Z.two }
end
abbrev ZpT (a b z TI TO i1 i2 : Addr) : Nat → Heap → Prop:=Zp (fun i h=>h.IsTupleIter i1 a i) (fun i h=>h.IsTupleIter i2 b i) z TI TO i1 i2
section
variable {a b z TI TO i1 i2 : Addr}
theorem ZpT.live {i : Nat} {h : Heap} (Z : ZpT a b z TI TO i1 i2 i h) : ∀ c ∈ [z,TI,TO,i1,i2],∃ o,h.get? c = some o ∧ ∀ v,o.data ≠ .cell v:=by
 have ⟨_,_,_,hz⟩:=Z.zip
 have ⟨_,_,own⟩:=Z.own
 have walk : ∀ {j l : Addr},h.IsTupleIter j l i → ∃ o,h.get? j = some o ∧ ∀ v,o.data ≠ .cell v:=fun ⟨o,ho,_,dd⟩=>⟨o,ho,fun v q=>nomatch dd.symm.trans q⟩
 simp only [List.mem_cons,List.not_mem_nil,or_false,forall_eq_or_imp,forall_eq]
 exact ⟨⟨_,hz,nofun⟩,⟨_,Z.src,nofun⟩,⟨_,own,nofun⟩,walk Z.one,walk Z.two⟩
theorem ZpT.kept {i : Nat} {h h' : Heap} (Z : ZpT a b z TI TO i1 i2 i h) (k : ∀ c ∈ [z,TI,TO,i1,i2],∀ o,h.get? c = some o → h'.get? c = some o) : ZpT a b z TI TO i1 i2 i h' where
 zip:=let ⟨v,f,hv,q⟩:=Z.zip;⟨v,f,hv,k z (by simp) _ q⟩
 src:=k TI (by simp) _ Z.src
 own:=let ⟨x,y,q⟩:=Z.own;⟨x,y,k TO (by simp) _ q⟩
 one:=Z.one.at (k i1 (by simp))
 two:=Z.two.at (k i2 (by simp))
end
end Fm
namespace Fm
open PySem PySem.Spec PyProof.Rows L2 RZ
abbrev zsO (TI TO : Addr) (v0 : Value) : Obj:={ cls:=.type "zip",dict:=none,data:=.fields #[v0,.bool false,.bool true,.ref TI,.ref TO],slots:=#[] }
section
variable {prog : Program} {w : World} {A : Around} {E : Value → Shared → Prop} {s : Shared} {z TI TO : Addr}
variable {i : Addr} {fp : List Addr} {n k : Nat} {P : Nat → Value → Prop} {St : Nat → Heap → Prop}
structure Zs (S1 S2 : Nat → Heap → Prop) (z TI TO i1 i2 : Addr) (k : Nat) (h : Heap) : Prop where
 zip : h.get? z = some (zsO TI TO .none)
 src : IsPair h TI (.ref i1) (.ref i2)
 own : ∃ x y,IsPair h TO x y
 one : S1 k h
 two : S2 k h
variable {i1 i2 : Addr} {f1 f2 : List Addr} {P1 P2 : Nat → Value → Prop} {S1 S2 : Nat → Heap → Prop}
end
section
variable {prog : Program} {w : World} {A : Around} {E : Value → Shared → Prop} {s : Shared}
end
def itAt (l : Bool) (it a : Addr) (i : Nat) (h : Heap) : Prop:=if l then h.IsListIter it a i else h.IsTupleIter it a i
def isAt (l : Bool) (h : Heap) (a : Addr) (us : Array Value) : Prop:=if l then h.IsList a us else h.IsTuple a us
theorem itAt.at {l : Bool} {it a : Addr} {i : Nat} {h h' : Heap} (q : itAt l it a i h) (k : ∀ o,h.get? it = some o → h'.get? it = some o) : itAt l it a i h':=by
 cases l
 · exact Heap.IsTupleIter.at (show h.IsTupleIter it a i from q) k
 · exact Heap.IsListIter.at (show h.IsListIter it a i from q) k
theorem itAt.live {l : Bool} {it a : Addr} {i : Nat} {h : Heap} (q : itAt l it a i h) : ∃ o,h.get? it = some o ∧ ∀ v,o.data ≠ .cell v:=by
 cases l
 · exact let ⟨o,ho,_,dd⟩:=(show h.IsTupleIter it a i from q);⟨o,ho,fun v q=>nomatch dd.symm.trans q⟩
 · exact let ⟨o,ho,_,dd⟩:=(show h.IsListIter it a i from q);⟨o,ho,fun v q=>nomatch dd.symm.trans q⟩
theorem isAt.lt {l : Bool} {a : Addr} {us : Array Value} {h : Heap} (q : isAt l h a us) : a < h.objs.size:=by
 cases l
 · exact let ⟨_,e,_⟩:=(show h.IsTuple a us from q);Heap.lt_size e
 · exact let ⟨_,e,_⟩:=(show h.IsList a us from q);Heap.lt_size e
section
variable {X : Cx} {pins : List (Addr × Obj)} {σ : L2.St} {H : Hp} {s : Shared} {a : Addr} {xs ys : List V} {l : Bool}
end
abbrev ZsT (l1 l2 : Bool) (a b z TI TO i1 i2 : Addr) : Nat → Heap → Prop:=Zs (itAt l1 i1 a) (itAt l2 i2 b) z TI TO i1 i2
section
variable {a b z TI TO i1 i2 : Addr} {l1 l2 : Bool}
theorem ZsT.live {i : Nat} {h : Heap} (Z : ZsT l1 l2 a b z TI TO i1 i2 i h) : ∀ c ∈ [z,TI,TO,i1,i2],∃ o,h.get? c = some o ∧ ∀ v,o.data ≠ .cell v:=by
 have ⟨_,_,own⟩:=Z.own
 simp only [List.mem_cons,List.not_mem_nil,or_false,forall_eq_or_imp,forall_eq]
 exact ⟨⟨_,Z.zip,nofun⟩,⟨_,Z.src,nofun⟩,⟨_,own,nofun⟩,Z.one.live,Z.two.live⟩
theorem ZsT.kept {i : Nat} {h h' : Heap} (Z : ZsT l1 l2 a b z TI TO i1 i2 i h) (k : ∀ c ∈ [z,TI,TO,i1,i2],∀ o,h.get? c = some o → h'.get? c = some o) : ZsT l1 l2 a b z TI TO i1 i2 i h' where
 zip:=k z (by simp) _ Z.zip
 src:=k TI (by simp) _ Z.src
 own:=let ⟨x,y,q⟩:=Z.own;⟨x,y,k TO (by simp) _ q⟩
 one:=Z.one.at (k i1 (by simp))
 two:=Z.two.at (k i2 (by simp))
theorem Zs.imp {S1 S2 S1' S2' : Nat → Heap → Prop} {k : Nat} {h : Heap} (Z : Zs S1 S2 z TI TO i1 i2 k h) (g1 : S1 k h → S1' k h) (g2 : S2 k h → S2' k h) : Zs S1' S2' z TI TO i1 i2 k h:={ Z with one:=g1 Z.one,two:=g2 Z.two }
end
end Fm
namespace Fm
open PySem PySem.Spec PyProof.Rows L2 RZ
section
variable {M : Model} {A : Around} {E : Value → Shared → Prop} {s : Shared} {env : Env}
end
section
variable {P : Pm} {X : Cx} {a b : Expr} {pos p1 : Pos} {fa fb : Rho → Tw → Res D}
end
end Fm
namespace Fm
open PySem PySem.Spec PyProof.Rows L2 PySem.W
section
variable {P : Pm} {X : Cx} {fa fb : Rho → Tw → Res D}
end
end Fm
namespace Fm
open PySem PySem.Spec PyProof.Rows L2 RZ
section
variable {prog : Program} {w : World} {A : Around} {E : Value → Shared → Prop} {s : Shared}
end
section
variable {X : Cx} {P : Pm} {fa : Rho → Tw → Res D}
end
end Fm
namespace Fm
open PySem PySem.Spec PyProof.Rows L2
structure Sh where
 name : Str
 np : Nat
 ks : List Str
 dfl : List Cst
 fn : Nat
structure Tb where
 sh : List Sh
 cs : List Str
 ex : List (Nat × Str)
 hd : Bool
def nsOf (ex : List (Nat × Str)) : Bool:=decide (ex.lookup 8 = some ("NoStep" : Str))
def hNm (b : Bool) : Str:=if b then "_law_no_step" else "_law_heard"
structure Cs where
 sc : Scope
 fn : Str → Bool
 lm : Bool
 lk : Bool
 tp : Bool
def scB (N ps : List Str) (sc : Scope) : Bool:=decide (sc.kind = .function) && !sc.isCoroutine && !sc.isGenerator && decide N.Nodup && decide (N.take ps.length = ps) && (ps.all fun x=>decide (sc.names.lookup x = some .local) || decide (sc.names.lookup x = some .cell)) && sc.names.all fun y=>decide (y.2 ≠ .free)
def keysB : List Str → List (Option Expr) → Bool
 | [],[]=>true
 | x :: xs,some (.Constant (.str y) _ _) :: ks=>decide (x = y) && keysB xs ks
 | _,_=>false
def nameB (x : Str) : Bool:=!(x == ("__debug__" : Str)) && !(x == ("__classdict__" : Str)) && decide (x ≠ "__name__")
def visB (c : Cs) (x : Str) : Bool:=match c.sc.names.lookup x with
 | some .local=>true
 | some .cell=>true
 | some .free=>true
 | _=>false
def locB (c : Cs) (x : Str) : Bool:=match c.sc.names.lookup x with
 | some .local=>true
 | some .cell=>c.fn x
 | _=>false
def lclB (c : Cs) (x : Str) : Bool:=match c.sc.names.lookup x with
 | some .local=>true
 | _=>false
def glB (c : Cs) (x : Str) : Bool:=nameB x && match c.sc.names.lookup x with
 | some .globalImplicit=>true
 | _=>false
def varB (N : List Str) (c : Cs) (i : Nat) (x : Str) : Bool:=decide (N[i]? = some x) && visB c x && nameB x
def tgtB (N : List Str) (c : Cs) (i : Nat) (x : Str) : Bool:=decide (N[i]? = some x) && locB c x && nameB x
def nStar : Expr → Bool
 | .Starred _ _=>false
 | _=>true
def nSlice : Expr → Bool
 | .Slice _ _ _ _=>false
 | _=>true
def nSet : Expr → Bool
 | .Set _ _ _=>false
 | _=>true
def nComp : Expr → Bool
 | .ListComp _ _ _ _=>false
 | .SetComp _ _ _ _=>false
 | .DictComp _ _ _ _ _=>false
 | _=>true
def nCall : Expr → Bool
 | .Call _ [] _ _=>false
 | _=>true
def isTupB : Expr → Bool
 | .Tuple _ _ _=>true
 | _=>false
def opB : Operator → Bool
 | .Add=>true
 | .Sub=>true
 | .Mult=>true
 | .FloorDiv=>true
 | .Mod=>true
 | .Pow=>true
 | .LShift=>true
 | _=>false
def Blt.nm : Blt → Str
 | .len=>"len"
 | .abs=>"abs"
 | .all=>"all"
 | .any=>"any"
 | .sum=>"sum"
 | .max=>"max"
 | .tuple=>"tuple"
 | .list=>"list"
 | .sorted=>"sorted"
 | .int=>"int"
 | .dictN=>"dict"
 | .dictK=>"dict"
 | .klist=>"list"
def bltB : Blt → Bool
 | _=>true
mutual
def mTg (N : List Str) (c : Cs) : Tg → Expr → Bool
 | .name i,.Name x _=>tgtB N c i x
 | .tup ts,.Tuple es _ _=>mTgs N c ts es
 | _,_=>false
def mTgs (N : List Str) (c : Cs) : Tgs → List Expr → Bool
 | .nil,[]=>true
 | .cons t ts,e :: es=>nStar e && mTg N c t e && mTgs N c ts es
 | _,_=>false
end
def mDsp : List (Str × Cst) → List (Option Expr) → List Expr → Bool
 | [],[],[]=>true
 | (x,k) :: r,some (.Constant (.str y) _ _) :: ks,.Constant k' _ _ :: vs=>decide (x = y) && decide (k.k = k') && mDsp r ks vs
 | _,_,_=>false
def isStr (x : Str) : Expr → Bool
 | .Constant (.str y) _ _=>decide (y = x)
 | _=>false
def blkCs (c : Cs) (scope : Scope) : Cs:=⟨relS scope c.sc,fun x=>scope.names.lookup x == some .cell,false,false,false⟩
mutual
def mE (tb : Tb) (N : List Str) (c : Cs) (fl : Bool) : E → Expr → Bool
 | .cst k,.Constant k' _ _=>decide (k.k = k')
 | .var i,.Name x _=>varB N c i x
 | .bor i,.Name x _=>fl && varB N c i x
 | .glob g,.Name x _=>decide (tb.cs[g]? = some x) && glB c x
 | .bin op a b,.BinOp ea op' eb _=>decide (op = op') && opB op && mE tb N c true a ea && mE tb N c true b eb
 | .neg a,.UnaryOp .USub ea _=>mE tb N c true a ea
 | .not a,.UnaryOp .Not ea _=>mE tb N c true a ea
 | .and a b,.BoolOp .And (x :: y :: r) pos=>mE tb N c fl a x && (match r with
  | []=>mE tb N c false b y
  | z :: r'=>mE tb N c false b (.BoolOp .And (y :: z :: r') pos))
 | .or a b,.BoolOp .Or (x :: y :: r) pos=>mE tb N c false a x && (match r with
  | []=>mE tb N c false b y
  | z :: r'=>mE tb N c false b (.BoolOp .Or (y :: z :: r') pos))
 | .ite k a b,.IfExp ek ea eb _=>mE tb N c true k ek && mE tb N c false a ea && mE tb N c false b eb
 | .cmp op a b,.Compare ea [op'] [eb] _=>decide (op = op') && !behindInMarks op eb && mE tb N c true a ea && mE tb N c true b eb
 | .ix a b,.Subscript ea eb _=>nSlice eb && mE tb N c true a ea && mE tb N c true b eb
 | .dix a b,.Subscript ea eb _=>nSlice eb && mE tb N c true a ea && mE tb N c true b eb
 | .tup es,.Tuple xs _ _=>mEs tb N c es xs
 | .lst es,.List xs _=>mEs tb N c es xs
 | .call i es ks,.Call (.Name x _) xs kws _=>(match tb.sh[i]? with
  | some sh=>decide (sh.name = x) && glB c x && decide (xs.length = sh.np) && decide (kws.map (·.arg) = sh.ks.map some) && (decide (kws = []) || !decide (xs = [])) && mEs tb N c es xs && mKs tb N c ks kws
  | none=>false)
 | .blt b a,.Call (.Name x _) [ea] [] _=>bltB b && decide (b.nm = x) && glB c x && nStar ea && mE tb N c true a ea
 | .isa a T,.Call (.Name x _) [ea,.Name y _] [] _=>decide (x = "isinstance") && decide (T.nm = y) && glB c x && glB c y && nStar ea && mE tb N c true a ea
 | .get a k d,.Call (.Attribute ea m p) [ek,ed] [] cp=>decide (m = "get") && nCall ea && (p.endLine == cp.line) && nStar ek && nStar ed && mE tb N c true a ea && mE tb N c true k ek && mE tb N c false d ed
 | .tcount i,.Subscript (.Name y _) eb _=>varB N c i y && isStr "count" eb
 | .tget i k d,.Call (.Attribute (.Subscript (.Name y _) eb _) m p) [ek,ed] [] cp=>varB N c i y && isStr "rests" eb && decide (m = "get") && (p.endLine == cp.line) && nStar ek && nStar ed && mE tb N c true k ek && mE tb N c false d ed
 | .dsp kvs,.Dict ks vs _=>mDsp kvs ks vs
 | .bad,_=>true
 | .dcompK own k v tg it,.DictComp ek ev [⟨et,ei,[],z⟩] scope _=>decide (z = 0) && blkC N c.sc scope own && (tg.slots.all fun i=>(own.map (·.2)).contains i) && mI tb N c false et it ei && nSet ei && mTg N (blkCs c scope) tg et && mE tb N (blkCs c scope) false k ek && mE tb N (blkCs c scope) false v ev
 | .comp2 own elt tg it tg1 it1,.ListComp ee [⟨et,ei,[],z⟩,⟨et1,ei1,[],z1⟩] scope _=>decide (z = 0) && decide (z1 = 0) && blkC N c.sc scope own && (tg.slots.all fun i=>(own.map (·.2)).contains i) && (tg1.slots.all fun i=>(own.map (·.2)).contains i) && mI tb N c false et it ei && nSet ei && nSet ei1 && mTg N (blkCs c scope) tg et && mI tb N (blkCs c scope) true et1 it1 ei1 && mTg N (blkCs c scope) tg1 et1 && mE tb N (blkCs c scope) false elt ee
 | .compX own elt tg it,.ListComp ee [⟨et,ei,[],z⟩] scope _=>c.tp && decide (z = 0) && blkC N c.sc scope own && (tg.slots.all fun i=>(own.map (·.2)).contains i) && mI tb N c false et it ei && nSet ei && mTg N (blkCs c scope) tg et && mE tb N (blkCs c scope) false elt ee
 | .comp own elt tg it cd,.ListComp ee [⟨et,ei,ifs,z⟩] scope _=>decide (z = 0) && blkC N c.sc scope own && (tg.slots.all fun i=>(own.map (·.2)).contains i) && mI tb N c false et it ei && nSet ei && mTg N (blkCs c scope) tg et && mCd tb N (blkCs c scope) cd ifs && mE tb N (blkCs c scope) false elt ee
 | _,_=>false
def mO (tb : Tb) (N : List Str) (c : Cs) : O → Option Expr → Bool
 | .none,none=>true
 | .some e,some x=>mE tb N c true e x
 | _,_=>false
def mCd (tb : Tb) (N : List Str) (c : Cs) : O → List Expr → Bool
 | .none,[]=>true
 | .some k,[x]=>mE tb N c true k x
 | _,_=>false
def mEs (tb : Tb) (N : List Str) (c : Cs) : Es → List Expr → Bool
 | .nil,[]=>true
 | .cons e es,x :: xs=>nStar x && mE tb N c false e x && mEs tb N c es xs
 | _,_=>false
def mKs (tb : Tb) (N : List Str) (c : Cs) : Es → List Keyword → Bool
 | .nil,[]=>true
 | .cons e es,⟨_,x,_⟩ :: xs=>mE tb N c false e x && mKs tb N c es xs
 | _,_=>false
def mI (tb : Tb) (N : List Str) (c : Cs) (fz : Bool) (tg : Expr) : I → Expr → Bool
 | .val e,x=>mE tb N c (!fz) e x
 | .rng1 a,.Call (.Name x _) [ea] [] _=>decide (x = "range") && glB c x && nStar ea && mE tb N c true a ea
 | _,_=>false
end
end Fm
namespace Fm
open PySem PySem.Spec PyProof.Rows L2
structure CallOk (X : Cx) (P : Pm) (cl : Nat → Addr) (sh : Sh) (k : Nat) (g : List D → List D → Tw → Res D) : Prop where
 ex : ∃ f fd ps Γ,FnOk X.prog X.w X.K X.mg X.base (CX X.prog X.w) k f fd ps (spD P.K P.T cl (sh.np + sh.ks.length + sh.dfl.length) Γ) ∧ X.mg sh.name = some (.ref f) ∧ PySem.W.keepIn X.K (.ref f) = true ∧
  (sh.ks = [] → ∃ ds,Vals (sh.dfl.map Cst.v) ds ∧ Binds X.K fd ps ds) ∧ (sh.ks ≠ [] → ∃ gg,KBn X.K fd ps sh.np sh.ks gg (fun vs zs=>vs ++ zs ++ sh.dfl.map Cst.v)) ∧ ∀ xs ys t,g xs ys t = Γ (xs ++ ys ++ sh.dfl.map Cst.d) t
structure ExcOk (X : Cx) (C : Addr) (x : Str) : Prop where
 q : PySem.W.excIn X.K C He.veBase "ValueError.__new__" = true
 g : X.mg x = some (.ref C)
 k : PySem.W.keepIn X.K (.ref C) = true
 r : Raises X (.ref C)
def heardN : List Str:=["deed", "refused", "found", "e", "some", "names", "word"]
def TTh (K : PySem.W.Frag) (T : Tn) : (XK → Hp → VK → Prop) → Hp → VK → Prop:=fun tl H Q=>∃ (F : Hp) (t : Tw),RelH K T F H F t H ∧ ∀ F1 H1,RelH K T F H F1 t H1 →
 tl (fun cls d H'=>∃ (n : Nat) (F' : Hp) (t' : Tw),n < 9 ∧ cls = .ref (T.cl n) ∧ d = none ∧ RelH K T F' H' F' t' H' ∧ ∀ v F2 H2,RelH K T F' H' F2 t' H2 → Rp K T F2 v (.tup [.str (hWord n)]) → Q v H2) H1
  fun v H'=>∃ (F' : Hp) (t' : Tw) (d : D),RelH K T F' H' F' t' H' ∧ Rp K T F' v d ∧ ∀ w F2 H2,RelH K T F' H' F2 t' H2 → Rp K T F2 w (.tup [.str "told",d]) → Q w H2
def nostN : List Str:=["deed", "refused", "e"]
def TTn (K : PySem.W.Frag) (T : Tn) : (XK → Hp → VK → Prop) → Hp → VK → Prop:=fun tl H Q=>∃ (F : Hp) (t : Tw),RelH K T F H F t H ∧ ∀ F1 H1,RelH K T F H F1 t H1 →
 tl (fun cls d H'=>∃ (n : Nat) (F' : Hp) (t' : Tw),n < 9 ∧ cls = .ref (T.cl n) ∧ d = none ∧ RelH K T F' H' F' t' H' ∧ ∀ v F2 H2,RelH K T F' H' F2 t' H2 → Rp K T F2 v (.bl (decide (n = 8))) → Q v H2) H1
  fun _ _=>False
def hN (b : Bool) : List Str:=if b then nostN else heardN
def TTm (b : Bool) (K : PySem.W.Frag) (T : Tn) : (XK → Hp → VK → Prop) → Hp → VK → Prop:=if b then TTn K T else TTh K T
structure Heard (b : Bool) (X : Cx) (P : Pm) : Prop where
 ex : ∃ (g c Pt : Addr) (pg : Arguments) (bg : List Stmt) (sg : Scope) (dV kV doc pm cdv ct oc : Value) (an od : Option Addr) (osl : Array (Option Value)),
  X.mg (hNm b) = some (.ref g) ∧ PySem.W.keepIn X.K (.ref g) = true ∧ X.K.lookup g = some ⟨oc,od,.func (PySem.W.fnOf (hNm b) (hNm b) pg bg sg dV kV doc pm an cdv ct),osl⟩ ∧ PySem.W.codeIn X.K cdv (hNm b) = true ∧
  L2.Binds X.K (PySem.W.fnOf (hNm b) (hNm b) pg bg sg dV kV doc pm an cdv ct) ["deed"] [] ∧ FnScope (hN b) ["deed"] sg ∧ LamX.GivesTo X (hN b) (hNm b) sg g cdv bg "deed" (X.env.qual ++ "<lambda>") (TTm b P.K P.T) ∧
  LamX.TabB X.base X.mg c Pt ∧ X.env.code = .ref c ∧ (Pt,X.env.qual ++ "<lambda>") ∈ P.T.tabs ∧ ∀ p ∈ P.T.tabs,p.1 = Pt → p.2 = X.env.qual ++ "<lambda>"
structure LamT (X : Cx) (P : Pm) : Prop where
 ex : ∃ (c Pt : Addr),LamX.TabB X.base X.mg c Pt ∧ X.env.code = .ref c ∧ (Pt,X.env.qual ++ "<lambda>") ∈ P.T.tabs ∧ ∀ p ∈ P.T.tabs,p.1 = Pt → p.2 = X.env.qual ++ "<lambda>"
def TopF (X : Cx) : Prop:=∃ env l,X.stack = env :: l ∧ env.scope.isGenerator = false ∧ env.scope.isCoroutine = false ∧ env.builtins = builtinsNs ∧ env.globals = mainGlobals
structure Ok (tb : Tb) (N : List Str) (G : Gam) (cs : Nat → D) (cl : Nat → Addr) (X : Cx) (P : Pm) (c : Cs) : Prop where
 hK : X.K = P.K
 hN : X.N = N
 nd : N.Nodup
 sc : X.env.scope = c.sc
 fn : X.fn = c.fn
 calm : X.calm = true
 rm33 : Unit → Room (G.lv + 33) X.A
 pyf : Unit → X.base.NoSeer ∧ X.prog.given.tree = none ∧ TopF X
 hcl : P.T.cl = cl
 hpw : P.T.pg = X.prog ∧ P.T.wo = X.w
 free : ∀ x ∈ freeNames,X.mg x = none
 con : ∀ g x,tb.cs[g]? = some x → ∃ u v,X.mg x = some u ∧ RelV v u ∧ Rp P.K P.T (fun _=>none) v (cs g)
 conT : ∀ g x,tb.cs[g]? = some x → isSq false (cs g) = true → ConT X P x (cs g)
 call : ∀ d i sh,tb.sh[i]? = some sh → d ≤ G.lv → CallOk X P cl sh (G.lv - d + 33) (G.f d i)
 tk : Takes X fun cc d _ H=>EX cl P.XE cc d H
 own : PassesOwn (model X.prog X.w) X.A X.env X.xe
 exc : ∀ n x,tb.ex.lookup n = some x → ExcOk X (cl n) x
 nine : tb.hd = true → Nine X.K cl
 form : tb.hd = true → ∃ CF : Addr,X.mg "FormError" = some (.ref CF) ∧ ∀ n,n < 9 → PySem.W.exmOne X.K (.ref (cl n)) (.ref CF) = some true
 heard : tb.hd = true → c.lm = true → 1 ≤ G.lv → Heard (nsOf tb.ex) X P
 lamT : c.lk = true → LamT X P
 top : c.tp = true → X.stack = X.env :: X.outer ∧ X.env.frame = some X.env.locals
theorem Ok.room {tb : Tb} {N : List Str} {G : Gam} {cs : Nat → D} {cl : Nat → Addr} {X : Cx} {P : Pm} {c : Cs} (ok : Ok tb N G cs cl X P c) : Room (G.lv + 33) X.A:=ok.rm33 ()
theorem Ok.hu {tb : Tb} {N : List Str} {G : Gam} {cs : Nat → D} {cl : Nat → Addr} {X : Cx} {P : Pm} {c : Cs} (ok : Ok tb N G cs cl X P c) : X.A.units + 200 < cLine:=by
 have:=ok.room.un
 omega
theorem Ok.py {tb : Tb} {N : List Str} {G : Gam} {cs : Nat → D} {cl : Nat → Addr} {X : Cx} {P : Pm} {c : Cs} (ok : Ok tb N G cs cl X P c) : PyR X:=fun pins σ H s I=>by
 obtain ⟨seer,tree,env,l,e,a1,a2,a3,a4⟩:=ok.pyf ()
 have d:=ok.room.dp
 refine PylongRoom.of I.nolimit (show X.A.depth + 100 < _ by omega) (SeerAt.of (l:=l) (seer.keeps I.bk) tree ?_ a1 a2 a3 a4)
 rw [I.ok.frames,e]
structure Snd (X : Cx) (P : Pm) (f : Rho → Tw → Res D) (fl : Bool) (e : Expr) : Prop where
 b : PE X e (tB P f)
 d : fl = false → PE X e (tD P f)
 t : PT X e (tT P f)
 w : ∀ op vs pos,e = .BoolOp op vs pos → PW X e (tT P f)
theorem Snd.plain {X : Cx} {P : Pm} {f : Rho → Tw → Res D} {fl : Bool} {e : Expr} (hK : X.K = P.K) (h : PE X e (tD P f)) (he : ∀ whole,isTrue e X.env whole = (do let v ← whole;standAt e.pos;holding [v] (truthy v))) (nw : ∀ op vs pos,e ≠ .BoolOp op vs pos) : Snd X P f fl e:=
 ⟨tB_tD h,fun _=>h,t_plain hK (tB_tD h) he,fun op vs pos z=>absurd z (nw op vs pos)⟩
section
variable {tb : Tb} {N : List Str} {G : Gam} {cs : Nat → D} {cl : Nat → Addr} {X : Cx} {P : Pm} {c : Cs}
theorem and2 {a b : Bool} (h : (a && b) = true) : a = true ∧ b = true:=Bool.and_eq_true_iff.mp h
theorem nameB_of {x : Str} (h : nameB x = true) : (x == ("__debug__" : Str)) = false ∧ (x == ("__classdict__" : Str)) = false ∧ x ≠ "__name__" := by
 obtain ⟨h1,h3⟩:=and2 h
 obtain ⟨h1,h2⟩:=and2 h1
 exact ⟨by simpa using h1,by simpa using h2,of_decide_eq_true h3⟩
theorem varB_of (ok : Ok tb N G cs cl X P c) {i : Nat} {x : Str} (h : varB N c i x = true) : X.N[i]? = some x ∧ Vis X.env.scope x ∧ (x == ("__debug__" : Str)) = false ∧ (x == ("__classdict__" : Str)) = false:=by
 obtain ⟨h1,h3⟩:=and2 h
 obtain ⟨h1,h2⟩:=and2 h1
 obtain ⟨n1,n2,_⟩:=nameB_of h3
 refine ⟨by rw [ok.hN];exact of_decide_eq_true h1,?_,n1,n2⟩
 rw [ok.sc]
 unfold visB at h2
 unfold Vis
 split at h2
 · rename_i e
   exact .inl e
 · rename_i e
   exact .inr (.inl e)
 · rename_i e
   exact .inr (.inr e)
 · cases h2
theorem tgtB_of (ok : Ok tb N G cs cl X P c) {i : Nat} {x : Str} (h : tgtB N c i x = true) : X.N[i]? = some x ∧ Loc X.env.scope x ∧ (X.fn x = true ∨ X.env.scope.names.lookup x = some .local):=by
 obtain ⟨h1,h3⟩:=and2 h
 obtain ⟨h1,h2⟩:=and2 h1
 refine ⟨by rw [ok.hN];exact of_decide_eq_true h1,?_⟩
 rw [ok.sc,ok.fn]
 unfold locB at h2
 unfold L2.Loc
 split at h2
 · rename_i e
   exact ⟨.inl e,.inr e⟩
 · rename_i e
   exact ⟨.inr e,.inl h2⟩
 · cases h2
theorem glB_of (ok : Ok tb N G cs cl X P c) {x : Str} (h : glB c x = true) : Gl X x ∧ (x == ("__debug__" : Str)) = false ∧ x ≠ "__name__" := by
 obtain ⟨h1,h2⟩:=and2 h
 obtain ⟨n1,n2,n3⟩:=nameB_of h1
 refine ⟨?_,n1,n3⟩
 show X.env.scope.names.lookup x = _
 rw [ok.sc]
 split at h2
 · rename_i e
   exact e
 · cases h2
theorem star_of {e : Expr} {es : List Expr} {env : Env} (h : nStar e = true) : starEach (e :: es) env = (false,eval e env) :: starEach es env:=by
 cases e <;> first | rfl | (cases h;done)
theorem plain_of {b : Expr} (h : nSlice b = true) : PlainIx b:=by
 intro o i
 cases b <;> first | rfl | (cases h;done)
theorem fold_of {e : Expr} {env : Env} (h : nSet e = true) : ∀ x,foldedSetIterable e env x = pure x:=by
 intro x
 cases e <;> first | rfl | (cases h;done)
theorem base_of {e : Expr} {m : Str} {env : Env} (h : nCall e = true) : attributeBase e m env (eval e env) = eval e env:=by
 cases e <;> first | rfl | (cases h;done) | skip
 rename_i f as ks p
 cases as with
 | nil=>cases h
 | cons a as=>cases f <;> rfl
theorem Ok.blk (ok : Ok tb N G cs cl X P c) (scope : Scope) (s : Shared) (H : Hp) (C : Addr) (cls : List (Str × Addr)) (fp : List Addr) : Ok tb N G cs cl (X.blk s H scope (compEnvC scope cls C X.env) fp) P.nox (blkCs c scope) where
 hK:=ok.hK
 hN:=ok.hN
 nd:=ok.nd
 sc:=by
  show relS scope X.env.scope = relS scope c.sc
  rw [ok.sc]
 fn:=rfl
 calm:=ok.calm
 rm33:=ok.rm33
 pyf:=ok.pyf
 hcl:=ok.hcl
 hpw:=ok.hpw
 free:=ok.free
 con:=ok.con
 conT:=fun g x e z=>⟨(ok.conT g x e z).ex⟩
 call:=fun d i sh e h=>by
  obtain ⟨f,fd,ps,Γ,h1⟩:=(ok.call d i sh e h).ex
  exact ⟨f,fd,ps,Γ,h1⟩
 tk:=fun u s' ⟨a,B,sI,pins,σ,H,cls,d,e,I,nb,up,sky,na,os,ag,w⟩=>by
  obtain ⟨n,_,_,z⟩:=w
  exact z
 own:=PassesOwn.never
 exc:=fun n x e=>by
  obtain ⟨h1,h2,h3,h4⟩:=ok.exc n x e
  exact ⟨h1,h2,h3,h4⟩
 nine:=ok.nine
 form:=ok.form
 heard:=fun _ z=>by cases z
 lamT:=fun z=>by cases z
 top:=fun z=>by cases z
theorem scB_ok {N ps : List Str} {sc : Scope} (h : scB N ps sc = true) : FnScope N ps sc:=by
 unfold scB at h
 obtain ⟨h,h7⟩:=and2 h
 obtain ⟨h,h6⟩:=and2 h
 obtain ⟨h,h5⟩:=and2 h
 obtain ⟨h,h4⟩:=and2 h
 obtain ⟨h,h3⟩:=and2 h
 obtain ⟨h1,h2⟩:=and2 h
 refine ⟨of_decide_eq_true h1,by simpa using h2,by simpa using h3,of_decide_eq_true h4,of_decide_eq_true h5,fun x hx=>?_,fun y hy=>of_decide_eq_true (List.all_eq_true.mp h7 y hy)⟩
 have:=List.all_eq_true.mp h6 x hx
 rcases Bool.or_eq_true_iff.mp this with h | h
 · exact .inl (of_decide_eq_true h)
 · exact .inr (of_decide_eq_true h)
theorem map_get {ds : List D} {n i : Nat} {s : Sl} (h : (ds.map Sl.val ++ List.replicate n Sl.un)[i]? = some s) : (∃ d,s = .val d ∧ ds[i]? = some d) ∨ s = .un:=by
 by_cases hi : i < ds.length
 · rw [List.getElem?_append_left (by rw [List.length_map];exact hi),List.getElem?_map] at h
   obtain ⟨d,e,z⟩:=Option.map_eq_some_iff.mp h
   exact .inl ⟨d,z.symm,e⟩
 · rw [List.getElem?_append_right (by rw [List.length_map];omega),List.getElem?_replicate] at h
   split at h
   · exact .inr (Option.some.inj h).symm
   · cases h
theorem Rel.start {K : PySem.W.Frag} {T : Tn} {F H : Hp} {t : Tw} {N : List Str} {vs : List V} {ds : List D} (R : RelH K T F H F t H) (rv : RpL K T F vs ds) : Rel K T F H F (startR N ds) t (L2.start N vs) H:=by
 refine ⟨R,?_,fun i d h=>?_,fun i d h=>?_,fun i j d e q h=>?_⟩
 · unfold startR L2.start
   simp [rv.length]
 · rcases map_get h with ⟨d',z,e⟩ | z
   · cases z
     obtain ⟨v,ev,q⟩:=rv.get e
     refine ⟨v,?_,q⟩
     unfold L2.start
     have hi : i < vs.length:=(List.getElem?_eq_some_iff.mp ev).1
     rw [List.getElem?_append_left (by rw [List.length_map];exact hi),List.getElem?_map,ev]
     rfl
   · cases z
 · rcases map_get h with ⟨d',z,e⟩ | z <;> cases z
 · rcases map_get h with ⟨d',z,e⟩ | z <;> cases z
theorem dsp_of : ∀ {kvs : List (Str × Cst)} {ks : List (Option Expr)} {vs : List Expr},mDsp kvs ks vs = true → DspIs kvs ks vs
 | [],[],[],_=>.nil
 | (x,k) :: r,some (.Constant (.str y) j q) :: ks,.Constant k' j' q' :: vs,h=>by
  obtain ⟨h1,h2⟩:=and2 (show (decide (x = y) && decide (k.k = k') && mDsp r ks vs) = true from h)
  obtain ⟨h3,h4⟩:=and2 h1
  obtain rfl:=of_decide_eq_true h3
  obtain rfl:=of_decide_eq_true h4
  exact .cons (dsp_of h2)
mutual
theorem sTg (ok : Ok tb N G cs cl X P c) : ∀ {t : Tg} {e : Expr},mTg N c t e = true → PG X e (gT P t)
 | .name i,.Name x p,h=>by
  obtain ⟨h1,h2,h3⟩:=tgtB_of ok (show tgtB N c i x = true from h)
  exact g_name (by rw [ok.hN];exact ok.nd) h1 h2 h3
 | .tup ts,.Tuple es k p,h=>by
  have h : mTgs N c ts es = true:=h
  obtain ⟨h1,h2,h3⟩:=sTgs ok h
  exact g_tup ok.hK ok.calm h1 h2 h3
theorem sTgs (ok : Ok tb N G cs cl X P c) : ∀ {ts : Tgs} {es : List Expr},mTgs N c ts es = true → PGs X es (gTs P ts) ∧ (assignEach es X.env).length = ts.count ∧ (assignEach es X.env).findIdx? (·.1) = none
 | .nil,[],_=>⟨g_nil,rfl,rfl⟩
 | .cons t ts,e :: es,h=>by
  obtain ⟨h1,h2⟩:=and2 (show (nStar e && mTg N c t e && mTgs N c ts es) = true from h)
  obtain ⟨h3,h4⟩:=and2 h1
  obtain ⟨g1,g2,g3⟩:=sTgs ok h2
  have ea : assignEach (e :: es) X.env = (false,assign e X.env) :: assignEach es X.env:=by
   cases e <;> first | rfl | (cases h3;done)
  refine ⟨g_cons (sTg ok h4) g1 (by rw [ea];rfl),?_,?_⟩
  · rw [ea,List.length_cons,g2]
    rfl
  · rw [ea,List.findIdx?_cons]
    simp [g3]
end
end
end Fm
namespace Fm
open PySem PySem.Spec PyProof.Rows L2
structure KStep (prog : Program) (w : World) (A : Around) (f S : Addr) (wr : List Addr) (G : Array GenState → Array GenState → Prop) (n : Nat) (P : Nat → Value → Prop) (St : Nat → Shared → Prop) (J0 : Shared → Prop) (J : Nat → Value → Value → Shared → Prop) : Prop where
 keep0 : ∀ s s',J0 s → Moved (S :: wr) G s s' → J0 s'
 keep : ∀ j v k s s',J j v k s → Moved (S :: wr) G s s' → J j v k s'
 one : ∀ v (s : Shared) (o : Obj) (Q : Value → Shared → Prop) (E : Value → Shared → Prop),P 0 v → J0 s → St 1 s → s.heap.get? S = some o → (∀ c,o.data ≠ .cell c) → (∀ k s',St 1 s' → s'.heap.get? S = some o → J 1 v k s' → Q k s') → wpAny (model prog w) A (call (.ref f) [v]) Q E s
 more : ∀ j v b bk (s : Shared) (o : Obj) (Q : Value → Shared → Prop) (E : Value → Shared → Prop),0 < j → j < n → P j v → J j b bk s → St (j + 1) s → s.heap.get? S = some o → (∀ c,o.data ≠ .cell c) →
  (∀ k s' g,St (j + 1) s' → s'.heap.get? S = some o → (∀ (Q' : Value → Shared → Prop) (E' : Value → Shared → Prop),Q' (.bool g) s' → wpAny (model prog w) A (richCompare .Gt k bk) Q' E' s') → J (j + 1) (if g then v else b) (if g then k else bk) s' → Q k s') → wpAny (model prog w) A (call (.ref f) [v]) Q E s
section
variable {prog : Program} {w : World} {A : Around} {R : Result → Shared → Prop} {I f S : Addr} {fp wr : List Addr} {G : Array GenState → Array GenState → Prop} {n : Nat} {P : Nat → Value → Prop} {St : Nat → Shared → Prop} {J0 : Shared → Prop} {J : Nat → Value → Value → Shared → Prop} {kw : List (Str × Value)}
end
section
variable {prog : Program} {w : World} {A : Around} {E : Value → Shared → Prop} {s : Shared}
end
end Fm
namespace Fm
open PySem PySem.Spec PyProof.Rows L2
section
variable {tb : Tb} {N : List Str} {G : Gam} {cs : Nat → D} {cl : Nat → Addr} {X : Cx} {P : Pm} {c : Cs}
structure Gd (X : Cx) (pins : List (Addr × Obj)) (σ : L2.St) (it S c' : Addr) (s : Shared) (H : Hp) : Prop where
 inv : Inv X pins σ H s
 one : FpOk X pins H it
 two : FpOk X pins H S
 code : H c' = some (LamX.CodeO c' (X.env.qual ++ "<lambda>"))
end
end Fm
namespace Fm
open PySem PySem.Spec PyProof.Rows L2
section
variable {tb : Tb} {N : List Str} {G : Gam} {cs : Nat → D} {cl : Nat → Addr} {X : Cx} {P : Pm} {c : Cs}
end
end Fm
namespace Fm
open PySem PySem.Spec PyProof.Rows L2
theorem kdl_raw {prog : Program} {w : World} {d : Addr} {es : Array DictEntry} {ep : Nat} (lo : (d == sysModules) = false) : PySem.W.KdlSrc prog w "dict" d d es.size (fun i v=>∃ hi : i < es.size,v = es[i].key) (fun h=>h.DictRaw d es ep) where
 type:=fun _ hm=>hm.typeIs
 there:=fun _ hm=>let ⟨_,ho,_⟩:=hm;⟨Heap.lt_size ho,Heap.lt_size ho⟩
 keep:=fun h h2 hm old=>hm.at (old d (.inr rfl))
 notList:=by decide
 notTuple:=by decide
 hint:=fun _ _ _ _ hm hq=>PySem.W.kdl_hint_dict hm.typeIs hq
 iter:=fun _ _ hh hm=>⟨_,_,fun _ _ hq=>wpAny_pyIter_dict_raw lo hm hq,Walks.rawKeys hh _ d (Nat.ne_of_lt (let ⟨_,ho,_⟩:=hm;Heap.lt_size ho)) es ep,⟨_,Heap.get?_push_size _ rfl,rfl,rfl⟩,hm.at fun o e=>Heap.get?_push_of_some _ e⟩
theorem vals_keys : ∀ {us : List Value} {ys : List (NestedKey × Addr × Value)},us.length = ys.length → (∀ (j : Nat) (v : Value),us[j]? = some v → ∃ y,ys[j]? = some y ∧ v = .ref y.2.1) → Vals (ys.map fun y=>V.ref y.2.1) us
 | [],[],_,_=>.nil
 | u :: us,y :: ys,hl,h=>by
  obtain ⟨y',e1,e2⟩:=h 0 u rfl
  cases e1
  exact .cons e2 (vals_keys (by simpa using hl) fun j v e=>h (j + 1) v e)
 | [],_ :: _,hl,_=>by cases hl
 | _ :: _,[],hl,_=>by cases hl
theorem RpN.refs {K : PySem.W.Frag} {T : Tn} {F : Hp} : ∀ {xs : List (NestedKey × Addr × Value)} {es : List (NestedKey × D)},RpN K T F xs es → RpL K T F (xs.map fun y=>V.ref y.2.1) (es.map fun p=>kdN p.1)
 | _,_,.nil=>.nil
 | _,_,.cons h1 _ _ _ h5=>.cons h1 h5.refs
section
variable {X : Cx} {pins : List (Addr × Obj)} {σ : L2.St} {H : Hp} {s : Shared}
end
section
variable {tb : Tb} {N : List Str} {G : Gam} {cs : Nat → D} {cl : Nat → Addr} {X : Cx} {P : Pm} {c : Cs}
end
end Fm
namespace Fm
open PySem PySem.Spec PyProof.Rows L2
section
variable {P : Pm} {X : Cx}
def rListK (X : Cx) : List V → Hp → VK → Prop:=fun xs H Q=>∃ (a : Addr) (ys : List (NestedKey × Addr × Value)),xs = [V.ref a] ∧ DO X H a ys ∧ ys.length ≤ sizeLine ∧ ∀ p,H p = none → Q (.ref p) (upd H p (.lst (ys.map fun y=>V.ref y.2.1)))
theorem call_listK (hc : X.calm = true) : CallR X (.type "list") (rListK X):=by
 intro pins s σ H xs us Q I r h
 obtain ⟨a,ys,rfl,hd,hz,q⟩:=h
 obtain ⟨u,rfl,rx⟩:=vals1 r
 cases rx
 obtain ⟨es,ep,raw,hsz,hkey⟩:=(hd.2 _ _ _ I).raw
 refine PySem.W.kdl_call (kdl_raw hd.1 (es:=es) (ep:=ep)) (I.ok.hd hc) raw (by rw [hsz];exact hz) fun h' tk acc c' kp new all=>?_
 have count : acc.toList.length = ys.length:=by rw [Array.length_toList,all.1,hsz]
 have are : Vals (ys.map fun y=>V.ref y.2.1) acc.toList:=vals_keys count fun j v e=>by
  obtain ⟨hi,ev⟩:=all.2 j v (by rw [← Array.getElem?_toList];exact e)
  obtain ⟨y,e1,e3,_⟩:=hkey j hi
  exact ⟨y,e1,ev.trans e3⟩
 exact ⟨.ref s.heap.objs.size,_,I.laid (t':=tk) kp (Nat.le_refl _) (show ObjOk X.prog X.w _ h' _ (.lst (ys.map fun y=>V.ref y.2.1)) from ⟨by rw [List.length_map];exact hz,acc.toList,c',are,by rw [Array.toArray_toList];exact new⟩),rfl,q _ (I.hok.fresh (Nat.le_refl _))⟩
theorem cn_klist (hK : X.K = P.K) (hpw : P.T.pg = X.prog ∧ P.T.wo = X.w) (hc : X.calm = true) : CallN P X (.type "list") (blt1 .klist):=by
 refine ⟨_,call_listK hc,fun {x dx d F r t σ H Q} e R rx q=>?_⟩
 cases dx with
 | dcn es=>
  cases e
  obtain ⟨a,xs,rfl,h1,hy,hz,rN⟩:=rx.dcn R
  refine ⟨a,xs,rfl,do_of hK R.sub hpw h1 hy.1 rN,hz,fun p hp=>?_⟩
  obtain ⟨R2,k2,fr⟩:=mkNew (o:=.lst (xs.map fun y=>V.ref y.2.1)) (d:=.lst (es.map fun p=>kdN p.1)) R hp ⟨_,upd_same,by rw [List.length_map];exact hz,rN.refs⟩
  exact q _ _ _ p k2 R2 (.of hp) fr
 | _=>cases e
end
end Fm
namespace Fm
open PySem PySem.Spec PyProof.Rows L2 PySem.W
abbrev px (q : Addr × List Int) : Int:=q.2.getD 0 0
abbrev py (q : Addr × List Int) : Int:=q.2.getD 1 0
section
variable {P : Program} {w : World} {A : Around} {E : Value → Shared → Prop} {s : Shared}
end
section
variable {X : Cx}
end
section
variable {P : Pm} {X : Cx} {a : Expr} {pos p1 p2 p3 : Pos} {fa : Rho → Tw → Res D}
end
end Fm
namespace Fm
open PySem PySem.Spec PyProof.Rows L2 PySem.W PySem.Froz
section
variable {P : Program} {w : World} {A : Around} {E : Value → Shared → Prop} {s : Shared}
end
section
variable {X : Cx}
end
section
variable {P : Pm} {X : Cx} {a : Expr} {pos p1 p2 p3 : Pos} {fa : Rho → Tw → Res D}
end
end Fm
namespace Fm
open PySem PySem.Spec PyProof.Rows L2 PySem.W PySem.Froz
section
variable {P : Program} {w : World} {A : Around} {E : Value → Shared → Prop} {s : Shared}
end
section
variable {X : Cx}
end
theorem sub_len {α : Type} [DecidableEq α] : ∀ {A B : List α},A.Nodup → (∀ x ∈ A,x ∈ B) → A.length ≤ B.length
 | [],_,_,_=>Nat.zero_le _
 | a :: A,B,h,s=>by
  obtain ⟨n1,n2⟩:=List.nodup_cons.mp h
  have ih:=sub_len (B:=B.erase a) n2 fun x hx=>(List.mem_erase_of_ne fun (e : x = a)=>n1 (by rw [← e];exact hx)).mpr (s x (List.mem_cons_of_mem _ hx))
  have:=List.length_erase_of_mem (s a List.mem_cons_self)
  have:=List.length_pos_of_mem (s a List.mem_cons_self)
  rw [List.length_cons]
  omega
section
variable {P : Pm} {X : Cx} {a : Expr} {pos p1 p2 p3 : Pos} {fa : Rho → Tw → Res D}
end
end Fm
namespace Fm
open PySem PySem.Spec PyProof.Rows L2 PySem.W PySem.Froz
section
variable {X : Cx}
end
section
variable {P : Pm} {X : Cx} {a : Expr} {pos p1 p2 p3 : Pos} {fa : Rho → Tw → Res D}
end
end Fm
namespace Fm
open PySem PySem.Spec PyProof.Rows L2 PySem.W
section
variable {X : Cx}
end
section
variable {P : Pm} {X : Cx} {a : Expr} {pos p1 : Pos} {fa : Rho → Tw → Res D}
end
end Fm
namespace Fm
open PySem PySem.Spec PyProof.Rows L2
def tryE (f : Rho → Tw → Res (Fl × Rho)) : Rho → Tw → Res (Fl × Rho):=fun r t=>match f r t with
 | .exc _ _=>.bad
 | x=>x
section
variable {tb : Tb} {N : List Str} {G : Gam} {cs : Nat → D} {cl : Nat → Addr} {X : Cx} {P : Pm} {c : Cs}
end
end Fm
namespace Fm
open PySem PySem.Spec PyProof.Rows L2
def Pm.toX (P : Pm) (XE : Nat → Hp → Prop) : Pm:=⟨P.K,P.T,P.F0,P.H0,XE⟩
section
variable {tb : Tb} {N : List Str} {G : Gam} {cs : Nat → D} {cl : Nat → Addr} {X : Cx} {P : Pm} {c : Cs}
end
end Fm
namespace Fm
open PySem PySem.Spec PyProof.Rows L2
section
variable {P : Pm} {X : Cx} {fa fb : Rho → Tw → Res D}
end
end Fm
namespace Fm
open PySem PySem.Spec PyProof.Rows L2
section
variable {P : Pm} {X : Cx} {a : Expr} {p1 p2 : Pos} {fa : Rho → Tw → Res D}
end
end Fm
namespace Fm
open PySem PySem.Spec PyProof.Rows L2
section
variable {P : Pm} {X : Cx} {fk f1 f2 fv : Rho → Tw → Res D}
end
end Fm
namespace Fm
open PySem PySem.Spec PyProof.Rows L2
section
variable {P : Pm} {X : Cx} {a b : Expr} {pos p1 tpos : Pos} {nm : Str} {fa fb : Rho → Tw → Res D}
end
end Fm
namespace Fm
open PySem PySem.Spec PyProof.Rows L2 PySem.W
def LeftX (M : Model) (A : Around) (E : Value → Shared → Prop) (use : Option (Value → Sem Unit)) (Q : Value → Shared → Prop) (acc : Value) (ce : Env) : Result → Shared → Prop
 | .ok f,t=>compPost M A E use Q acc ce.locals (.ok f) t
 | .error x,t=>∃ m,t.heap.Ns ce.locals m ∧ ∀ g,Heap.SameBut ce.locals t.heap g → wpAny M A (passOn "comprehension.variables-let-go" x ce : Sem Value) (fun _ _=>False) E { t with heap:=g }
section
variable {M : Model} {A : Around} {E : Value → Shared → Prop} {s : Shared} {env : Env}
theorem comp_both {e : Expr} {scope : Scope} {pos : Pos} {new first : Sem Value} {c : Comprehension} {cs : List Comprehension} {cl : List (Str × Addr)} {use : Option (Value → Sem Unit)} {Q : Value → Shared → Prop} (e1 : clausesOf e = c :: cs) (e2 : ∀ v,foldedSetIterable c.iter env v = pure v) (e3 : closureFor scope env = pure cl)
  (k : scope.kind = .function) (one : ∀ y ∈ scope.names,y.2 = .local → scope.names.lookup y.1 = some .local)
  (h : wpAny M A first (fun x s1=>wpAny M A (pyIter x) (fun it s2=>wpAny M A new (fun acc s3=>wpAny M A (newFunctionEnv scope env.globals cl [] env.qual none .none (some env))
   (fun ce s4=>codeAny M A (.compStart e 0 it acc { ce with scope:=relabel scope env }) (LeftX M A E use Q acc { ce with scope:=relabel scope env }) s4) E s3) E s2) E s1) E s) :
  wpAny M A (comprehension e scope env pos new false first use) Q E s:=by
 unfold comprehension
 rw [e3,e1]
 refine wpAny_bind (wpAny_mono h (fun x s1 h=>?_) fun _ _ z=>z)
 refine wpAny_bind (wpAny_standAt (wpAny_bind (wpAny_of_eq (e2 x) (wpAny_bind (wpAny_holding ?_)))))
 refine wpAny_mono h (fun it s2 h=>?_) fun _ _ z=>z
 refine wpAny_standIf (wpAny_bind ?_)
 refine wpAny_mono h (fun acc s3 h=>?_) fun _ _ z=>z
 refine wpAny_bind (wpAny_pure (wpAny_bind ?_))
 refine wpAny_mono h (fun ce s4 h=>?_) fun _ _ z=>z
 dsimp only
 have own : ∀ y ∈ (scope.names.filter fun x=>(x.2 == .local || x.2 == .cell) && x.1 != (".0" : Str)).reverse,y.2 = .local → Env.kindOf { ce with scope:=relabel scope env } y.1 = some .local:=fun y m l=>
  lookup_relabel_local (one y (List.mem_filter.mp (List.mem_reverse.mp m)).1 l)
 refine wpAny_holding (wpAny_bind (wpAny_attempt (wpAny_holding ?_)))
 refine wpAny_run (codeAny_mono h fun r t h=>?_)
 cases r with
 | ok f=>
  cases use with
  | none=>
   obtain ⟨m,n,h⟩:=h
   refine wpAny_bind (wpAny_holding ?_)
   exact wpAny_comp_letGo (cenv:={ ce with scope:=relabel scope env }) k _ t m own n fun g _ _ b=>wpAny_pure (h g b)
  | some u=>
   refine wpAny_bind (wpAny_rule (wpAny_bind (wpAny_holding ?_)))
   refine wpAny_mono h (fun _ t2 h=>?_) fun _ _ z=>z
   obtain ⟨m,n,h⟩:=h
   refine wpAny_bind (wpAny_comp_letGo (cenv:={ ce with scope:=relabel scope env }) k _ t2 m (fun y m=>own y ?_) n fun g _ _ b=>wpAny_pure (h g b))
   exact (List.mem_append.mp m).elim List.mem_of_mem_drop List.mem_of_mem_take
 | error x=>
  obtain ⟨m,n,h⟩:=h
  refine wpAny_bind (wpAny_holding ?_)
  exact wpAny_comp_letGo (cenv:={ ce with scope:=relabel scope env }) k _ t m own n fun g _ _ b=>wpAny_mono (h g b) (fun _ _ z=>z.elim) fun _ _ z=>z
end
section
variable {M : Model} {A : Around} {E : Value → Shared → Prop} {s : Shared} {Z : Obj → Prop} {B : Heap} {env : Env} {outer : List Env} {L a : Addr} {Q : Unit → Shared → Prop}
theorem note_over {fl : Value} (hZ : HandSPX.Steady Z) (hfr : A.frames = some (env :: outer)) (hf : env.frame = some L) (nf : (fl == rawInt L) = false) (kb : B.StaysIn s.heap) (hn : B.get? a = none) (ff : s.heap.FunFrames B (env :: outer)) (tr : HandSPX.TracedZ s.heap B a Z fl)
  (hQ : ∀ g,HandSPX.HeldZ B (env :: outer) a Z L g → s.heap.UpToSlots g → Q () { s with heap:=g }) : wpAny M A (noteFrame (.ref a) env) Q E s:=by
 obtain ⟨o,vs,T,oT,ts,ga,z,da,v1,bT,ne,gT,dT,t3⟩:=tr
 have st : ∀ b,b ≠ T → (s.heap.update T (Obj.mapFields (·.setIfInBounds 3 Value.none))).get? b = s.heap.get? b:=fun b n=>Heap.get?_update_other _ _ n.symm
 have nT : ∀ b x,s.heap.get? b = some x → (∀ ws,x.data ≠ .fields ws) → b ≠ T:=by
  rintro b x e k rfl
  rw [gT] at e
  cases e
  exact k ts dT
 unfold noteFrame
 simp only [hf]
 refine wpAny_bind (wpAny_field ga da v1 ?_)
 rw [if_pos (by simp)]
 refine wpAny_bind (wpAny_field gT dT t3 ?_)
 rw [nf,if_neg (by decide)]
 refine wpAny_bind (wpAny_setField gT dT (Array.getElem?_eq_some_iff.mp t3).1 ?_)
 refine HandSPX.wpAny_entryZ hZ hfr (ff.of_keeps fun b x e k=>⟨x,(st b (nT b x e k)).trans e,rfl⟩) hf ((st a ne.symm).trans ga) (fun b x e=>(st b ?_).trans (kb b x e)) hn da (Array.getElem?_eq_some_iff.mp v1).1 z fun g ⟨x1,x2,x3,x4⟩=>
  hQ g ⟨x1,hn,x2,x3⟩ fun b x e k=>x4 b x ((st b (nT b x e k)).trans e) k
 rintro rfl
 rw [bT] at e
 cases e
theorem rawInt_ne {n m : Addr} (h : n ≠ m) : (rawInt n == rawInt m) = false:=by
 unfold rawInt
 simp
 exact fun e=>h (by exact_mod_cast e)
theorem sky_note {C : Addr} (hZ : HandSPX.Steady Z) (hfr : A.frames = some (env :: outer)) (hf : env.frame = some L) (nL : C ≠ L) (x : Sky B (env :: outer) a Z C s.heap)
  (hQ : ∀ g,HandSPX.HeldZ B (env :: outer) a Z L g → s.heap.UpToSlots g → Q () { s with heap:=g }) : wpAny M A (noteFrame (.ref a) env) Q E s:=by
 rcases x with ⟨kb,hn,ff,o,vs,e,z,d,v1⟩ | ⟨kb,hn,ff,tr⟩ | ⟨kb,hn,ff,tr⟩
 · exact HandSPX.look_newZ hZ hfr ff hf e kb hn d v1 z hQ
 · exact note_over hZ hfr hf (by simp [rawInt]) kb hn ff tr hQ
 · exact note_over hZ hfr hf (rawInt_ne nL) kb hn ff tr hQ
theorem frames_shift {B B' h g : Heap} (k : ∀ b,B.get? b = none → B'.get? b = none ∧ g.get? b = h.get? b) : ∀ {l : List Env},h.FunFrames B l → g.FunFrames B' l
 | [],_=>trivial
 | _ :: _,⟨q,⟨L,o,hf,bn,e,nd⟩,r⟩=>⟨q,⟨L,o,hf,(k L bn).1,(k L bn).2.trans e,nd⟩,frames_shift k r⟩
theorem held_shift {B' g : Heap} {l : List Env} (k : ∀ b,B.get? b = none → B'.get? b = none ∧ g.get? b = s.heap.get? b) (st : B'.StaysIn g) (x : HandSPX.HeldZ B l a Z L s.heap) : HandSPX.HeldZ B' l a Z L g:=by
 obtain ⟨_,hn,ff,o,vs,T,oT,ts,ga,z,da,v1,bT,ne,gT,dT,t3⟩:=x
 exact ⟨st,(k a hn).1,frames_shift k ff,o,vs,T,oT,ts,(k a hn).2.trans ga,z,da,v1,(k T bT).1,ne,(k T bT).2.trans gT,dT,t3⟩
end
section
variable {X : Cx} {pins : List (Addr × Obj)} {σ : L2.St} {H3 : Hp} {s3 : Shared} {fp : List Addr} {ce : Env} {scope : Scope} {E0 : XK} {Q : Value → Shared → Prop} {acc : Value} {use : Option (Value → Sem Unit)}
theorem blk_takes (B0 : Bk X pins σ H3 s3 fp ce) (hs : X.stack = X.env :: X.outer) (hf : X.env.frame = some X.env.locals) (hce : ce.frame = X.env.frame) (tk : Takes X fun c d _ H=>E0 c d H) :
  Takes ((X.blk s3 H3 scope ce fp).wish (notedBy (model X.prog X.w) X.A ce fun e t=>LeftX (model X.prog X.w) X.A X.xe use Q acc ce (.error e) t)) fun c d _ H=>E0 c d H:=by
 rintro u s' ⟨a,B,sI,pins',σ',H',cls,d,rfl,I',nb,up,sky,na,os,ag,w⟩
 have I1 : Inv (X.blk s3 H3 scope ce fp) ([] ++ pins') σ' H' sI:=I'.unwish
 have I2 : Inv X pins σ H' sI:=B0.back I1.unpinned
 have un : H' s3.heap.objs.size = none:=B0.loc ▸ I1.free
 have foot : FpOk X pins H' s3.heap.objs.size:=B0.I.fpOk (Nat.le_refl _) un
 have hfr : X.A.frames = some (X.env :: X.outer):=by rw [B0.I.ok.frames,hs]
 have nL : ce.locals ≠ X.env.locals:=B0.loc ▸ foot.2.1
 have nfr : ce.locals ∉ frs X.stack:=by
  rw [hs]
  intro m
  obtain ⟨v,hv,q⟩:=List.mem_filterMap.mp m
  rcases List.mem_cons.mp hv with e | hv
  · rw [e,hf] at q
    exact nL (Option.some.inj q).symm
  · exact foot.2.2.1 (B0.loc ▸ List.mem_filterMap.mpr ⟨v,hv,q⟩)
 obtain ⟨m,⟨oC,es,ep,gC,rest⟩,_⟩:=I1.loc
 have bC : B.get? ce.locals = some oC:=nb _ _ gC nfr
 show wpAny (model X.prog X.w) X.A (noteFrame (.ref a) ce) _ _ s'
 have same : noteFrame (.ref a) ce = noteFrame (.ref a) X.env:=by
  unfold PySem.noteFrame PySem.frameOf
  rw [hce]
 rw [same]
 refine sky_note Zc.steady hfr hf nL (by rw [← hs];exact sky) fun h3 held up3=>?_
 refine ⟨m,⟨oC,es,ep,held.1 _ _ bC,rest⟩,fun h4 sb=>?_⟩
 have off : ∀ b,B.get? b = none → b ≠ ce.locals:=by
  rintro b e rfl
  rw [bC] at e
  cases e
 have hid : ∀ b,B.get? b = none → (hideAll B [ce.locals]).get? b = none ∧ h4.get? b = h3.get? b:=fun b e=>by
  refine ⟨?_,sb.2 b (off b e)⟩
  cases q : (hideAll B [ce.locals]).get? b with
  | none=>rfl
  | some o=>
   have z:=of_hideAll _ q
   rw [e] at z
   cases z
 have notC : ∀ {h : Heap} {b : Addr} {o : Obj},(hideAll h [ce.locals]).get? b = some o → b ≠ ce.locals:=by
  intro h b o e z
  rw [z,hideAll_none _ (List.mem_singleton.mpr rfl)] at e
  cases e
 have held4 : HandSPX.HeldZ (hideAll B [ce.locals]) (X.env :: X.outer) a (Zc cls d) X.env.locals h4:=
  held_shift (s:={ s' with heap:=h3 }) hid (fun b o e=>(sb.2 b (notC e)).trans (held.1 b o (of_hideAll _ e))) held
 obtain ⟨_,_,_,oe,vs,T,oT,ts,ga,z,da,v1,_⟩:=id held4
 unfold PySem.passOn
 refine wpAny_bind (wpAny_field ga da v1 ?_)
 rw [if_neg (by simp)]
 have fin : wpAny (model X.prog X.w) X.A (setFlight (.ref a) ce.frame) (fun _ s4=>wpAny (model X.prog X.w) X.A (throw (.ref a) : Sem Value) (fun _ _=>False) X.xe s4) X.xe { s' with heap:=h4 }:=by
  rw [hce,hf]
  refine HandSPX.setFlight_onZ held4 fun h5 held5 up5=>wpAny_throw (tk _ _ ?_)
  refine ⟨a,hideAll B [ce.locals],{ sI with heap:=hideAll sI.heap [ce.locals] },pins,σ,H',cls,d,rfl,?_,fun b o e k=>hideAll_get _ (nb b o (of_hideAll _ e) k) (by simpa using notC e),fun b o e k=>?_,.inr (.inr (by rw [hs];exact held5)),na,os,ag,w⟩
  · obtain ⟨a1,a2,a3,a4,a5,a6⟩:=foot
    rw [← B0.loc] at a1 a2 a3 a4 a5 a6
    exact I2.turned (t':=sI.toks) (fun b o n e=>hideAll_get _ e (by simpa using n)) a1 a2 a4 a5 a6
  · have n:=notC e
    obtain ⟨sl,e1⟩:=(up.trans up3) b o (of_hideAll _ e) k
    exact up5 b _ ((sb.2 b n).trans e1) k |>.imp fun _ q=>q
 first
  | exact wpAny_bind (wpAny_pure (wpAny_bind fin))
  | exact wpAny_bind fin
theorem comp_beginX {H : Hp} {s : Shared} {e : Expr} {c : Comprehension} {gs : List Comprehension} {own : List (Str × Nat)} {pos : Pos} {wi : TI} {new : Sem Value} {u : Addr → HO} {oD : Obj} {V : It → Addr → Hp → Prop} (hN : X.N.Nodup) (hcl : clausesOf e = c :: gs)
  (nf : ∀ x,foldedSetIterable c.iter X.env x = pure x) (ok : BlkOk X.N X.env.scope scope own) (hi : PI X c.target c.iter wi) (I : Inv X pins σ H s)
  (make : ∀ (s2 : Shared) (R : Value → Shared → Prop),R (.ref s2.heap.objs.size) { s2 with heap:=s2.heap.push oD } → wpAny (model X.prog X.w) X.A new R X.xe s2)
  (laid : ∀ (h : Heap) (H' : Hp),ObjOk X.prog X.w H' (h.push oD) h.objs.size (u h.objs.size)) (h : wi σ H fun J H1=>∀ D,H1 D = none → V J D (L2.upd H1 D (u D)))
  (run : ∀ (it : Addr) (fp : List Addr) (tn : Nat → Heap → Prop) (J : It) (D : Addr) (H3 : Hp) (s3 : Shared) (cl : List (Str × Addr)) (s4 : Shared),Bk X pins σ H3 s3 fp (compEnvC scope cl s3.heap.objs.size X.env) → Turn X.prog X.w X.K c.target J fp it tn → tn 0 s4.heap →
   Inv (X.blk s3 H3 scope (compEnvC scope cl s3.heap.objs.size X.env) fp) [] (wipe σ (own.map (·.2))) H3 s4 → (∀ b ∈ fp,H3 b = none) → V J D H3 →
   codeAny (model X.prog X.w) X.A (.compStart e 0 (.ref it) (.ref D) (compEnvC scope cl s3.heap.objs.size X.env)) (LeftX (model X.prog X.w) X.A X.xe use Q (.ref D) (compEnvC scope cl s3.heap.objs.size X.env)) s4) :
  wpAny (model X.prog X.w) X.A (comprehension e scope X.env pos new false (eval c.iter X.env) use) Q X.xe s:=by
 have cells : ∀ y ∈ scope.names,y.2 = .free → ∃ c,X.env.cells.lookup y.1 = some c:=fun y hy z=>I.ok.has _ (ok.free y hy z)
 have src:=hi.run pins s σ H _ I h
 refine comp_both hcl nf (closure_ok cells) ok.kind (fun y hy z=>z ▸ ok.uniq y hy) (thn src fun _ s1 q=>thn q fun _ s2 ⟨it,fp,tn,J,H2,ev,I2,T,st,foot,q⟩=>make s2 _ (newEnv_comp ?_))
 subst ev
 have fresh : H2 s2.heap.objs.size = none:=I2.hok.fresh (Nat.le_refl _)
 have old : ∀ b ∈ fp,b < s2.heap.objs.size:=fun b hb=>let ⟨_,e,_⟩:=T.obj _ _ st b hb;Heap.lt_size e
 have I3 : Inv X pins σ (L2.upd H2 s2.heap.objs.size (u s2.heap.objs.size)) { s2 with heap:=s2.heap.push oD }:=I2.laid (t':=s2.toks) (fun _ _=>Heap.get?_push_of_some _) (Nat.le_refl _) (laid _ _)
 have foot3 : ∀ b ∈ fp,FpOk X pins (L2.upd H2 s2.heap.objs.size (u s2.heap.objs.size)) b:=fun b hb=>⟨(upd_ne (Nat.ne_of_lt (old b hb))).trans (foot b hb).1,(foot b hb).2⟩
 refine run it fp tn J _ _ { s2 with heap:=s2.heap.push oD } _ _ ⟨I3,foot3,rfl⟩ T ?_ (block_start I3 ok hN fun b hb=>⟨foot3 b hb,?_⟩) (fun b hb=>(foot3 b hb).1) (q _ fresh)
 · exact T.keep _ _ _ st fun b _ o e=>pushCells_keeps _ _ _ _ (Heap.get?_push_of_some _ (Heap.get?_push_of_some _ e))
 · rw [Heap.size_push]
   exact Nat.lt_succ_of_lt (old b hb)
end
end Fm
namespace Fm
open PySem PySem.Spec PyProof.Rows L2 PySem.W
abbrev InBlkX (X : Cx) (E0 : XK) (scope : Scope) (p : Cx → Prop) : Prop:=∀ (s : Shared) (H : Hp) (C : Addr) (cl : List (Str × Addr)) (fp : List Addr) (xe : Value → Shared → Prop),Takes ((X.blk s H scope (compEnvC scope cl C X.env) fp).wish xe) (fun c d _ H=>E0 c d H) →
 PassesOwn (model X.prog X.w) X.A (compEnvC scope cl C X.env) xe → p ((X.blk s H scope (compEnvC scope cl C X.env) fp).wish xe)
abbrev LcZ (g : TG) (te : TE) (vs : List Nat) (σ : L2.St) (Q : VK) (J : It) (a : Addr) (H0 : Hp) : Prop:=∃ W : Nat → Nat → Hp → Prop,(∃ m,W 0 m H0) ∧ ∀ i m H,W i m H →
 J.stop i H ∧ Q (.ref a) H ∨ J.go i H ∧ ∃ Nx : Hp → Prop,(∀ H',Nx H' → ∃ m',m' < m ∧ W (i + 1) m' H') ∧ ∀ x H',J.yld i H x H' → g x (wipe σ vs) H' fun σ2 H2=>wipe σ2 vs = wipe σ vs ∧ tYes σ2 H2 fun b H3=>
  if b = true then te σ2 H3 fun y H4=>∃ acc,H4 a = some (.lst acc) ∧ acc.length < sizeLine ∧ Nx (L2.upd H4 a (.lst (acc ++ [y]))) else Nx H3
section
variable {X : Cx} {E0 : XK} {elt tg iter : Expr} {scope : Scope} {own : List (Str × Nat)} {pos pos' : Pos} {wi : TI} {g : TG} {te : TE}
theorem lcx_run {pins : List (Addr × Obj)} {s : Shared} {σ : L2.St} {H : Hp} {Q : VK} {use : Option (Value → Sem Unit)} {R : Value → Shared → Prop} (hs : X.stack = X.env :: X.outer) (hf : X.env.frame = some X.env.locals) (tk : Takes X fun c d _ H=>E0 c d H) (hc : X.calm = true) (hN : X.N.Nodup) (hi : PI X tg iter wi)
  (ok : BlkOk X.N X.env.scope scope own) (hg : InBlk X scope fun Y=>PG Y tg g) (he : InBlkX X E0 scope fun Y=>PE Y elt te) (nf : ∀ x,foldedSetIterable iter X.env x = pure x) (I : Inv X pins σ H s) (h : tLc wi g tYes te (own.map (·.2)) σ H Q)
  (fin : ∀ (D C : Addr) (t : Shared) (m : Str → Option Value) (H' : Hp),Inv X pins σ H' t → Q (.ref D) H' → t.heap.Ns C m → FpOk X pins H' C → compPost (model X.prog X.w) X.A X.xe use R (.ref D) C (.ok .next) t) :
  wpAny (model X.prog X.w) X.A (comprehension (.ListComp elt [⟨tg,iter,[],0⟩] scope pos) scope X.env pos' (newList []) false (eval iter X.env) use) R X.xe s:=by
 refine comp_beginX (V:=LcZ g te (own.map fun q : Str × Nat=>q.2) σ Q) (c:=⟨tg,iter,[],0⟩) (u:=fun _=>.lst []) (oD:={ cls:=.type "list",data:=.seq ([] : List Value).toArray }) hN rfl nf ok hi I (fun _ _ q=>wpAny_newObj_type q (Nat.zero_le _)) (fun h _=>⟨Nat.zero_le _,[],0,.nil,Heap.get?_push_size _ rfl⟩) h ?_
 intro it fp tn J D H3 s3 cl s4 B T st4 I4 none4 ⟨W,⟨m0,w0⟩,turn⟩
 have pg:=hg s3 H3 s3.heap.objs.size cl fp
 have pe:=he s3 H3 s3.heap.objs.size cl fp _ (blk_takes (use:=use) (Q:=R) (acc:=.ref D) B hs hf rfl tk) PassesOwn.looking
 generalize compEnvC scope cl s3.heap.objs.size X.env = ce at B I4 pg pe ⊢
 have loop : codeAny (model X.prog X.w) X.A (.compLoop (.ListComp elt [⟨tg,iter,[],0⟩] scope pos) 0 (.ref it) (.ref D) ce) (LeftX (model X.prog X.w) X.A X.xe use R (.ref D) ce) s4:=by
  refine compLoop_any (fun n t=>∃ i Hi,(Inv (X.blk s3 H3 scope ce fp) [] (wipe σ (own.map (·.2))) Hi t ∧ tn i t.heap ∧ ∀ b ∈ fp,Hi b = none) ∧ W i n Hi) (fun n t=>?_) m0 ⟨0,H3,⟨I4,st4,none4⟩,w0⟩
  rintro ⟨i,Hi,⟨Ii,sti,nonei⟩,wi⟩
  have foot:=blk_foot Ii nonei
  rcases turn i n Hi wi with ⟨stop,q⟩ | ⟨go,Nx,less,step⟩
  · refine thnF (T.done (X.blk s3 H3 scope ce fp) rfl rfl rfl hc i [] t _ Hi (fun _ _=>False) Ii foot sti stop) fun _ _ ⟨er,I6⟩=>er ▸ ?_
    obtain ⟨m,frame,_⟩:=I6.loc
    have un : Hi s3.heap.objs.size = none:=B.loc ▸ I6.free
    have frame : Heap.Ns _ ce.locals m:=frame
    rw [B.loc] at frame
    show compPost (model X.prog X.w) X.A X.xe use R (.ref D) ce.locals (.ok .next) _
    rw [B.loc]
    exact fin D _ _ m Hi (B.back I6) q frame (B.I.fpOk (Nat.le_refl _) un)
  refine thnF (T.item (X.blk s3 H3 scope ce fp) rfl rfl rfl hc i [] t _ Hi (fun _ _=>False) Ii foot sti go) fun r s6 ⟨v,er,q⟩=>er ▸ thnF q fun _ s7 ⟨x,H7,I7,rx,y7,st7,none7⟩=>?_
  have over : ∀ {σ8 : L2.St} {s9 : Shared} {H9 : Hp},wipe σ8 (own.map (·.2)) = wipe σ (own.map (·.2)) → Inv (X.blk s3 H3 scope ce fp) ([] ++ pinsAt fp s7.heap) σ8 H9 s9 → Nx H9 → ∃ m,m < n ∧ ∃ i Hi,(Inv (X.blk s3 H3 scope ce fp) [] (wipe σ (own.map (·.2))) Hi s9 ∧ tn i s9.heap ∧ ∀ b ∈ fp,Hi b = none) ∧ W i m Hi:=fun hw I9 nx=>
   let ⟨m,lt,w⟩:=less _ nx
   ⟨m,lt,i + 1,_,turned_ok T st7 I9 (wiped hw).1 (wiped hw).2,w⟩
  have I7:=I7.pinned (blk_foot I7 none7) (T.obj _ _ st7)
  refine thnF (pg.run _ s7 _ H7 x v _ I7 rx (step x H7 y7)) fun _ s8 ⟨σ8,H8,I8,hw,q8⟩=>?_
  refine wpAny_mono ((pts_nil (X:=X.blk s3 H3 scope ce fp)).run _ s8 σ8 H8 (fun b H=>b = true ∧ te σ8 H fun y H4=>∃ acc,H4 D = some (.lst acc) ∧ acc.length < sizeLine ∧ Nx (L2.upd H4 D (.lst (acc ++ [y])))) I8 ⟨rfl,q8⟩) (fun b s9 ⟨H9,I9,eb,q9⟩=>?_) fun _ _ z=>z.elim
  subst eb
  exact wpAny_mono (pe.run _ s9 σ8 H9 _ (I9.wish _) q9) (fun yv s10 ⟨y,H10,I10,ry,acc,at_,few,nx⟩=>app_ok (X:=X.blk s3 H3 scope ce fp) I10.unwish at_ few ry fun _ I11=>over hw I11 nx) fun _ _ z=>z
 exact codeAny_compStart_list loop (T.self X.A 0 s4 _ _ st4 loop)
theorem pe_lcX (hs : X.stack = X.env :: X.outer) (hf : X.env.frame = some X.env.locals) (tk : Takes X fun c d _ H=>E0 c d H) (hc : X.calm = true) (hN : X.N.Nodup) (hi : PI X tg iter wi) (ok : BlkOk X.N X.env.scope scope own) (hg : InBlk X scope fun Y=>PG Y tg g) (he : InBlkX X E0 scope fun Y=>PE Y elt te)
  (nf : ∀ x,foldedSetIterable iter X.env x = pure x) : PE X (.ListComp elt [⟨tg,iter,[],0⟩] scope pos) (tLc wi g tYes te (own.map (·.2))):=by
 constructor
 intro pins s σ H Q I h
 rw [eval_ListComp]
 exact lcx_run hs hf tk hc hN hi ok hg he nf I h fun D C t m H' I' q n ⟨a0,a1,a2,a3,a4,a5⟩=>⟨m,n,fun g sb=>⟨.ref D,H',I'.turned (t':=t.toks) (fun b o nb e=>(sb.2 b nb).trans e) a0 a1 a3 a4 a5,rfl,q⟩⟩
theorem ps_lcX {i : Nat} {y : Str} {py spos : Pos} (hs : X.stack = X.env :: X.outer) (hf : X.env.frame = some X.env.locals) (tk : Takes X fun c d _ H=>E0 c d H) (hc : X.calm = true) (hN : X.N.Nodup) (hy : X.N[i]? = some y) (hyl : X.env.scope.names.lookup y = some .local)
  (hsw : swapsWith (.ListComp elt [⟨tg,iter,[],0⟩] scope pos) (some (.Name y py)) spos.line X.env = pure true) (hi : PI X tg iter wi) (ok : BlkOk X.N X.env.scope scope own) (hg : InBlk X scope fun Y=>PG Y tg g) (he : InBlkX X E0 scope fun Y=>PE Y elt te)
  (nf : ∀ x,foldedSetIterable iter X.env x = pure x) : PS X (.Assign [.Name y py] (.ListComp elt [⟨tg,iter,[],0⟩] scope pos) spos) (tAsg (tLc wi g tYes te (own.map (·.2))) (gName i)):=by
 constructor
 intro pins s σ H D I h
 rw [exec_Assign_Name_used _ _ _ _ hsw]
 refine wpAny_bind (wpAny_standAt (wpAny_bind (wpAny_bind ?_)))
 have h : tLc wi g tYes te (own.map (·.2)) σ H (fun x H1=>gName i x σ H1 D.nx):=h
 refine wpAny_mono (lcx_run (R:=fun _ t=>SP X pins D .next t) hs hf tk hc hN hi ok hg he nf I h fun L C t m H' I' q n ⟨a0,a1,a2,a3,a4,a5⟩=>?_) (fun _ t q=>wpAny_pure (wpAny_pure q)) fun _ _ z=>z
 show wpAny _ _ (assign (.Name y py) X.env (.ref L)) _ _ _
 refine wpAny_assign_Name (store_ok2 (v:=V.ref L) I' hN hy (.inl hyl) rfl (fun s2 I2 ⟨a,sb,ha⟩=>⟨m,n.sameBut sb ?_,fun g sg=>⟨_,H',I2.turned (t':=s2.toks) (fun b o nb e=>(sg.2 b nb).trans e) a0 a1 a3 a4 a5,q⟩⟩) (.inr hyl))
 rcases ha with z | z
 · exact fun e=>a1 (e.trans z)
 · exact fun e=>a4 y a z e.symm
end
section
variable {P : Pm} {X : Cx}
def turnX (tg : Tg) (vs : List Nat) (fe : Rho → Tw → Res D) (r : Rho) (d : D) (t : Tw) : Res D:=match setT tg d (wipeR r vs) with
 | some r2=>fe r2 t
 | none=>.bad
def compXE (tg : Tg) (vs : List Nat) (fi : Rho → Tw → Res (List D)) (fe : Rho → Tw → Res D) (r : Rho) (t : Tw) : Res D:=
 (fi r t).bind fun xs t1=>if okLen xs.length then (compXL (turnX tg vs fe r) xs t1).bind fun ys t2=>.ok (.lst ys) t2 else .bad
structure XInv (P : Pm) (f : D → Tw → Res D) (r : Rho) (σ : L2.St) (F1 H1 : Hp) (a : Addr) (ds : List Fm.D) (Z : List Fm.D → Tw → Prop) (i : Nat) (H : Hp) (F2 : Hp) (t' : Tw) (va : List V) (da : List Fm.D) : Prop where
 k : Kp P.T F1 H1 F2 H
 R : RelP P F2 r t' σ H
 d : H a = some (.lst va)
 q : RpL P.K P.T F2 va da
 l : va.length = i
 fr : F2 a = none
 e : Aft P F2 (compXL f (ds.drop i) t') fun rest t2=>Z (da ++ rest) t2
theorem still_own {T : Tn} {F H F' H' : Hp} {a : Addr} {o : HO} (k : Kp T F H F' H') (f : F a = none) (at_ : H a = some o) (n : NT o) : F' a = none:=by
 cases z : F' a with
 | none=>rfl
 | some u=>
  rcases k.new a u z with z | z
  · rw [f] at z
    cases z
  · exact (z.no at_ n).elim
theorem compX_read {tg : Tg} {vs : List Nat} {fi : Rho → Tw → Res (List D)} {fe : Rho → Tw → Res D} {w0 : Bool} (hw : w0 = true → tg.isT = true) (hsl : ∀ i ∈ tg.slots,i ∈ vs) (σ : L2.St) (H : Hp) (Q : VK) (h : tN P (compXE tg vs fi fe) σ H Q) :
  tLc (tI P false w0 fi) (gT P.nox tg) tYes (tD P fe) vs σ H Q:=by
 obtain ⟨F,r,t,R,h⟩:=h
 refine ⟨F,r,t,R,h.bind.mono fun ds t1 h J F1 H1 s1 R1 w a ha=>?_⟩
 have w : WD P w0 J (keepG P F1 H1) F1 ds:=w
 split at h
 rotate_left
 · exact h.elim
 rename_i hok
 have small : ds.length ≤ sizeLine:=by
  have:=of_decide_eq_true hok
  rw [sizeLine_eq]
  omega
 have h:=(h.bind).up s1.1
 have nTa : a ≠ P.T.a:=by
  rintro rfl
  rw [R1.tw.a] at ha
  cases ha
 have nTb : a ≠ P.T.b:=by
  rintro rfl
  rw [R1.tw.b] at ha
  cases ha
 have no : ∀ (i : Nat) (e : Fm.D),r[i]? = some (.own e) → σ[i]? ≠ some (some (.ref a)):=fun i e h1 h2=>by
  obtain ⟨q,e1,w⟩:=R1.own i e h1
  rw [h2] at e1
  cases e1
  obtain ⟨o2,ho,_⟩:=w.at_.obj
  rw [ha] at ho
  cases ho
 have b0:=R1.toRelH.newO (o:=.lst []) ha
 obtain ⟨Zz,eZ⟩ : ∃ Zz : List Fm.D → Tw → Prop,Zz = fun ys t2=>∀ v F' H' p,Kp P.T F H F' H' → RelP P F' r t2 σ H' → Nn H p → Fre P F' r σ H' v (.lst ys) p → Q v H':=⟨_,rfl⟩
 have h : Aft P F1 (compXL (turnX tg vs fe r) ds t1) Zz:=by
  rw [eZ]
  exact h.mono fun _ _ q=>q
 have nt : ∀ {xs : List V},NT (.lst xs):=by intro xs _ z;cases z
 refine ⟨fun i m Hh=>m = ds.length - i ∧ i ≤ ds.length ∧ ∃ F2 t' va da,XInv P (turnX tg vs fe r) r σ F1 H1 a ds Zz i Hh F2 t' va da,
  ⟨ds.length,by simp,Nat.zero_le _,F1,t1,[],[],Kp.of b0,R1.step b0,upd_same,.nil,rfl,R1.sub.free ha,?_⟩,fun i m H2 hW=>?_⟩
 · rw [List.drop_zero]
   exact h.mono fun _ _ q=>q
 obtain ⟨rfl,hi,F2,t',va,da,k,R2,hd,q,hl,fD,e⟩:=hW
 have hG : keepG P F1 H1 H2:=⟨k.base.trans R2.sub,k.old⟩
 by_cases hlt : i < ds.length
 · refine .inr ⟨w.goes i H2 hlt hG,fun H'=>∃ F2 t' va da,XInv P (turnX tg vs fe r) r σ F1 H1 a ds Zz (i + 1) H' F2 t' va da,fun H' hn=>⟨_,by omega,rfl,hlt,hn⟩,fun x H' hy=>?_⟩
   have hdi : ds[i]? = some ds[i]:=List.getElem?_eq_getElem hlt
   rw [List.drop_eq_getElem_cons hlt,compXL] at e
   have e:=e.bind
   obtain ⟨F3,k3,_,R3,rx⟩:=w.draw hw hdi hG hy k.base R2
   cases es : setT tg ds[i] (wipeR r vs) with
   | none=>
    rw [show turnX tg vs fe r ds[i] t' = .bad by unfold turnX;rw [es]] at e
    exact e.elim
   | some r2=>
    rw [show turnX tg vs fe r ds[i] t' = fe r2 t' by unfold turnX;rw [es]] at e
    have e:=e.up k3.1
    refine ⟨F3,wipeR r vs,t',ds[i],r2,R3.wipe vs,rx,es,fun σ' R4 c=>⟨(c.wipe hsl).trans (wipe_wipe σ vs),?_⟩⟩
    unfold tYes
    dsimp only
    rw [if_pos rfl]
    refine ⟨F3,r2,t',R4,e.mono fun d t3 e v F5 H5 k5 R6 rv=>?_⟩
    have k6 : Kp P.T F2 H2 F5 H5:=k3.trans k5
    have hd5 : H5 a = some (.lst va):=k6.old a _ hd nTa nTb nt
    have fD5:=still_own k6 fD hd nt
    have R7 : RelP P F5 r t3 σ H5:=R2.step (Kp.relH (P:=P) k6 R6)
    have R8 : RelP P F5 r t3 σ (L2.upd H5 a (.lst (va ++ [v]))):=Rel.upd R7 (by rw [hd5];simp) (fun ps z=>by rw [hd5] at z;cases z) (fun c q z=>by rw [hd5] at z;cases z) fD5 (R1.had a (.of ha)) nTa nTb no
    have e:=(e.bind).up k6.base
    refine ⟨va,hd5,by omega,F5,t3,va ++ [v],da ++ [d],?_,R8,upd_same,(q.mono k6.base).append (.cons rv .nil),by rw [List.length_append,List.length_singleton,hl],fD5,e.mono fun rest t2 z=>by rw [List.append_assoc];exact z⟩
    have k7:=k.trans k6
    refine ⟨k7.base,k7.new,fun b o hb m1 m2 m3=>?_,fun b hb=>k7.had b (hb.upd nt).1⟩
    have : b ≠ a:=by
     rintro rfl
     rw [ha] at hb
     cases hb
    rw [upd_ne this]
    exact k7.old b o hb m1 m2 m3
 · have ei : i = ds.length:=by omega
   subst ei
   refine .inl ⟨w.stops H2 hG,?_⟩
   rw [List.drop_length] at e
   have e : Zz (da ++ []) t':=e
   rw [List.append_nil,eZ] at e
   exact e _ _ _ a (s1.trans k) R2 (s1.had a (.of ha)) ⟨rfl,⟨fD,nTa,nTb,R1.had a (.of ha),va,hd,by omega,q⟩,no⟩
end
end Fm
namespace Fm
open PySem PySem.Spec PyProof.Rows L2
section
variable {tb : Tb} {N : List Str} {G : Gam} {cs : Nat → D} {cl : Nat → Addr} {X : Cx} {P : Pm} {c : Cs}
theorem Ok.blkX (ok : Ok tb N G cs cl X P c) (scope : Scope) (s : Shared) (H : Hp) (C : Addr) (cls : List (Str × Addr)) (fp : List Addr) (xe : Value → Shared → Prop) (tk : Takes ((X.blk s H scope (compEnvC scope cls C X.env) fp).wish xe) fun cc d _ H=>EX cl P.XE cc d H) (own : PassesOwn (model X.prog X.w) X.A (compEnvC scope cls C X.env) xe) :
  Ok tb N G cs cl ((X.blk s H scope (compEnvC scope cls C X.env) fp).wish xe) P (blkCs c scope):=
 let b:=ok.blk scope s H C cls fp
 { hK:=b.hK,hN:=b.hN,nd:=b.nd,sc:=b.sc,fn:=b.fn,calm:=b.calm,rm33:=b.rm33,pyf:=b.pyf,hcl:=b.hcl,hpw:=b.hpw,free:=b.free,con:=b.con
   conT:=fun g x e z=>⟨(ok.conT g x e z).ex⟩
   call:=fun d i sh e h=>⟨(ok.call d i sh e h).ex⟩
   tk:=tk
   own:=own
   exc:=fun n x e=>by
    have q:=ok.exc n x e
    exact ⟨q.1,q.2,q.3,q.4⟩
   nine:=b.nine
   form:=b.form
   heard:=fun _ h=>Bool.noConfusion h
   lamT:=fun h=>Bool.noConfusion h
   top:=fun h=>Bool.noConfusion h }
end
end Fm
namespace Fm
open PySem PySem.Spec PyProof.Rows L2
section
variable {G : Gam} {cs : Nat → D}
theorem ev_cst (k : Cst) : ev G cs (.cst k) = fun _ t=>.ok k.d t:=by funext r t;rw [ev]
theorem ev_var (i : Nat) : ev G cs (.var i) = fun r t=>match r[i]? with
  | some (.val d)=>.ok d t
  | _=>.bad:=by funext r t;first | (rw [ev];done) | (rw [ev];rfl)
theorem ev_bor (i : Nat) : ev G cs (.bor i) = fun r t=>match r[i]? with
  | some (.val d)=>.ok d t
  | some (.own d)=>.ok d t
  | _=>.bad:=by funext r t;first | (rw [ev];done) | (rw [ev];rfl)
theorem ev_glob (g : Nat) : ev G cs (.glob g) = fun _ t=>.ok (cs g) t:=by funext r t;rw [ev]
theorem ev_bin (op : Operator) (a b : E) : ev G cs (.bin op a b) = fun r t=>(ev G cs a r t).bind fun x t1=>(ev G cs b r t1).bind fun y t2=>lift (binD op x y) t2:=by funext r t;rw [ev]
theorem ev_neg (a : E) : ev G cs (.neg a) = fun r t=>(ev G cs a r t).bind fun x t1=>lift (negD x) t1:=by funext r t;rw [ev]
theorem ev_not (a : E) : ev G cs (.not a) = fun r t=>(ev G cs a r t).bind fun x t1=>lift (notD x) t1:=by funext r t;rw [ev]
theorem ev_and (a b : E) : ev G cs (.and a b) = andE (ev G cs a) (ev G cs b):=by funext r t;first | (rw [ev];done) | (rw [ev];rfl)
theorem ev_or (a b : E) : ev G cs (.or a b) = orE (ev G cs a) (ev G cs b):=by funext r t;first | (rw [ev];done) | (rw [ev];rfl)
theorem ev_ite (k a b : E) : ev G cs (.ite k a b) = iteE (ev G cs k) (ev G cs a) (ev G cs b):=by funext r t;first | (rw [ev];done) | (rw [ev];rfl)
theorem ev_cmp (op : CmpOp) (a b : E) : ev G cs (.cmp op a b) = fun r t=>(ev G cs a r t).bind fun x t1=>(ev G cs b r t1).bind fun y t2=>lift (cmpD op x y) t2:=by funext r t;rw [ev]
theorem ev_ix (a b : E) : ev G cs (.ix a b) = fun r t=>(ev G cs a r t).bind fun x t1=>(ev G cs b r t1).bind fun y t2=>lift (ixD x y) t2:=by funext r t;rw [ev]
theorem ev_dix (a b : E) : ev G cs (.dix a b) = fun r t=>(ev G cs a r t).bind fun x t1=>(ev G cs b r t1).bind fun y t2=>lift (dixD x y) t2:=by funext r t;rw [ev]
theorem ev_tup (es : Es) : ev G cs (.tup es) = fun r t=>(evs G cs es r t).bind fun xs t1=>if okLen xs.length then .ok (.tup xs) t1 else .bad:=by funext r t;rw [ev]
theorem ev_lst (es : Es) : ev G cs (.lst es) = fun r t=>(evs G cs es r t).bind fun xs t1=>if okLen xs.length then .ok (.lst xs) t1 else .bad:=by funext r t;rw [ev]
theorem ev_call (i : Nat) (es ks : Es) : ev G cs (.call i es ks) = fun r t=>(evs G cs es r t).bind fun xs t1=>(evs G cs ks r t1).bind fun ys t2=>G.f 0 i xs ys t2:=by funext r t;rw [ev]
theorem ev_blt (b : Blt) (a : E) : ev G cs (.blt b a) = fun r t=>(ev G cs a r t).bind fun x t1=>lift (blt1 b x) t1:=by funext r t;rw [ev]
theorem ev_isa (a : E) (T : Ty) : ev G cs (.isa a T) = fun r t=>(ev G cs a r t).bind fun x t1=>lift ((isaD x T).map D.bl) t1:=by funext r t;rw [ev]
theorem ev_comp (own : List (Str × Nat)) (elt : E) (tg : Tg) (it : I) (cd : O) : ev G cs (.comp own elt tg it cd) = compE tg (own.map (·.2)) (evI G cs it) (evO G cs cd) (ev G cs elt):=by funext r t;first | (rw [ev];done) | (rw [ev];rfl)
theorem ev_compX (own : List (Str × Nat)) (elt : E) (tg : Tg) (it : I) : ev G cs (.compX own elt tg it) = compXE tg (own.map (·.2)) (evI G cs it) (ev G cs elt):=by funext r t;first | (rw [ev];done) | (rw [ev];rfl)
theorem ev_get (a k d : E) : ev G cs (.get a k d) = getE (ev G cs a) (ev G cs k) (ev G cs d):=by funext r t;first | (rw [ev];done) | (rw [ev];rfl)
theorem ev_dsp (kvs : List (Str × Cst)) : ev G cs (.dsp kvs) = fun _ t=>if decide (kvs.length ≤ 15) then .ok (.dct (mergeD [] (kvs.map fun p=>(p.1,p.2.d)))) t else .bad:=by funext r t;rw [ev]
def esF (G : Gam) (cs : Nat → D) : Es → List (Rho → Tw → Res D)
 | .nil=>[]
 | .cons e es=>ev G cs e :: esF G cs es
theorem ev_bad : ev G cs .bad = fun _ _=>.bad:=by funext r t;rw [ev]
theorem ev_dcompK (own : List (Str × Nat)) (k v : E) (tg : Tg) (it : I) : ev G cs (.dcompK own k v tg it) = dcompKE tg (own.map (·.2)) (evI G cs it) (ev G cs k) (ev G cs v):=by funext r t;first | (rw [ev];done) | (rw [ev];rfl)
theorem ev_comp2 (own : List (Str × Nat)) (elt : E) (tg : Tg) (it : I) (tg1 : Tg) (it1 : I) : ev G cs (.comp2 own elt tg it tg1 it1) = comp2E tg (own.map (·.2)) (evI G cs it) tg1 (evI G cs it1) (ev G cs elt):=by funext r t;first | (rw [ev];done) | (rw [ev];rfl)
theorem ev_tcount (i : Nat) : ev G cs (.tcount i) = tcountE i:=by funext r t;first | (rw [ev];done) | (rw [ev];rfl)
theorem ev_tget (i : Nat) (k d : E) : ev G cs (.tget i k d) = tgetE i (ev G cs k) (ev G cs d):=by funext r t;first | (rw [ev];done) | (rw [ev];rfl)
theorem evO_none : evO G cs .none = fun _ t=>.ok none t:=by funext r t;rw [evO]
theorem evO_some (e : E) : evO G cs (.some e) = fun r t=>(ev G cs e r t).bind fun x t1=>.ok (some x) t1:=by funext r t;rw [evO]
theorem evs_nil : evs G cs .nil = fun _ t=>.ok [] t:=by funext r t;rw [evs]
theorem evs_cons (e : E) (es : Es) : evs G cs (.cons e es) = fun r t=>(ev G cs e r t).bind fun x t1=>(evs G cs es r t1).bind fun xs t2=>.ok (x :: xs) t2:=by funext r t;rw [evs]
theorem evI_val (e : E) : evI G cs (.val e) = evV (ev G cs e):=by funext r t;first | (rw [evI];done) | (rw [evI];rfl)
theorem evI_rng1 (a : E) : evI G cs (.rng1 a) = fun r t=>(ev G cs a r t).bind fun x t1=>match x with
  | .int j=>if okRng j then .ok (rngD 0 j.toNat) t1 else .bad
  | _=>.bad:=by funext r t;first | (rw [evI];done) | (rw [evI];rfl)
theorem evs_len {xs : List Expr} {tb : Tb} {N : List Str} {c : Cs} : ∀ {es : Es} {xs : List Expr},mEs tb N c es xs = true → ∀ r t ys t1,evs G cs es r t = .ok ys t1 → ys.length = xs.length
 | .nil,[],_,r,t,ys,t1,e=>by
  rw [evs_nil] at e
  cases e
  rfl
 | .cons k es,x :: xs,h,r,t,ys,t1,e=>by
  obtain ⟨_,h2⟩:=and2 (show (nStar x && mE tb N c false k x && mEs tb N c es xs) = true from h)
  rw [evs_cons] at e
  cases e1 : ev G cs k r t with
  | ok y t2=>
   simp only [e1,Res.bind_ok] at e
   cases e2 : evs G cs es r t2 with
   | ok zs t3=>
    simp only [e2,Res.bind_ok] at e
    cases e
    rw [List.length_cons,List.length_cons,evs_len (xs:=xs) h2 r t2 zs _ e2]
   | exc n t3=>
    simp only [e2] at e
    cases e
   | bad=>
    simp only [e2] at e
    cases e
  | exc n t2=>
   simp only [e1] at e
   cases e
  | bad=>
   simp only [e1] at e
   cases e
theorem evs_lenK {tb : Tb} {N : List Str} {c : Cs} : ∀ {es : Es} {xs : List Keyword},mKs tb N c es xs = true → ∀ r t ys t1,evs G cs es r t = .ok ys t1 → ys.length = xs.length
 | .nil,[],_,r,t,ys,t1,e=>by
  rw [evs_nil] at e
  cases e
  rfl
 | .cons k es,⟨nm,x,p⟩ :: xs,h,r,t,ys,t1,e=>by
  obtain ⟨_,h2⟩:=and2 (show (mE tb N c false k x && mKs tb N c es xs) = true from h)
  rw [evs_cons] at e
  cases e1 : ev G cs k r t with
  | ok y t2=>
   simp only [e1,Res.bind_ok] at e
   cases e2 : evs G cs es r t2 with
   | ok zs t3=>
    simp only [e2,Res.bind_ok] at e
    cases e
    rw [List.length_cons,List.length_cons,evs_lenK h2 r t2 zs _ e2]
   | exc n t3=>
    simp only [e2] at e
    cases e
   | bad=>
    simp only [e2] at e
    cases e
  | exc n t2=>
   simp only [e1] at e
   cases e
  | bad=>
   simp only [e1] at e
   cases e
end
def freshB : E → Bool
 | .lst _=>true
 | .comp _ _ _ _ _=>true
 | .comp2 _ _ _ _ _ _=>true
 | .compX _ _ _ _=>true
 | .blt .list _=>true
 | .blt .sorted _=>true
 | .blt .dictN _=>true
 | .blt .dictK _=>true
 | .dn1 _ _=>true
 | .dcomp _ _ _ _ _=>true
 | .dcompK _ _ _ _ _=>true
 | .sset _=>true
 | .pset _=>true
 | .iset _=>true
 | .sset2 _ _ _ _ _ _=>true
 | .dsp _=>true
 | .dspE _ _=>true
 | .dn0=>true
 | .cat _ _=>true
 | _=>false
theorem t_ite {X : Cx} {P : Pm} {a b c : Expr} {pos : Pos} {fa fb fc : Rho → Tw → Res D} (hc : PT X c (tT P fc)) (ha : PT X a (tT P fa)) (hb : PT X b (tT P fb)) : PT X (.IfExp c a b pos) (tT P (iteE fc fa fb)):=by
 refine ⟨fun pins s0 σ H Q I ⟨F,r,t,R,h⟩=>?_⟩
 show wpAny _ _ (isTrue c X.env (eval c X.env) >>= fun d=>if d = true then isTrue a X.env (eval a X.env) else isTrue b X.env (eval b X.env)) _ _ _
 refine wpAny_bind (thn (hc.run pins s0 σ H (fun k H1=>if k = true then tT P fa σ H1 Q else tT P fb σ H1 Q) I ⟨F,r,t,R,h.bind.mono fun d t' h=>?_⟩) fun d s1 ⟨H1,I1,q1⟩=>?_)
 · cases e : truD d with
   | none=>
    rw [e] at h
    exact h.elim
   | some k=>
    rw [e] at h
    refine ⟨k,rfl,fun F' H' s R'=>?_⟩
    cases k with
    | true=>exact ⟨F',r,t',R',((show Aft P F (fa r t') _ from h).up s.1).mono fun d2 t2 ⟨b2,e2,q⟩=>⟨b2,e2,fun F2 H2 s2 R2=>q F2 H2 (s.trans s2) R2⟩⟩
    | false=>exact ⟨F',r,t',R',((show Aft P F (fb r t') _ from h).up s.1).mono fun d2 t2 ⟨b2,e2,q⟩=>⟨b2,e2,fun F2 H2 s2 R2=>q F2 H2 (s.trans s2) R2⟩⟩
 · cases d with
   | true=>exact ha.run pins s1 σ H1 Q I1 q1
   | false=>exact hb.run pins s1 σ H1 Q I1 q1
section
variable {tb : Tb} {N : List Str} {G : Gam} {cs : Nat → D} {cl : Nat → Addr}
theorem notWord {X : Cx} {P : Pm} {f : Rho → Tw → Res D} {e : Expr} (nw : ∀ op vs pos,e ≠ .BoolOp op vs pos) : ∀ op vs pos,e = .BoolOp op vs pos → PW X e (tT P f):=fun op vs pos z=>absurd z (nw op vs pos)
theorem s_callA {X : Cx} {P : Pm} {c : Cs} (ok : Ok tb N G cs cl X P c) {i : Nat} {sh : Sh} {x : Str} {p pos : Pos} {xs : List Expr} {kws : List Keyword} {es ks : Es} (hsh : tb.sh[i]? = some sh) (hx : sh.name = x) (hg : glB c x = true) (hl : xs.length = sh.np)
  (hk : kws.map (·.arg) = sh.ks.map some) (h0 : kws = [] ∨ xs ≠ []) (he : mEs tb N c es xs = true) (hke : mKs tb N c ks kws = true) (pa : PA X xs (tDs P (evs G cs es))) (pk : PK X kws (tDs P (evs G cs ks))) :
  PE X (.Call (.Name x p) xs kws pos) (tD P (ev G cs (.call i es ks))):=by
 subst hx
 obtain ⟨f,fd,ps,Γ,F,hm,hkp,hb0,hb1,hG⟩:=(ok.call 0 i sh hsh (Nat.zero_le _)).ex
 have hr : Room (G.lv - 0 + 33) X.A:=ok.room
 obtain ⟨g1,g2,g3⟩:=glB_of ok hg
 have lk : kws.length = sh.ks.length:=by
  have:=congrArg List.length hk
  simpa using this
 have dd : ∀ F,RpL P.K P.T F (sh.dfl.map Cst.v) (sh.dfl.map Cst.d):=fun F=>by
  induction sh.dfl with
  | nil=>exact .nil
  | cons d r ih=>exact .cons d.rp ih
 have ld : (sh.dfl.map Cst.d).length = sh.dfl.length:=List.length_map ..
 rw [ev_call]
 by_cases hks : sh.ks = []
 · obtain ⟨ds,hv,hb⟩:=hb0 hks
   rw [hks] at lk F
   have ek : kws = []:=List.length_eq_zero_iff.mp lk
   subst ek
   cases ks with
   | cons _ _=>cases hke
   | nil=>
    cases xs with
    | nil=>
     cases es with
     | cons _ _=>cases he
     | nil=>
      have e : (fun r t=>(evs G cs .nil r t).bind fun xs t1=>(evs G cs .nil r t1).bind fun ys t2=>G.f 0 i xs ys t2) = fun (r : Rho) t=>Γ (sh.dfl.map Cst.d) t:=by
       funext r t
       simp only [evs_nil,Res.bind_ok,hG,List.nil_append]
      rw [e]
      have hl : 0 = sh.np:=hl
      exact s_call0 F hr g1 hm hkp hb hv dd ok.tk (by rw [ld,← hl];simp) g2
    | cons y ys=>
     have e : (fun r t=>(evs G cs es r t).bind fun xs t1=>(evs G cs .nil r t1).bind fun ys t2=>G.f 0 i xs ys t2) = fun (r : Rho) t=>(evs G cs es r t).bind fun xs t1=>Γ (xs ++ sh.dfl.map Cst.d) t1:=by
      funext r t
      simp only [evs_nil,Res.bind_ok,hG,List.append_nil]
     rw [e]
     have hst : starEach (y :: ys) X.env = (false,eval y X.env) :: starEach ys X.env:=by
      cases es with
      | nil=>cases he
      | cons k0 es0=>
       obtain ⟨h1,_⟩:=and2 (show (nStar y && mE tb N c false k0 y && mEs tb N c es0 ys) = true from he)
       exact star_of (and2 h1).1
     have hpl : ∀ {es0 : Es} {ys : List Expr},mEs tb N c es0 ys = true → (backTo pos (starEach ys X.env)).any (·.1) = false:=by
      intro es0 ys
      induction ys generalizing es0 with
      | nil=>intro _;rfl
      | cons z zs ih=>
       intro h
       cases es0 with
       | nil=>cases h
       | cons k0 es1=>
        obtain ⟨h1,h2⟩:=and2 (show (nStar z && mE tb N c false k0 z && mEs tb N c es1 zs) = true from h)
        rw [star_of (and2 h1).1]
        exact ih h2
     have hys : ∃ es0,mEs tb N c es0 ys = true:=by
      cases es with
      | nil=>cases he
      | cons k0 es0=>exact ⟨es0,(and2 (show (nStar y && mE tb N c false k0 y && mEs tb N c es0 ys) = true from he)).2⟩
     obtain ⟨es0,hys⟩:=hys
     refine s_call F hr g1 hm hkp hb hv dd ok.tk pa (fun r t zs t1 e1=>?_) g2 hst (hpl hys)
     rw [evs_len (xs:=y :: ys) he r t zs t1 e1,ld,hl]
     simp
 · obtain ⟨gg,hb⟩:=hb1 hks
   have kne : kws ≠ []:=fun e=>hks (List.length_eq_zero_iff.mp (by rw [← lk,e];rfl))
   rcases h0 with h0 | h0
   · exact absurd h0 kne
   cases xs with
   | nil=>exact absurd rfl h0
   | cons y ys=>
    have hst : starEach (y :: ys) X.env = (false,eval y X.env) :: starEach ys X.env:=by
     cases es with
     | nil=>cases he
     | cons k0 es0=>
      obtain ⟨h1,_⟩:=and2 (show (nStar y && mE tb N c false k0 y && mEs tb N c es0 ys) = true from he)
      exact star_of (and2 h1).1
    have hpl : ∀ {es0 : Es} {ys : List Expr},mEs tb N c es0 ys = true → (backTo pos (starEach ys X.env)).any (·.1) = false:=by
     intro es0 ys
     induction ys generalizing es0 with
     | nil=>intro _;rfl
     | cons z zs ih=>
      intro h
      cases es0 with
      | nil=>cases h
      | cons k0 es1=>
       obtain ⟨h1,h2⟩:=and2 (show (nStar z && mE tb N c false k0 z && mEs tb N c es1 zs) = true from h)
       rw [star_of (and2 h1).1]
       exact ih h2
    have kwl : ∀ {kws : List Keyword} {l : List Str},kws.map (·.arg) = l.map some → (backToKw pos (keywordEach kws X.env)).all (·.1.isSome) = true ∧ (backToKw pos (keywordEach kws X.env)).filterMap (·.1) = l ∧ (backToKw pos (keywordEach kws X.env)).any (·.1.isNone) = false:=by
     intro kws
     induction kws with
     | nil=>
      intro l h
      cases l with
      | nil=>exact ⟨rfl,rfl,rfl⟩
      | cons _ _=>cases h
     | cons k0 kr ih=>
      intro l h
      cases l with
      | nil=>cases h
      | cons z zs=>
       obtain ⟨nm,e0,p0⟩:=k0
       simp only [List.map_cons,List.cons.injEq] at h
       obtain ⟨h1,h2⟩:=h
       subst h1
       obtain ⟨i1,i2,i3⟩:=ih h2
       refine ⟨?_,?_,?_⟩
       · show (true && (backToKw pos (keywordEach kr X.env)).all (·.1.isSome)) = true
         rw [i1]
         rfl
       · show z :: (backToKw pos (keywordEach kr X.env)).filterMap (·.1) = z :: zs
         rw [i2]
       · show (false || (backToKw pos (keywordEach kr X.env)).any (·.1.isNone)) = false
         rw [i3]
         rfl
    obtain ⟨k1,k2,k3⟩:=kwl hk
    have e : (fun r t=>(evs G cs es r t).bind fun xs t1=>(evs G cs ks r t1).bind fun ys t2=>G.f 0 i xs ys t2) = fun (r : Rho) t=>(evs G cs es r t).bind fun xs t1=>(evs G cs ks r t1).bind fun ys t2=>Γ (xs ++ ys ++ sh.dfl.map Cst.d) t2:=by
     funext r t
     simp only [hG]
    rw [e]
    refine s_callK F hr g1 hm hkp hb dd ok.tk pa pk (fun r t zs t1 e1=>?_) (fun r t zs t1 e1=>?_) (by rw [ld]) k1 k2 g2 hst ?_
    · rw [evs_len (xs:=y :: ys) he r t zs t1 e1,hl]
    · rw [evs_lenK hke r t zs t1 e1,lk]
    · rw [hpl he,k3]
      rfl
end
theorem isT_of {N : List Str} {c : Cs} {tg : Tg} {e : Expr} (h : mTg N c tg e = true) : isTupB e = true → tg.isT = true:=fun z=>by
 cases tg with
 | tup ts=>rfl
 | name i=>cases e <;> first | (cases z;done) | (cases h;done)
end Fm
namespace Fm
open PySem PySem.Spec PyProof.Rows L2
section
variable {tb : Tb} {N : List Str} {c : Cs} {fl : Bool}
theorem mE_cst {k : Cst} {e : Expr} (h : mE tb N c fl (.cst k) e = true) : ∃ k' j p,e = .Constant k' j p ∧ (decide (k.k = k')) = true:=by
 cases e
 all_goals first
  | (cases h;done)
  | exact ⟨_,_,_,rfl,h⟩
theorem mE_var {i : Nat} {e : Expr} (h : mE tb N c fl (.var i) e = true) : ∃ x p,e = .Name x p ∧ (varB N c i x) = true:=by
 cases e
 all_goals first
  | (cases h;done)
  | exact ⟨_,_,rfl,h⟩
theorem mE_bor {i : Nat} {e : Expr} (h : mE tb N c fl (.bor i) e = true) : ∃ x p,e = .Name x p ∧ (fl && varB N c i x) = true:=by
 cases e
 all_goals first
  | (cases h;done)
  | exact ⟨_,_,rfl,h⟩
theorem mE_glob {g : Nat} {e : Expr} (h : mE tb N c fl (.glob g) e = true) : ∃ x p,e = .Name x p ∧ (decide (tb.cs[g]? = some x) && glB c x) = true:=by
 cases e
 all_goals first
  | (cases h;done)
  | exact ⟨_,_,rfl,h⟩
theorem mE_bin {op : Operator} {a b : E} {e : Expr} (h : mE tb N c fl (.bin op a b) e = true) : ∃ ea op' eb p,e = .BinOp ea op' eb p ∧ (decide (op = op') && opB op && mE tb N c true a ea && mE tb N c true b eb) = true:=by
 cases e
 all_goals first
  | (cases h;done)
  | exact ⟨_,_,_,_,rfl,h⟩
theorem mE_neg {a : E} {e : Expr} (h : mE tb N c fl (.neg a) e = true) : ∃ ea p,e = .UnaryOp .USub ea p ∧ (mE tb N c true a ea) = true:=by
 cases e
 all_goals first
  | (cases h;done)
  | exact ⟨_,_,rfl,h⟩
  | (rename_i a1 a2 a3;cases a1 <;> first | (cases h;done) | exact ⟨_,_,rfl,h⟩)
theorem mE_not {a : E} {e : Expr} (h : mE tb N c fl (.not a) e = true) : ∃ ea p,e = .UnaryOp .Not ea p ∧ (mE tb N c true a ea) = true:=by
 cases e
 all_goals first
  | (cases h;done)
  | exact ⟨_,_,rfl,h⟩
  | (rename_i a1 a2 a3;cases a1 <;> first | (cases h;done) | exact ⟨_,_,rfl,h⟩)
def mAnd (tb : Tb) (N : List Str) (c : Cs) (b : E) (y : Expr) (r : List Expr) (p : Pos) : Bool:=match r with
  | []=>mE tb N c false b y
  | z :: r'=>mE tb N c false b (.BoolOp .And (y :: z :: r') p)
theorem mE_and {a b : E} {e : Expr} (h : mE tb N c fl (.and a b) e = true) : ∃ x y r p,e = .BoolOp .And (x :: y :: r) p ∧ (mE tb N c fl a x && mAnd tb N c b y r p) = true:=by
 cases e
 all_goals first
  | (cases h;done)
  | exact ⟨_,_,_,_,rfl,h⟩
  | (rename_i a1 a2 a3;cases a1 <;> first | (cases h;done) | (cases a2 with | nil=>(cases h;done) | cons x a2=>cases a2 with | nil=>(cases h;done) | cons y r=>exact ⟨_,_,_,_,rfl,h⟩))
def mOr (tb : Tb) (N : List Str) (c : Cs) (b : E) (y : Expr) (r : List Expr) (p : Pos) : Bool:=match r with
  | []=>mE tb N c false b y
  | z :: r'=>mE tb N c false b (.BoolOp .Or (y :: z :: r') p)
theorem mE_or {a b : E} {e : Expr} (h : mE tb N c fl (.or a b) e = true) : ∃ x y r p,e = .BoolOp .Or (x :: y :: r) p ∧ (mE tb N c false a x && mOr tb N c b y r p) = true:=by
 cases e
 all_goals first
  | (cases h;done)
  | exact ⟨_,_,_,_,rfl,h⟩
  | (rename_i a1 a2 a3;cases a1 <;> first | (cases h;done) | (cases a2 with | nil=>(cases h;done) | cons x a2=>cases a2 with | nil=>(cases h;done) | cons y r=>exact ⟨_,_,_,_,rfl,h⟩))
theorem mE_ite {k a b : E} {e : Expr} (h : mE tb N c fl (.ite k a b) e = true) : ∃ ek ea eb p,e = .IfExp ek ea eb p ∧ (mE tb N c true k ek && mE tb N c false a ea && mE tb N c false b eb) = true:=by
 cases e
 all_goals first
  | (cases h;done)
  | exact ⟨_,_,_,_,rfl,h⟩
theorem mE_cmp {op : CmpOp} {a b : E} {e : Expr} (h : mE tb N c fl (.cmp op a b) e = true) : ∃ ea op' eb p,e = .Compare ea [op'] [eb] p ∧ (decide (op = op') && !behindInMarks op eb && mE tb N c true a ea && mE tb N c true b eb) = true:=by
 cases e
 all_goals first
  | (cases h;done)
  | exact ⟨_,_,_,_,rfl,h⟩
  | (rename_i a1 a2 a3 a4;cases a2 with | nil=>(cases h;done) | cons o1 a2=>cases a2 with | nil=>(cases a3 with | nil=>(cases h;done) | cons x a3=>cases a3 with | nil=>exact ⟨_,_,_,_,rfl,h⟩ | cons _ _=>(cases h;done)) | cons o2 a2=>cases a2 with | cons _ _=>(cases a3 <;> (cases h;done)) | nil=>(cases a3 with | nil=>(cases h;done) | cons x a3=>cases a3 with | nil=>(cases h;done) | cons y a3=>cases a3 with | nil=>(cases h;done) | cons _ _=>(cases h;done)))
theorem mE_ix {a b : E} {e : Expr} (h : mE tb N c fl (.ix a b) e = true) : ∃ ea eb p,e = .Subscript ea eb p ∧ (nSlice eb && mE tb N c true a ea && mE tb N c true b eb) = true:=by
 cases e
 all_goals first
  | (cases h;done)
  | exact ⟨_,_,_,rfl,h⟩
  | (rename_i a1 a2 a3;cases a2 <;> first | exact ⟨_,_,_,rfl,h⟩ | (rename_i l u st p2;cases st <;> first | exact ⟨_,_,_,rfl,h⟩ | (cases h;done)))
theorem mE_dix {a b : E} {e : Expr} (h : mE tb N c fl (.dix a b) e = true) : ∃ ea eb p,e = .Subscript ea eb p ∧ (nSlice eb && mE tb N c true a ea && mE tb N c true b eb) = true:=by
 cases e
 all_goals first
  | (cases h;done)
  | exact ⟨_,_,_,rfl,h⟩
  | (rename_i a1 a2 a3;cases a2 <;> first | exact ⟨_,_,_,rfl,h⟩ | (rename_i l u st p2;cases st <;> first | exact ⟨_,_,_,rfl,h⟩ | (cases h;done)))
theorem mE_tup {es : Es} {e : Expr} (h : mE tb N c fl (.tup es) e = true) : ∃ xs k p,e = .Tuple xs k p ∧ (mEs tb N c es xs) = true:=by
 cases e
 all_goals first
  | (cases h;done)
  | exact ⟨_,_,_,rfl,h⟩
theorem mE_lst {es : Es} {e : Expr} (h : mE tb N c fl (.lst es) e = true) : ∃ xs p,e = .List xs p ∧ (mEs tb N c es xs) = true:=by
 cases e
 all_goals first
  | (cases h;done)
  | exact ⟨_,_,rfl,h⟩
def mCall (tb : Tb) (N : List Str) (c : Cs) (i : Nat) (es ks : Es) (x : Str) (xs : List Expr) (kws : List Keyword) : Bool:=match tb.sh[i]? with
  | some sh=>decide (sh.name = x) && glB c x && decide (xs.length = sh.np) && decide (kws.map (·.arg) = sh.ks.map some) && (decide (kws = []) || !decide (xs = [])) && mEs tb N c es xs && mKs tb N c ks kws
  | none=>false
theorem mE_call {i : Nat} {es ks : Es} {e : Expr} (h : mE tb N c fl (.call i es ks) e = true) : ∃ x q xs kws p,e = .Call (.Name x q) xs kws p ∧ (mCall tb N c i es ks x xs kws) = true:=by
 cases e
 all_goals first
  | (cases h;done)
  | exact ⟨_,_,_,_,_,rfl,h⟩
  | (rename_i f0 xs kws p;cases f0 <;> first | (cases h;done) | exact ⟨_,_,_,_,_,rfl,h⟩)
theorem mE_blt {b : Blt} {a : E} {e : Expr} (h : mE tb N c fl (.blt b a) e = true) : ∃ x q ea p,e = .Call (.Name x q) [ea] [] p ∧ (bltB b && decide (b.nm = x) && glB c x && nStar ea && mE tb N c true a ea) = true:=by
 cases e
 all_goals first
  | (cases h;done)
  | exact ⟨_,_,_,_,rfl,h⟩
  | (rename_i f0 xs kws p;cases f0 <;> first | (cases h;done) | (cases xs with | nil=>(cases h;done) | cons y xs=>cases xs with | cons _ _=>(cases h;done) | nil=>cases kws with | cons _ _=>(cases h;done) | nil=>exact ⟨_,_,_,_,rfl,h⟩))
theorem mE_isa {a : E} {T : Ty} {e : Expr} (h : mE tb N c fl (.isa a T) e = true) : ∃ x q ea y q2 p,e = .Call (.Name x q) [ea,.Name y q2] [] p ∧ (decide (x = "isinstance") && decide (T.nm = y) && glB c x && glB c y && nStar ea && mE tb N c true a ea) = true:=by
 cases e
 all_goals first
  | (cases h;done)
  | exact ⟨_,_,_,_,_,_,rfl,h⟩
  | (rename_i f0 xs kws p;cases f0 <;> first | (cases h;done) | (cases xs with | nil=>(cases h;done) | cons y xs=>cases xs with | nil=>(cases h;done) | cons z xs=>cases xs with | cons _ _=>(cases z <;> (cases h;done)) | nil=>cases kws with | cons _ _=>(cases z <;> (cases h;done)) | nil=>(cases z <;> first | (cases h;done) | exact ⟨_,_,_,_,_,_,rfl,h⟩)))
theorem mE_comp2 {own : List (Str × Nat)} {elt : E} {tg : Tg} {it : I} {tg1 : Tg} {it1 : I} {e : Expr} (h : mE tb N c fl (.comp2 own elt tg it tg1 it1) e = true) : ∃ ee et ei z et1 ei1 z1 scope p,e = .ListComp ee [⟨et,ei,[],z⟩,⟨et1,ei1,[],z1⟩] scope p ∧ (decide (z = 0) && decide (z1 = 0) && blkC N c.sc scope own && (tg.slots.all fun i=>(own.map (·.2)).contains i) && (tg1.slots.all fun i=>(own.map (·.2)).contains i) && mI tb N c false et it ei && nSet ei && nSet ei1 && mTg N (blkCs c scope) tg et && mI tb N (blkCs c scope) true et1 it1 ei1 && mTg N (blkCs c scope) tg1 et1 && mE tb N (blkCs c scope) false elt ee) = true:=by
 cases e
 all_goals first
  | (cases h;done)
  | exact ⟨_,_,_,_,_,_,_,_,_,rfl,h⟩
  | (rename_i ee gs scope p;cases gs with | nil=>(cases h;done) | cons g gs=>cases g with | mk et ei ifs z=>cases ifs with | cons _ _=>(cases gs <;> (cases h;done)) | nil=>cases gs with | nil=>(cases h;done) | cons g1 gs=>cases g1 with | mk et1 ei1 ifs1 z1=>cases ifs1 with | cons _ _=>(cases gs <;> (cases h;done)) | nil=>cases gs with | cons _ _=>(cases h;done) | nil=>exact ⟨_,_,_,_,_,_,_,_,_,rfl,h⟩)
theorem mE_dcompK {own : List (Str × Nat)} {k v : E} {tg : Tg} {it : I} {e : Expr} (h : mE tb N c fl (.dcompK own k v tg it) e = true) : ∃ ek ev et ei z scope p,e = .DictComp ek ev [⟨et,ei,[],z⟩] scope p ∧ (decide (z = 0) && blkC N c.sc scope own && (tg.slots.all fun i=>(own.map (·.2)).contains i) && mI tb N c false et it ei && nSet ei && mTg N (blkCs c scope) tg et && mE tb N (blkCs c scope) false k ek && mE tb N (blkCs c scope) false v ev) = true:=by
 cases e
 all_goals first
  | (cases h;done)
  | exact ⟨_,_,_,_,_,_,_,rfl,h⟩
  | (rename_i ek ev gs scope p;cases gs with | nil=>(cases h;done) | cons g gs=>cases g with | mk et ei ifs z=>cases ifs with | cons _ _=>(cases h;done) | nil=>cases gs with | cons _ _=>(cases h;done) | nil=>exact ⟨_,_,_,_,_,_,_,rfl,h⟩)
theorem mE_get {a k d : E} {e : Expr} (h : mE tb N c fl (.get a k d) e = true) : ∃ ea m q ek ed cp,e = .Call (.Attribute ea m q) [ek,ed] [] cp ∧ (decide (m = "get") && nCall ea && (q.endLine == cp.line) && nStar ek && nStar ed && mE tb N c true a ea && mE tb N c true k ek && mE tb N c false d ed) = true:=by
 cases e
 all_goals first
  | (cases h;done)
  | exact ⟨_,_,_,_,_,_,rfl,h⟩
  | (rename_i f0 xs kws p;cases f0 <;> first | (cases h;done) | (cases xs with | nil=>(cases h;done) | cons y xs=>cases xs with | nil=>(cases h;done) | cons z xs=>cases xs with | cons _ _=>(cases h;done) | nil=>cases kws with | cons _ _=>(cases h;done) | nil=>exact ⟨_,_,_,_,_,_,rfl,h⟩))
theorem mE_tcount {i : Nat} {e : Expr} (h : mE tb N c fl (.tcount i) e = true) : ∃ y q eb p,e = .Subscript (.Name y q) eb p ∧ (varB N c i y && isStr "count" eb) = true:=by
 cases e
 all_goals first
  | (cases h;done)
  | exact ⟨_,_,_,_,rfl,h⟩
  | (rename_i a1 a2 a3;cases a1 <;> first | (cases h;done) | exact ⟨_,_,_,_,rfl,h⟩)
theorem mE_tget {i : Nat} {k d : E} {e : Expr} (h : mE tb N c fl (.tget i k d) e = true) : ∃ y q eb q2 m p ek ed cp,e = .Call (.Attribute (.Subscript (.Name y q) eb q2) m p) [ek,ed] [] cp ∧ (varB N c i y && isStr "rests" eb && decide (m = "get") && (p.endLine == cp.line) && nStar ek && nStar ed && mE tb N c true k ek && mE tb N c false d ed) = true:=by
 cases e
 all_goals first
  | (cases h;done)
  | exact ⟨_,_,_,_,_,_,_,_,_,rfl,h⟩
  | (rename_i f0 xs kws p;cases f0 <;> first | (cases h;done) | (rename_i ob m p1;cases ob <;> first | (cases h;done) | (rename_i ob2 eb q2;cases ob2 <;> first | (cases h;done) | (cases xs with | nil=>(cases h;done) | cons y xs=>cases xs with | nil=>(cases h;done) | cons z xs=>cases xs with | cons _ _=>(cases h;done) | nil=>cases kws with | cons _ _=>(cases h;done) | nil=>exact ⟨_,_,_,_,_,_,_,_,_,rfl,h⟩))))
theorem mE_dsp {kvs : List (Str × Cst)} {e : Expr} (h : mE tb N c fl (.dsp kvs) e = true) : ∃ ks vs p,e = .Dict ks vs p ∧ (mDsp kvs ks vs) = true:=by
 cases e
 all_goals first
  | (cases h;done)
  | exact ⟨_,_,_,rfl,h⟩
theorem mE_compX {own : List (Str × Nat)} {elt : E} {tg : Tg} {it : I} {e : Expr} (h : mE tb N c fl (.compX own elt tg it) e = true) : ∃ ee et ei z scope p,e = .ListComp ee [⟨et,ei,[],z⟩] scope p ∧ (c.tp && decide (z = 0) && blkC N c.sc scope own && (tg.slots.all fun i=>(own.map (·.2)).contains i) && mI tb N c false et it ei && nSet ei && mTg N (blkCs c scope) tg et && mE tb N (blkCs c scope) false elt ee) = true:=by
 cases e
 all_goals first
  | (cases h;done)
  | exact ⟨_,_,_,_,_,_,rfl,h⟩
  | (rename_i ee gs scope p;cases gs with | nil=>(cases h;done) | cons g gs=>cases g with | mk et ei ifs z=>cases ifs with | cons _ _=>(cases h;done) | nil=>cases gs with | cons _ _=>(cases h;done) | nil=>exact ⟨_,_,_,_,_,_,rfl,h⟩)
theorem mE_comp {own : List (Str × Nat)} {elt : E} {tg : Tg} {it : I} {cd : O} {e : Expr} (h : mE tb N c fl (.comp own elt tg it cd) e = true) : ∃ ee et ei ifs z scope p,e = .ListComp ee [⟨et,ei,ifs,z⟩] scope p ∧ (decide (z = 0) && blkC N c.sc scope own && (tg.slots.all fun i=>(own.map (·.2)).contains i) && mI tb N c false et it ei && nSet ei && mTg N (blkCs c scope) tg et && mCd tb N (blkCs c scope) cd ifs && mE tb N (blkCs c scope) false elt ee) = true:=by
 cases e
 all_goals first
  | (cases h;done)
  | exact ⟨_,_,_,_,_,_,_,rfl,h⟩
  | (rename_i ee gs scope p;cases gs with | nil=>(cases h;done) | cons g gs=>cases g with | mk et ei ifs z=>cases gs with | cons _ _=>(cases h;done) | nil=>exact ⟨_,_,_,_,_,_,_,rfl,h⟩)
theorem mI_rng1 {a : E} {e : Expr} {fz : Bool} {tg : Expr} (h : mI tb N c fz tg (.rng1 a) e = true) : ∃ x q ea p,e = .Call (.Name x q) [ea] [] p ∧ (decide (x = "range") && glB c x && nStar ea && mE tb N c true a ea) = true:=by
 cases e
 all_goals first
  | (cases h;done)
  | exact ⟨_,_,_,_,rfl,h⟩
  | (rename_i f0 xs kws p;cases f0 <;> first | (cases h;done) | (cases xs with | nil=>(cases h;done) | cons y xs=>cases xs with | cons _ _=>(cases h;done) | nil=>cases kws with | cons _ _=>(cases h;done) | nil=>exact ⟨_,_,_,_,rfl,h⟩))
end
end Fm
namespace Fm
open PySem PySem.Spec PyProof.Rows L2
section
variable {tb : Tb} {N : List Str} {G : Gam} {cs : Nat → D} {cl : Nat → Addr}
theorem s_bin {X : Cx} {P : Pm} {a b : Expr} {pos : Pos} {fa fb : Rho → Tw → Res D} (hK : X.K = P.K) (py : PyR X) {op : Operator} (h : opB op = true) (ha : PE X a (tB P fa)) (hb : PE X b (tB P fb)) :
  PE X (.BinOp a op b pos) (tD P fun r t=>(fa r t).bind fun x t1=>(fb r t1).bind fun y t2=>Fm.lift (binD op x y) t2):=by
 cases op with
 | Add=>exact s_add hK ha hb
 | Sub=>exact s_sub ha hb
 | Mult=>exact s_mul ha hb
 | FloorDiv=>exact s_fdiv py ha hb
 | Mod=>exact s_mod ha hb
 | Pow=>exact s_pow ha hb
 | LShift=>exact s_shl ha hb
 | _=>cases h
theorem s_blt {X : Cx} {P : Pm} {c : Cs} (ok : Ok tb N G cs cl X P c) {a : Expr} {p1 pos : Pos} {fa : Rho → Tw → Res D} {b : Blt} (hb : bltB b = true) (hg : glB c b.nm = true) (hs : nStar a = true) (ha : PE X a (tB P fa)) :
  PE X (.Call (.Name b.nm p1) [a] [] pos) (tD P fun r t=>(fa r t).bind fun x t1=>Fm.lift (blt1 b x) t1) ∧ (freshB (.blt b (.cst .non)) = true → PE X (.Call (.Name b.nm p1) [a] [] pos) (tN P fun r t=>(fa r t).bind fun x t1=>Fm.lift (blt1 b x) t1)):=by
 obtain ⟨g1,g2,g3⟩:=glB_of ok hg
 have st:=star_of (es:=[]) (env:=X.env) hs
 cases b with
 | len=>exact ⟨s_callB (cs_len ok.hK) g1 (ok.free _ (by decide)) PySem.boot_len ha g3 g2 st,fun z=>by cases z⟩
 | abs=>exact ⟨s_callB cs_abs g1 (ok.free _ (by decide)) PyProof.Rows.boot_abs ha g3 g2 st,fun z=>by cases z⟩
 | all=>exact ⟨s_callB (cs_all ok.hK ok.calm) g1 (ok.free _ (by decide)) PyProof.Rows.boot_all ha g3 g2 st,fun z=>by cases z⟩
 | any=>exact ⟨s_callB (cs_any ok.hK ok.calm) g1 (ok.free _ (by decide)) PyProof.Rows.boot_any ha g3 g2 st,fun z=>by cases z⟩
 | max=>exact ⟨s_callB (cs_max ok.hK ok.calm) g1 (ok.free _ (by decide)) PyProof.Rows.boot_max ha g3 g2 st,fun z=>by cases z⟩
 | sum=>exact ⟨s_callB (cs_sum ok.hK ok.calm) g1 (ok.free _ (by decide)) PyProof.Rows.boot_sum ha g3 g2 st,fun z=>by cases z⟩
 | tuple=>exact ⟨s_callT (cs_tuple ok.hK) g1 (ok.free _ (by decide)) PyProof.Rows.boot_tuple ha g3 g2 st,fun z=>by cases z⟩
 | list=>
  have h:=n_callT (cn_list ok.hK) g1 (ok.free _ (by decide)) PyProof.Rows.boot_list ha g3 g2 st (p1:=p1) (pos:=pos)
  exact ⟨tN_tD h,fun _=>h⟩
 | sorted=>
  have h:=n_callB (cn_sorted ok.hK ok.calm) g1 (ok.free _ (by decide)) PyProof.Rows.boot_sorted ha g3 g2 st (p1:=p1) (pos:=pos)
  exact ⟨tN_tD h,fun _=>h⟩
 | int=>exact ⟨s_callT cs_int g1 (ok.free _ (by decide)) PyProof.Rows.boot_int ha g3 g2 st,fun z=>by cases z⟩
 | dictN=>
  have h:=n_callT (cn_dictN ok.hK ok.hpw ok.calm ok.hu) g1 (ok.free _ (by decide)) PyProof.Rows.boot_dict ha g3 g2 st (p1:=p1) (pos:=pos)
  exact ⟨tN_tD h,fun _=>h⟩
 | klist=>
  have h:=n_callT (cn_klist ok.hK ok.hpw ok.calm) g1 (ok.free _ (by decide)) PyProof.Rows.boot_list ha g3 g2 st (p1:=p1) (pos:=pos)
  exact ⟨tN_tD h,fun _=>h⟩
 | dictK=>
  have h:=n_callT (cn_dictK ok.hK ok.calm) g1 (ok.free _ (by decide)) PyProof.Rows.boot_dict ha g3 g2 st (p1:=p1) (pos:=pos)
  exact ⟨tN_tD h,fun _=>h⟩
theorem isStr_of {x : Str} {e : Expr} (h : isStr x e = true) : ∃ j p,e = .Constant (.str x) j p:=by
 unfold isStr at h
 split at h
 · obtain rfl:=of_decide_eq_true h
   exact ⟨_,_,rfl⟩
 · cases h
theorem keysB_of {ks : List Str} {ke : Option Expr} {kes : List (Option Expr)} (h : keysB ks (ke :: kes) = true) : ∃ y ks' j q,ks = y :: ks' ∧ ke = some (.Constant (.str y) j q) ∧ keysB ks' kes = true:=by
 unfold keysB at h
 split at h
 · rename_i z
   cases z
 · rename_i x xs y j q ks2 z
   cases z
   obtain ⟨h1,h2⟩:=and2 h
   obtain rfl:=of_decide_eq_true h1
   exact ⟨_,_,_,_,rfl,rfl,h2⟩
 · cases h
end
section
variable {tb : Tb} {cs : Nat → D} {cl : Nat → Addr}
mutual
theorem sE : ∀ (k : E) {N : List Str} {G : Gam} {X : Cx} {P : Pm} {c : Cs} {fl : Bool} {e : Expr},Ok tb N G cs cl X P c → mE tb N c fl k e = true → Snd X P (ev G cs k) fl e
 | .cst k,N,G,X,P,c,fl,e,ok,h=>by
  obtain ⟨k',j,p,rfl,h⟩:=mE_cst h
  obtain rfl : k.k = k':=of_decide_eq_true h
  rw [ev_cst]
  exact .plain ok.hK s_cst (fun _=>rfl) (fun _ _ _ z=>by cases z)
 | .var i,N,G,X,P,c,fl,e,ok,h=>by
  obtain ⟨x,p,rfl,h⟩:=mE_var h
  obtain ⟨h1,h2,h3,h4⟩:=varB_of ok h
  rw [ev_var]
  exact .plain ok.hK (s_var h1 h2 h3 h4) (fun _=>rfl) (fun _ _ _ z=>by cases z)
 | .bor i,N,G,X,P,c,fl,e,ok,h=>by
  obtain ⟨x,p,rfl,h⟩:=mE_bor h
  obtain ⟨h0,h⟩:=and2 h
  obtain ⟨h1,h2,h3,h4⟩:=varB_of ok h
  rw [ev_bor]
  have hb:=b_var (P:=P) (pos:=p) h1 h2 h3 h4
  exact ⟨hb,fun z=>(by rw [z] at h0;cases h0),t_plain ok.hK hb (fun _=>rfl),notWord (fun _ _ _ z=>by cases z)⟩
 | .glob g,N,G,X,P,c,fl,e,ok,h=>by
  obtain ⟨x,p,rfl,h⟩:=mE_glob h
  obtain ⟨h1,h2⟩:=and2 h
  obtain ⟨g1,g2,g3⟩:=glB_of ok h2
  obtain ⟨u,v,m1,m2,m3⟩:=ok.con g x (of_decide_eq_true h1)
  rw [ev_glob]
  exact .plain ok.hK (s_glob g1 m1 m2 m3 g2) (fun _=>rfl) (fun _ _ _ z=>by cases z)
 | .bin op a b,N,G,X,P,c,fl,e,ok,h=>by
  obtain ⟨ea,op',eb,p,rfl,h⟩:=mE_bin h
  obtain ⟨h,h4⟩:=and2 h
  obtain ⟨h,h3⟩:=and2 h
  obtain ⟨h1,h2⟩:=and2 h
  obtain rfl:=of_decide_eq_true h1
  rw [ev_bin]
  exact .plain ok.hK (s_bin ok.hK ok.py h2 (sE a ok h3).b (sE b ok h4).b) (fun _=>rfl) (fun _ _ _ z=>by cases z)
 | .cat a b,N,G,X,P,c,fl,e,ok,h=>by
  cases h
 | .neg a,N,G,X,P,c,fl,e,ok,h=>by
  obtain ⟨ea,p,rfl,h⟩:=mE_neg h
  rw [ev_neg]
  exact .plain ok.hK (s_neg (sE a ok h).b) (fun _=>rfl) (fun _ _ _ z=>by cases z)
 | .not a,N,G,X,P,c,fl,e,ok,h=>by
  obtain ⟨ea,p,rfl,h⟩:=mE_not h
  have ha:=sE a ok h
  rw [ev_not]
  have hd:=s_not ok.hK ha.b (pos:=p)
  exact ⟨tB_tD hd,fun _=>hd,t_not ha.t,notWord (fun _ _ _ z=>by cases z)⟩
 | .and a b,N,G,X,P,c,fl,e,ok,h=>by
  obtain ⟨x,y,r,p,rfl,h⟩:=mE_and h
  obtain ⟨h1,h2⟩:=and2 h
  have ha:=sE a ok h1
  rw [ev_and]
  cases r with
  | nil=>
   have hb:=sE b ok (show mE tb N c false b y = true from h2)
   have hd2:=pe_one (op:=.And) (pos:=p) (hb.d rfl)
   have hw:=t_and ha.t (pw_and1 (pos:=p) hb.t)
   exact ⟨s_andB ok.hK ha.b (tB_tD hd2),fun z=>s_and ok.hK (ha.d z) hd2,hw.pt,fun _ _ _ _=>hw⟩
  | cons z r'=>
   have hb:=sE b ok (show mE tb N c false b (.BoolOp .And (y :: z :: r') p) = true from h2)
   have hw:=t_and ha.t (hb.w _ _ _ rfl)
   exact ⟨s_andB ok.hK ha.b (tB_tD (hb.d rfl)),fun z=>s_and ok.hK (ha.d z) (hb.d rfl),hw.pt,fun _ _ _ _=>hw⟩
 | .or a b,N,G,X,P,c,fl,e,ok,h=>by
  obtain ⟨x,y,r,p,rfl,h⟩:=mE_or h
  obtain ⟨h1,h2⟩:=and2 h
  have ha:=sE a ok h1
  rw [ev_or]
  cases r with
  | nil=>
   have hb:=sE b ok (show mE tb N c false b y = true from h2)
   have hd:=s_or ok.hK (ha.d rfl) (pe_one (op:=.Or) (pos:=p) (hb.d rfl))
   have hw:=t_or ha.t (pw_or1 (pos:=p) hb.t)
   exact ⟨tB_tD hd,fun _=>hd,hw.pt,fun _ _ _ _=>hw⟩
  | cons z r'=>
   have hb:=sE b ok (show mE tb N c false b (.BoolOp .Or (y :: z :: r') p) = true from h2)
   have hd:=s_or ok.hK (ha.d rfl) (hb.d rfl)
   have hw:=t_or ha.t (hb.w _ _ _ rfl)
   exact ⟨tB_tD hd,fun _=>hd,hw.pt,fun _ _ _ _=>hw⟩
 | .ite k a b,N,G,X,P,c,fl,e,ok,h=>by
  obtain ⟨ek,ea,eb,p,rfl,h⟩:=mE_ite h
  obtain ⟨h,h3⟩:=and2 h
  obtain ⟨h1,h2⟩:=and2 h
  have hk:=sE k ok h1
  have ha:=sE a ok h2
  have hb:=sE b ok h3
  rw [ev_ite]
  have hd:=s_ite hk.t (ha.d rfl) (hb.d rfl) (pos:=p)
  exact ⟨tB_tD hd,fun _=>hd,t_ite hk.t ha.t hb.t,notWord (fun _ _ _ z=>by cases z)⟩
 | .cmp op a b,N,G,X,P,c,fl,e,ok,h=>by
  obtain ⟨ea,op',eb,p,rfl,h⟩:=mE_cmp h
  obtain ⟨h,h4⟩:=and2 h
  obtain ⟨h,h3⟩:=and2 h
  obtain ⟨h1,h2⟩:=and2 h
  obtain rfl:=of_decide_eq_true h1
  have hm : behindInMarks op eb = false:=by simpa using h2
  have ha:=sE a ok h3
  have hb:=sE b ok h4
  rw [ev_cmp]
  have hd:=s_cmp ok.hK ok.hu ha.b hb.b hm (pos:=p)
  exact ⟨tB_tD hd,fun _=>hd,t_cmp ok.hK ok.hu ha.b hb.b hm,notWord (fun _ _ _ z=>by cases z)⟩
 | .chain o1 o2 a b k,N,G,X,P,c,fl,e,ok,h=>by
  cases h
 | .cut a lo hi,N,G,X,P,c,fl,e,ok,h=>by
  cases h
 | .ix a b,N,G,X,P,c,fl,e,ok,h=>by
  obtain ⟨ea,eb,p,rfl,h⟩:=mE_ix h
  obtain ⟨h,h3⟩:=and2 h
  obtain ⟨h1,h2⟩:=and2 h
  rw [ev_ix]
  exact .plain ok.hK (s_ix ok.hK (sE a ok h2).b (sE b ok h3).b (plain_of h1)) (fun _=>rfl) (fun _ _ _ z=>by cases z)
 | .dix a b,N,G,X,P,c,fl,e,ok,h=>by
  obtain ⟨ea,eb,p,rfl,h⟩:=mE_dix h
  obtain ⟨h,h3⟩:=and2 h
  obtain ⟨h1,h2⟩:=and2 h
  rw [ev_dix]
  exact .plain ok.hK (s_dix ok.hK ok.hpw ok.hu (sE a ok h2).b (sE b ok h3).b (plain_of h1)) (fun _=>rfl) (fun _ _ _ z=>by cases z)
 | .tup es,N,G,X,P,c,fl,e,ok,h=>by
  obtain ⟨xs,k,p,rfl,h⟩:=mE_tup h
  rw [ev_tup]
  exact .plain ok.hK (s_tup (sEs es ok h)) (fun _=>rfl) (fun _ _ _ z=>by cases z)
 | .lst es,N,G,X,P,c,fl,e,ok,h=>by
  obtain ⟨xs,p,rfl,h⟩:=mE_lst h
  rw [ev_lst]
  exact .plain ok.hK (tN_tD (n_lst (sEs es ok h))) (fun _=>rfl) (fun _ _ _ z=>by cases z)
 | .call i es ks,N,G,X,P,c,fl,e,ok,h=>by
  obtain ⟨x,q,xs,kws,p,rfl,hc⟩:=mE_call h
  clear h
  have h:=hc
  unfold mCall at h
  cases e : tb.sh[i]? with
  | none=>
   rw [e] at h
   cases h
  | some sh=>
   rw [e] at h
   obtain ⟨h,h7⟩:=and2 h
   obtain ⟨h,h6⟩:=and2 h
   obtain ⟨h,h5⟩:=and2 h
   obtain ⟨h,h4⟩:=and2 h
   obtain ⟨h,h3⟩:=and2 h
   obtain ⟨h1,h2⟩:=and2 h
   refine .plain ok.hK (s_callA ok e (of_decide_eq_true h1) h2 (of_decide_eq_true h3) (of_decide_eq_true h4) ?_ h6 h7 (sEs es ok h6) (sKs ks ok h7)) (fun _=>rfl) (fun _ _ _ z=>by cases z)
   rcases Bool.or_eq_true_iff.mp h5 with h5 | h5
   · exact .inl (of_decide_eq_true h5)
   · exact .inr (by simpa using h5)
 | .blt b a,N,G,X,P,c,fl,e,ok,h=>by
  obtain ⟨x,q,ea,p,rfl,h⟩:=mE_blt h
  obtain ⟨h,h5⟩:=and2 h
  obtain ⟨h,h4⟩:=and2 h
  obtain ⟨h,h3⟩:=and2 h
  obtain ⟨h1,h2⟩:=and2 h
  obtain rfl:=of_decide_eq_true h2
  rw [ev_blt]
  exact .plain ok.hK (s_blt ok h1 h3 h4 (sE a ok h5).b).1 (fun _=>rfl) (fun _ _ _ z=>by cases z)
 | .isa a T,N,G,X,P,c,fl,e,ok,h=>by
  obtain ⟨x,q,ea,y,q2,p,rfl,h⟩:=mE_isa h
  obtain ⟨h,h6⟩:=and2 h
  obtain ⟨h,h5⟩:=and2 h
  obtain ⟨h,h4⟩:=and2 h
  obtain ⟨h,h3⟩:=and2 h
  obtain ⟨h1,h2⟩:=and2 h
  obtain rfl:=of_decide_eq_true h1
  obtain rfl:=of_decide_eq_true h2
  rw [ev_isa]
  have mT : T.nm ∈ freeNames:=by cases T <;> decide
  exact .plain ok.hK (s_isa ok.hK (glB_of ok h3).1 (ok.free _ (by decide)) (glB_of ok h4).1 (ok.free _ mT) (sE a ok h6).b (star_of h5)) (fun _=>rfl) (fun _ _ _ z=>by cases z)
 | .get a k d,N,G,X,P,c,fl,e,ok,h=>by
  obtain ⟨ea,m,q,ek,ed,cp,rfl,h⟩:=mE_get h
  obtain ⟨h,h8⟩:=and2 h
  obtain ⟨h,h7⟩:=and2 h
  obtain ⟨h,h6⟩:=and2 h
  obtain ⟨h,h5⟩:=and2 h
  obtain ⟨h,h4⟩:=and2 h
  obtain ⟨h,h3⟩:=and2 h
  obtain ⟨h1,h2⟩:=and2 h
  obtain rfl:=of_decide_eq_true h1
  rw [ev_get]
  have hst : starEach [ek,ed] X.env = [(false,eval ek X.env),(false,eval ed X.env)]:=by
   rw [star_of h4,star_of h5]
   rfl
  have m2 : M2 X ea "get" q ek ed cp:=⟨base_of h2,by rw [hst];rfl,h3,by rw [hst];rfl⟩
  exact .plain ok.hK (s_get ok.hK ok.hpw ok.hu (sE a ok h6).b (sE k ok h7).b ((sE d ok h8).d rfl) m2) (fun _=>rfl) (fun _ _ _ z=>by cases z)
 | .tcount i,N,G,X,P,c,fl,e,ok,h=>by
  obtain ⟨y,q,eb,p,rfl,h⟩:=mE_tcount h
  obtain ⟨h1,h2⟩:=and2 h
  obtain ⟨a1,a2,a3,a4⟩:=varB_of ok h1
  obtain ⟨j,q2,rfl⟩:=isStr_of h2
  rw [ev_tcount]
  exact .plain ok.hK (s_tcount ok.hu a1 a2 a3 a4) (fun _=>rfl) (fun _ _ _ z=>by cases z)
 | .tget i k d,N,G,X,P,c,fl,e,ok,h=>by
  obtain ⟨y,q,eb,q2,m,p,ek,ed,cp,rfl,h⟩:=mE_tget h
  obtain ⟨h,h8⟩:=and2 h
  obtain ⟨h,h7⟩:=and2 h
  obtain ⟨h,h6⟩:=and2 h
  obtain ⟨h,h5⟩:=and2 h
  obtain ⟨h,h4⟩:=and2 h
  obtain ⟨h,h3⟩:=and2 h
  obtain ⟨h1,h2⟩:=and2 h
  obtain rfl:=of_decide_eq_true h3
  obtain ⟨a1,a2,a3,a4⟩:=varB_of ok h1
  obtain ⟨j,q3,rfl⟩:=isStr_of h2
  rw [ev_tget]
  have hst : starEach [ek,ed] X.env = [(false,eval ek X.env),(false,eval ed X.env)]:=by
   rw [star_of h5,star_of h6]
   rfl
  exact .plain ok.hK (s_tget ok.hu a1 a2 a3 a4 (sE k ok h7).b ((sE d ok h8).d rfl) ⟨rfl,by rw [hst];rfl,h4,by rw [hst];rfl⟩) (fun _=>rfl) (fun _ _ _ z=>by cases z)
 | .dsp kvs,N,G,X,P,c,fl,e,ok,h=>by
  obtain ⟨ks,vs,p,rfl,h⟩:=mE_dsp h
  rw [ev_dsp]
  exact .plain ok.hK (tN_tD (n_dsp (dsp_of h))) (fun _=>rfl) (fun _ _ _ z=>by cases z)
 | .heard k,N,G,X,P,c,fl,e,ok,h=>by
  cases h
 | .nost k,N,G,X,P,c,fl,e,ok,h=>by
  cases h
 | .isx a n,N,G,X,P,c,fl,e,ok,h=>by
  cases h
 | .isv a,N,G,X,P,c,fl,e,ok,h=>by
  cases h
 | .dn0,N,G,X,P,c,fl,e,ok,h=>by
  cases h
 | .bad,N,G,X,P,c,fl,e,ok,h=>by
  rw [ev_bad]
  have hf : ∀ {t : TE},PE X e (fun _ _ _=>False):=fun {t}=>⟨fun _ _ _ _ _ _ z=>False.elim z⟩
  refine ⟨peMono (hf (t:=tB P fun _ _=>.bad)) fun σ H Q ⟨F,r,t,R,q⟩=>q,fun _=>peMono (hf (t:=tB P fun _ _=>.bad)) fun σ H Q ⟨F,r,t,R,q⟩=>q,⟨fun _ _ _ _ _ _ z=>?_⟩,fun _ _ _ _=>⟨?_⟩⟩
  · obtain ⟨F,r,t,R,q⟩:=z
    exact False.elim q
  · intros
    rename_i z
    obtain ⟨F,r,t,R,q⟩:=z
    exact False.elim q
 | .sortL a,N,G,X,P,c,fl,e,ok,h=>by
  cases h
 | .slen a,N,G,X,P,c,fl,e,ok,h=>by
  cases h
 | .iset a,N,G,X,P,c,fl,e,ok,h=>by
  cases h
 | .pset a,N,G,X,P,c,fl,e,ok,h=>by
  cases h
 | .sset a,N,G,X,P,c,fl,e,ok,h=>by
  cases h
 | .dcomp own k v tg it,N,G,X,P,c,fl,e,ok,h=>by
  cases h
 | .dcompK own k v tg it,N,G,X,P,c,fl,e,ok,h=>by
  obtain ⟨ek,ev,et,ei,z,scope,p,rfl,h⟩:=mE_dcompK h
  obtain ⟨h,h8⟩:=and2 h
  obtain ⟨h,h7⟩:=and2 h
  obtain ⟨h,h6⟩:=and2 h
  obtain ⟨h,h5⟩:=and2 h
  obtain ⟨h,h4⟩:=and2 h
  obtain ⟨h,h3⟩:=and2 h
  obtain ⟨h1,h2⟩:=and2 h
  obtain rfl:=of_decide_eq_true h1
  rw [ev_dcompK]
  have hsl : ∀ i ∈ tg.slots,i ∈ own.map (·.2):=fun i hi=>by
   have:=List.all_eq_true.mp h3 i hi
   simpa using this
  exact .plain ok.hK (tN_tD (n_dcompK ok.hK ok.calm (by rw [ok.hN];exact ok.nd) (isT_of h6) (sI it ok h4) (by rw [ok.hN,ok.sc];exact blkOk_by h2) (fun s H C cl' fp=>sTg (ok.blk scope s H C cl' fp) h6)
   (fun s H C cl' fp=>(sE k (ok.blk scope s H C cl' fp) h7).d rfl) (fun s H C cl' fp=>(sE v (ok.blk scope s H C cl' fp) h8).d rfl) (fold_of h5) hsl)) (fun _=>rfl) (fun _ _ _ z=>by cases z)
 | .maxK a x' k,N,G,X,P,c,fl,e,ok,h=>by
  cases h
 | .mml mx a b,N,G,X,P,c,fl,e,ok,h=>by
  cases h
 | .maxd a b,N,G,X,P,c,fl,e,ok,h=>by
  cases h
 | .dn2 k v l w,N,G,X,P,c,fl,e,ok,h=>by
  cases h
 | .dcomp2 own k v tg it tg1 it1,N,G,X,P,c,fl,e,ok,h=>by
  cases h
 | .sortC a x' k,N,G,X,P,c,fl,e,ok,h=>by
  cases h
 | .dn1 k v,N,G,X,P,c,fl,e,ok,h=>by
  cases h
 | .ind neg a b,N,G,X,P,c,fl,e,ok,h=>by
  cases h
 | .sitems a,N,G,X,P,c,fl,e,ok,h=>by
  cases h
 | .sortN a N' k,N,G,X,P,c,fl,e,ok,h=>by
  cases h
 | .sortK a N' k,N,G,X,P,c,fl,e,ok,h=>by
  cases h
 | .dspE ks es,N,G,X,P,c,fl,e,ok,h=>by
  cases h
 | .idxG g b,N,G,X,P,c,fl,e,ok,h=>by
  cases h
 | .split a b,N,G,X,P,c,fl,e,ok,h=>by
  cases h
 | .idx a b,N,G,X,P,c,fl,e,ok,h=>by
  cases h
 | .sset2 own elt tg it tg1 it1,N,G,X,P,c,fl,e,ok,h=>by
  cases h
 | .comp2 own elt tg it tg1 it1,N,G,X,P,c,fl,e,ok,h=>by
  obtain ⟨ee,et,ei,z,et1,ei1,z1,scope,p,rfl,h⟩:=mE_comp2 h
  obtain ⟨h,h12⟩:=and2 h
  obtain ⟨h,h11⟩:=and2 h
  obtain ⟨h,h10⟩:=and2 h
  obtain ⟨h,h9⟩:=and2 h
  obtain ⟨h,h8⟩:=and2 h
  obtain ⟨h,h7⟩:=and2 h
  obtain ⟨h,h6⟩:=and2 h
  obtain ⟨h,h5⟩:=and2 h
  obtain ⟨h,h4⟩:=and2 h
  obtain ⟨h,h3⟩:=and2 h
  obtain ⟨h1,h2⟩:=and2 h
  obtain rfl:=of_decide_eq_true h1
  obtain rfl:=of_decide_eq_true h2
  rw [ev_comp2]
  have hsl : ∀ i ∈ tg.slots,i ∈ own.map (·.2):=fun i hi=>by
   have:=List.all_eq_true.mp h4 i hi
   simpa using this
  have hsl1 : ∀ i ∈ tg1.slots,i ∈ own.map (·.2):=fun i hi=>by
   have:=List.all_eq_true.mp h5 i hi
   simpa using this
  exact .plain ok.hK (tN_tD (n_comp2 ok.calm (by rw [ok.hN];exact ok.nd) (isT_of h9) (isT_of h11) (sI it ok h6) (by rw [ok.hN,ok.sc];exact blkOk_by h3) (fun s H C cl' fp=>sTg (ok.blk scope s H C cl' fp) h9) (fun s H C cl' fp=>sI it1 (ok.blk scope s H C cl' fp) h10) (fun s H C cl' fp=>sTg (ok.blk scope s H C cl' fp) h11)
   (fun s H C cl' fp=>(sE elt (ok.blk scope s H C cl' fp) h12).d rfl) (fold_of h7) (fun env=>fold_of h8) hsl hsl1)) (fun _=>rfl) (fun _ _ _ z=>by cases z)
 | .stp a lo hi st,N,G,X,P,c,fl,e,ok,h=>by
  cases h
 | .rev a,N,G,X,P,c,fl,e,ok,h=>by
  cases h
 | .compX own elt tg it,N,G,X,P,c,fl,e,ok,h=>by
  obtain ⟨ee,et,ei,z,scope,p,rfl,h⟩:=mE_compX h
  obtain ⟨h,h8⟩:=and2 h
  obtain ⟨h,h7⟩:=and2 h
  obtain ⟨h,h6⟩:=and2 h
  obtain ⟨h,h5⟩:=and2 h
  obtain ⟨h,h4⟩:=and2 h
  obtain ⟨h,h3⟩:=and2 h
  obtain ⟨h1,h2⟩:=and2 h
  obtain rfl:=of_decide_eq_true h2
  have hsl : ∀ i ∈ tg.slots,i ∈ own.map (·.2):=fun i hi=>by simpa using List.all_eq_true.mp h4 i hi
  rw [ev_compX]
  exact .plain ok.hK (tN_tD (peMono (pe_lcX (ok.top h1).1 (ok.top h1).2 ok.tk ok.calm (by rw [ok.hN];exact ok.nd) (sI it ok h5) (by rw [ok.hN,ok.sc];exact blkOk_by h3) (fun s H C cl' fp=>sTg (ok.blk scope s H C cl' fp) h7)
   (fun s H C cl' fp xe tk own=>(sE elt (ok.blkX scope s H C cl' fp xe tk own) h8).d rfl) (fold_of h6)) (compX_read (isT_of h7) hsl))) (fun _=>rfl) (fun _ _ _ z=>by cases z)
 | .comp own elt tg it cd,N,G,X,P,c,fl,e,ok,h=>by
  obtain ⟨ee,et,ei,ifs,z,scope,p,rfl,h⟩:=mE_comp h
  obtain ⟨h,h8⟩:=and2 h
  obtain ⟨h,h7⟩:=and2 h
  obtain ⟨h,h6⟩:=and2 h
  obtain ⟨h,h5⟩:=and2 h
  obtain ⟨h,h4⟩:=and2 h
  obtain ⟨h,h3⟩:=and2 h
  obtain ⟨h1,h2⟩:=and2 h
  obtain rfl:=of_decide_eq_true h1
  rw [ev_comp]
  have hsl : ∀ i ∈ tg.slots,i ∈ own.map (·.2):=fun i hi=>by
   have:=List.all_eq_true.mp h3 i hi
   simpa using this
  refine .plain ok.hK (tN_tD (n_comp ok.calm (by rw [ok.hN];exact ok.nd) (isT_of h6) (sI it ok h4) (by rw [ok.hN,ok.sc];exact blkOk_by h2) (fun s H C cl' fp=>sTg (ok.blk scope s H C cl' fp) h6) (fun s H C cl' fp=>?_)
   (fun s H C cl' fp=>(sE elt (ok.blk scope s H C cl' fp) h8).d rfl) (fold_of h5) hsl)) (fun _=>rfl) (fun _ _ _ z=>by cases z)
  cases cd with
  | none=>
   cases ifs with
   | nil=>
    rw [evO_none]
    exact c_none
   | cons _ _=>cases h7
  | some k=>
   cases ifs with
   | nil=>cases h7
   | cons x xs=>
    cases xs with
    | nil=>
     rw [evO_some]
     exact c_some (sE k (ok.blk scope s H C cl' fp) (show mE tb N (blkCs c scope) true k x = true from h7)).t
    | cons _ _=>cases h7
theorem sO : ∀ (o : O) {N : List Str} {G : Gam} {X : Cx} {P : Pm} {c : Cs} {e : Option Expr},Ok tb N G cs cl X P c → mO tb N c o e = true → PO X e (tO P (evO G cs o))
 | .none,N,G,X,P,c,none,ok,h=>by
  rw [evO_none]
  exact s_none
 | .some k,N,G,X,P,c,some e,ok,h=>by
  rw [evO_some]
  exact s_some (sE k ok h).b
theorem sEs : ∀ (es : Es) {N : List Str} {G : Gam} {X : Cx} {P : Pm} {c : Cs} {xs : List Expr},Ok tb N G cs cl X P c → mEs tb N c es xs = true → PA X xs (tDs P (evs G cs es))
 | .nil,N,G,X,P,c,[],ok,h=>by
  rw [evs_nil]
  exact s_nil
 | .cons k es,N,G,X,P,c,x :: xs,ok,h=>by
  obtain ⟨h,h3⟩:=and2 h
  obtain ⟨h1,h2⟩:=and2 h
  rw [evs_cons]
  exact s_cons ((sE k ok h2).d rfl) (sEs es ok h3) (star_of h1)
theorem sDs : ∀ (es : Es) {N : List Str} {G : Gam} {X : Cx} {P : Pm} {c : Cs} {ks : List Str} {kes : List (Option Expr)} {xs : List Expr},Ok tb N G cs cl X P c → keysB ks kes = true → kes.length = xs.length → mEs tb N c es xs = true → DspE X P ks (esF G cs es) kes xs
 | .nil,N,G,X,P,c,ks,kes,[],ok,hk,hl,h=>by
  cases kes with
  | cons _ _=>cases hl
  | nil=>
   cases ks with
   | cons _ _=>cases hk
   | nil=>exact .nil
 | .cons k es,N,G,X,P,c,ks,kes,x :: xs,ok,hk,hl,h=>by
  obtain ⟨h,h3⟩:=and2 h
  obtain ⟨h1,h2⟩:=and2 h
  cases kes with
  | nil=>cases hl
  | cons ke kes=>
   obtain ⟨y,ks',j,q,rfl,rfl,hk2⟩:=keysB_of hk
   exact .cons ((sE k ok h2).d rfl) (sDs es ok hk2 (by simpa using hl) h3)
theorem sKs : ∀ (es : Es) {N : List Str} {G : Gam} {X : Cx} {P : Pm} {c : Cs} {xs : List Keyword},Ok tb N G cs cl X P c → mKs tb N c es xs = true → PK X xs (tDs P (evs G cs es))
 | .nil,N,G,X,P,c,[],ok,h=>by
  rw [evs_nil]
  exact k_nil
 | .cons k es,N,G,X,P,c,⟨nm,x,p⟩ :: xs,ok,h=>by
  obtain ⟨h2,h3⟩:=and2 h
  rw [evs_cons]
  exact k_cons ((sE k ok h2).d rfl) (sKs es ok h3)
theorem sI : ∀ (i : I) {N : List Str} {G : Gam} {X : Cx} {P : Pm} {c : Cs} {fz : Bool} {tg e : Expr},Ok tb N G cs cl X P c → mI tb N c fz tg i e = true → PI X tg e (tI P fz (isTupB tg) (evI G cs i))
 | .val k,N,G,X,P,c,fz,tg,e,ok,h=>by
  have h : mE tb N c (!fz) k e = true:=h
  rw [evI_val]
  cases fz with
  | true=>exact i_val ok.hK ((sE k ok h).d rfl)
  | false=>exact i_bor ok.hK (sE k ok h).b
 | .rng1 a,N,G,X,P,c,fz,tg,e,ok,h=>by
  obtain ⟨x,q,ea,p,rfl,h⟩:=mI_rng1 h
  obtain ⟨h,h4⟩:=and2 h
  obtain ⟨h,h3⟩:=and2 h
  obtain ⟨h1,h2⟩:=and2 h
  obtain rfl:=of_decide_eq_true h1
  rw [evI_rng1]
  exact i_rng1 (glB_of ok h2).1 (ok.free _ (by decide)) (sE a ok h4).b (star_of h3)
 | .rng2 a b,N,G,X,P,c,fz,tg,e,ok,h=>by
  cases h
 | .zip a b,N,G,X,P,c,fz,tg,e,ok,h=>by
  cases h
 | .zipS a b,N,G,X,P,c,fz,tg,e,ok,h=>by
  cases h
 | .zipN a b,N,G,X,P,c,fz,tg,e,ok,h=>by
  cases h
 | .keys a,N,G,X,P,c,fz,tg,e,ok,h=>by
  cases h
 | .enumT a,N,G,X,P,c,fz,tg,e,ok,h=>by
  cases h
 | .enum a,N,G,X,P,c,fz,tg,e,ok,h=>by
  cases h
end
end
end Fm
namespace Fm
open PySem PySem.Spec PyProof.Rows L2
def augB : Operator → Bool
 | .Add=>true
 | .Sub=>true
 | .Mult=>true
 | .FloorDiv=>true
 | .Mod=>true
 | _=>false
def isComp : E → Bool
 | .comp _ _ _ _ _=>true
 | .comp2 _ _ _ _ _ _=>true
 | .compX _ _ _ _=>true
 | _=>false
def isCompN : E → Bool
 | .comp _ _ _ _ _=>true
 | .dcompK _ _ _ _ _=>true
 | .compX _ _ _ _=>true
 | _=>false
def swT (c : Cs) (y : Str) (py : Pos) : Expr → Bool
 | .ListComp _ _ scope p=>decide (c.sc.kind = .function) && lclB c y && (py.line == p.line) && !(scope.names.any fun (n,k)=>n == y && (k == .local || k == .cell))
 | .DictComp _ _ _ scope p=>decide (c.sc.kind = .function) && lclB c y && (py.line == p.line) && !(scope.names.any fun (n,k)=>n == y && (k == .local || k == .cell))
 | _=>false
def swF (c : Cs) (y : Str) (py : Pos) (v : Expr) : Bool:=nComp v || match v with
 | .ListComp _ _ scope p=>decide (c.sc.names.lookup y = some .cell) || !(py.line == p.line)
 | .DictComp _ _ _ scope p=>decide (c.sc.names.lookup y = some .cell) || !(py.line == p.line)
 | _=>false
def nonLoc (c : Cs) : Expr → Bool
 | .Name x _=>!lclB c x
 | _=>true
def noneB (c : Cs) (ts : List Expr) : Expr → Bool
 | .Tuple vs _ _=>!(ts.length == 2 || ts.length == 3) || ts.any (nonLoc c) || vs.all (foldedForSure 8)
 | _=>true
def mAsg (tb : Tb) (N : List Str) (c : Cs) (tg : Tg) (k : E) : Expr → Expr → Bool
 | .Name y py,v=>mTg N c tg (.Name y py) && (swF c y py v || (isComp k && swT c y py v)) && mE tb N c false k v
 | .Tuple ts a p,v=>mTg N c tg (.Tuple ts a p) && nComp v && noneB c ts v && mE tb N c false k v
 | _,_=>false
def locAt (N : List Str) (c : Cs) (i : Nat) (x : Str) : Bool:=decide (N[i]? = some x) && lclB c x
def mPar (tb : Tb) (N : List Str) (c : Cs) (is : List Nat) (es : Es) (ts vs : List Expr) : Bool:=decide (c.sc.kind = .function) && !vs.any (fun e=>!nStar e) && !vs.all (foldedForSure 8) && !vs.all (constantsAlone 8) && mEs tb N c es vs &&
 (match is,ts,vs with
  | [i,j],[.Name x px,.Name y py],[_,_]=>decide (i ≠ j) && locAt N c i x && locAt N c j y && decide (x ≠ y) && (py.line == px.line)
  | [i,j,l],[.Name x px,.Name y py,.Name z pz],[_,_,_]=>decide (i ≠ j) && decide (i ≠ l) && decide (j ≠ l) && locAt N c i x && locAt N c j y && locAt N c l z && decide (x ≠ y) && decide (x ≠ z) && decide (y ≠ z) && (py.line == px.line) && (pz.line == px.line)
  | _,_,_=>false)
def mNew (tb : Tb) (N : List Str) (c : Cs) (i : Nat) (k : E) (t v : Expr) : Bool:=match t with
 | .Name y py=>freshB k && tgtB N c i y && (swF c y py v || (isCompN k && swT c y py v)) && mE tb N c false k v
 | _=>false
def mApp (tb : Tb) (N : List Str) (c : Cs) (i : Nat) (k : E) : Expr → Bool
 | .Call (.Attribute (.Name y _) m p1) [a] [] p2=>decide (m = "append") && varB N c i y && (p1.endLine == p2.line) && nStar a && mE tb N c false k a
 | _=>false
def mPut (tb : Tb) (N : List Str) (c : Cs) (i : Nat) (k e : E) (t v : Expr) : Bool:=match t with
 | .Subscript (.Name y _) b _=>varB N c i y && nSlice b && nComp v && mE tb N c true k b && mE tb N c false e v
 | _=>false
def mAug (tb : Tb) (N : List Str) (c : Cs) (i : Nat) (op : Operator) (k : E) (t : Expr) (op' : Operator) (v : Expr) : Bool:=match t with
 | .Name y _=>decide (op = op') && augB op && tgtB N c i y && mE tb N c true k v
 | _=>false
def mTcnt (tb : Tb) (N : List Str) (c : Cs) (i : Nat) (k : E) (t v : Expr) : Bool:=match t with
 | .Subscript (.Name y _) eb _=>varB N c i y && isStr "count" eb && nComp v && mE tb N c false k v
 | _=>false
def mTrst (tb : Tb) (N : List Str) (c : Cs) (i : Nat) (k a : E) (t v : Expr) : Bool:=match t with
 | .Subscript (.Subscript (.Name y _) eb _) b _=>varB N c i y && isStr "rests" eb && nComp v && mE tb N c true k b && mE tb N c false a v
 | _=>false
def isFrz : S → Option Nat
 | .frz i=>some i
 | _=>none
mutual
def mS (tb : Tb) (N : List Str) (c : Cs) : S → Stmt → Bool
 | .asg tg k,.Assign [t] v _=>mAsg tb N c tg k t v
 | .par is es,.Assign [.Tuple ts _ _] (.Tuple vs _ _) _=>mPar tb N c is es ts vs
 | .aug i op k,.AugAssign t op' v _=>mAug tb N c i op k t op' v
 | .ret k,.Return (some v) _=>mE tb N c false k v
 | .ite k a b,.If ek sa sb _=>mE tb N c true k ek && mSs tb N c a sa && mSs tb N c b sb
 | .for tg it b,.For et ei sb [] _=>nSet ei && mTg N c tg et && mI tb N c true et it ei && mSs tb N c b sb
 | .while k b,.While ek sb [] _=>mE tb N c true k ek && mSs tb N c b sb
 | .new i k,.Assign [t] v _=>mNew tb N c i k t v
 | .app i k,.Expr v _=>mApp tb N c i k v
 | .put i k e,.Assign [t] v _=>mPut tb N c i k e t v
 | .tcnt i k,.Assign [t] v _=>mTcnt tb N c i k t v
 | .trst i k e,.Assign [t] v _=>mTrst tb N c i k e t v
 | .bad,_=>true
 | _,_=>false
def mSs (tb : Tb) (N : List Str) (c : Cs) : Ss → List Stmt → Bool
 | .nil,[]=>true
 | .nil,_ :: _=>false
 | .cons s r,ss=>match isFrz s with
  | some _=>mSs tb N c r ss
  | none=>match ss with
   | st :: rest=>mS tb N c s st && mSs tb N c r rest
   | []=>false
end
section
variable {tb : Tb} {N : List Str} {c : Cs}
theorem mS_asg {tg : Tg} {k : E} {e : Stmt} (h : mS tb N c (.asg tg k) e = true) : ∃ t v p,e = .Assign [t] v p ∧ (mAsg tb N c tg k t v) = true:=by
 cases e
 all_goals first
  | (cases h;done)
  | exact ⟨_,_,_,rfl,h⟩
  | (rename_i ts v p;cases ts with | nil=>(cases h;done) | cons t ts=>cases ts with | nil=>exact ⟨_,_,_,rfl,h⟩ | cons _ _=>(cases h;done))
theorem mS_new {i : Nat} {k : E} {e : Stmt} (h : mS tb N c (.new i k) e = true) : ∃ t v p,e = .Assign [t] v p ∧ (mNew tb N c i k t v) = true:=by
 cases e
 all_goals first
  | (cases h;done)
  | exact ⟨_,_,_,rfl,h⟩
  | (rename_i ts v p;cases ts with | nil=>(cases h;done) | cons t ts=>cases ts with | nil=>exact ⟨_,_,_,rfl,h⟩ | cons _ _=>(cases h;done))
theorem mS_put {i : Nat} {k a : E} {e : Stmt} (h : mS tb N c (.put i k a) e = true) : ∃ t v p,e = .Assign [t] v p ∧ (mPut tb N c i k a t v) = true:=by
 cases e
 all_goals first
  | (cases h;done)
  | exact ⟨_,_,_,rfl,h⟩
  | (rename_i ts v p;cases ts with | nil=>(cases h;done) | cons t ts=>cases ts with | nil=>exact ⟨_,_,_,rfl,h⟩ | cons _ _=>(cases h;done))
theorem mS_tcnt {i : Nat} {k : E} {e : Stmt} (h : mS tb N c (.tcnt i k) e = true) : ∃ t v p,e = .Assign [t] v p ∧ (mTcnt tb N c i k t v) = true:=by
 cases e
 all_goals first
  | (cases h;done)
  | exact ⟨_,_,_,rfl,h⟩
  | (rename_i ts v p;cases ts with | nil=>(cases h;done) | cons t ts=>cases ts with | nil=>exact ⟨_,_,_,rfl,h⟩ | cons _ _=>(cases h;done))
theorem mS_trst {i : Nat} {k a : E} {e : Stmt} (h : mS tb N c (.trst i k a) e = true) : ∃ t v p,e = .Assign [t] v p ∧ (mTrst tb N c i k a t v) = true:=by
 cases e
 all_goals first
  | (cases h;done)
  | exact ⟨_,_,_,rfl,h⟩
  | (rename_i ts v p;cases ts with | nil=>(cases h;done) | cons t ts=>cases ts with | nil=>exact ⟨_,_,_,rfl,h⟩ | cons _ _=>(cases h;done))
theorem mS_par {is : List Nat} {es : Es} {e : Stmt} (h : mS tb N c (.par is es) e = true) : ∃ ts kt pt vs kv pv p,e = .Assign [.Tuple ts kt pt] (.Tuple vs kv pv) p ∧ (mPar tb N c is es ts vs) = true:=by
 cases e
 all_goals first
  | (cases h;done)
  | exact ⟨_,_,_,_,_,_,_,rfl,h⟩
  | (rename_i ts v p;cases ts with | nil=>(cases h;done) | cons t ts=>cases t <;> first | (cases h;done) | (cases ts with | nil=>(cases v <;> first | (cases h;done) | exact ⟨_,_,_,_,_,_,_,rfl,h⟩) | cons _ _=>(cases h;done)))
theorem mS_aug {i : Nat} {op : Operator} {k : E} {e : Stmt} (h : mS tb N c (.aug i op k) e = true) : ∃ t op' v p,e = .AugAssign t op' v p ∧ (mAug tb N c i op k t op' v) = true:=by
 cases e
 all_goals first
  | (cases h;done)
  | exact ⟨_,_,_,_,rfl,h⟩
theorem mS_ret {k : E} {e : Stmt} (h : mS tb N c (.ret k) e = true) : ∃ v p,e = .Return (some v) p ∧ (mE tb N c false k v) = true:=by
 cases e
 all_goals first
  | (cases h;done)
  | exact ⟨_,_,rfl,h⟩
  | (rename_i v p;cases v with | none=>(cases h;done) | some v=>exact ⟨_,_,rfl,h⟩)
theorem mS_ite {k : E} {a b : Ss} {e : Stmt} (h : mS tb N c (.ite k a b) e = true) : ∃ ek sa sb p,e = .If ek sa sb p ∧ (mE tb N c true k ek && mSs tb N c a sa && mSs tb N c b sb) = true:=by
 cases e
 all_goals first
  | (cases h;done)
  | exact ⟨_,_,_,_,rfl,h⟩
theorem mS_for {tg : Tg} {it : I} {b : Ss} {e : Stmt} (h : mS tb N c (.for tg it b) e = true) : ∃ et ei sb p,e = .For et ei sb [] p ∧ (nSet ei && mTg N c tg et && mI tb N c true et it ei && mSs tb N c b sb) = true:=by
 cases e
 all_goals first
  | (cases h;done)
  | exact ⟨_,_,_,_,rfl,h⟩
  | (rename_i et ei sb el p;cases el with | nil=>exact ⟨_,_,_,_,rfl,h⟩ | cons _ _=>(cases h;done))
theorem mS_while {k : E} {b : Ss} {e : Stmt} (h : mS tb N c (.while k b) e = true) : ∃ ek sb p,e = .While ek sb [] p ∧ (mE tb N c true k ek && mSs tb N c b sb) = true:=by
 cases e
 all_goals first
  | (cases h;done)
  | exact ⟨_,_,_,rfl,h⟩
  | (rename_i ek sb el p;cases el with | nil=>exact ⟨_,_,_,rfl,h⟩ | cons _ _=>(cases h;done))
theorem mS_app {i : Nat} {k : E} {e : Stmt} (h : mS tb N c (.app i k) e = true) : ∃ v p,e = .Expr v p ∧ (mApp tb N c i k v) = true:=by
 cases e
 all_goals first
  | (cases h;done)
  | exact ⟨_,_,rfl,h⟩
theorem mSs_frz {i : Nat} {r : Ss} {ss : List Stmt} (h : mSs tb N c (.cons (.frz i) r) ss = true) : mSs tb N c r ss = true:=h
theorem mSs_cons {s : S} {r : Ss} {ss : List Stmt} (hf : isFrz s = none) (h : mSs tb N c (.cons s r) ss = true) : ∃ st rest,ss = st :: rest ∧ mS tb N c s st = true ∧ mSs tb N c r rest = true:=by
 cases s <;> first | (cases hf;done) | (cases ss with | nil=>(cases h;done) | cons st rest=>exact ⟨st,rest,rfl,and2 h⟩)
end
end Fm
namespace Fm
open PySem PySem.Spec PyProof.Rows L2
section
variable {tb : Tb} {N : List Str} {G : Gam} {cs : Nat → D} {cl : Nat → Addr} {X : Cx} {P : Pm} {c : Cs}
theorem sw_plain {v : Expr} {t : Option Expr} {l : Nat} {env : Env} (h : nComp v = true) : swapsWith v t l env = pure false:=by
 cases v <;> first | rfl | (cases h;done)
theorem sw_sole {v t : Expr} {l : Nat} {env : Env} (h : nComp v = true) : swapsWithSole [t] v l env = pure false:=sw_plain h
theorem sw_off {elt : Expr} {gs : List Comprehension} {scope : Scope} {pos py : Pos} {y : Str} {l : Nat} {env : Env} (h : env.scope.names.lookup y = some .cell ∨ (py.line == pos.line) = false) : swapsWith (.ListComp elt gs scope pos) (some (.Name y py)) l env = pure false:=by
 unfold swapsWith
 rcases h with h | h
 · have ky : env.kindOf y = some .cell:=h
   simp only [ky,Expr.pos]
   have : ((some NameKind.cell : Option NameKind) == some NameKind.local) = false:=rfl
   simp only [this,Bool.and_false,Bool.false_and]
 · simp only [Expr.pos,h,Bool.and_false,Bool.false_and]
theorem sw_offD {kx vx : Expr} {gs : List Comprehension} {scope : Scope} {pos py : Pos} {y : Str} {l : Nat} {env : Env} (h : env.scope.names.lookup y = some .cell ∨ (py.line == pos.line) = false) : swapsWith (.DictComp kx vx gs scope pos) (some (.Name y py)) l env = pure false:=by
 rcases h with h | h
 · have ky : env.kindOf y = some .cell:=h
   have : ((some NameKind.cell : Option NameKind) == some NameKind.local) = false:=rfl
   simp [swapsWith,ky,this]
 · simp [swapsWith,Expr.pos,h]
theorem lclB_of {x : Str} (h : lclB c x = true) : c.sc.names.lookup x = some .local:=by
 unfold lclB at h
 split at h
 · assumption
 · cases h
theorem swF_of (ok : Ok tb N G cs cl X P c) {y : Str} {py : Pos} {v : Expr} {l : Nat} (h : swF c y py v = true) : swapsWith v (some (.Name y py)) l X.env = pure false:=by
 unfold swF at h
 rcases Bool.or_eq_true_iff.mp h with h | h
 · exact sw_plain h
 · split at h
   · refine sw_off ?_
     rw [ok.sc]
     rcases Bool.or_eq_true_iff.mp h with h | h
     · exact .inl (of_decide_eq_true h)
     · exact .inr (by simpa using h)
   · refine sw_offD ?_
     rw [ok.sc]
     rcases Bool.or_eq_true_iff.mp h with h | h
     · exact .inl (of_decide_eq_true h)
     · exact .inr (by simpa using h)
   · cases h
theorem sCd (ok : Ok tb N G cs cl X P c) {cd : O} {ifs : List Expr} (h7 : mCd tb N c cd ifs = true) : PTs X ifs (tC1 P (evO G cs cd)):=by
 cases cd with
 | none=>
  cases ifs with
  | nil=>
   rw [evO_none]
   exact c_none
  | cons _ _=>cases h7
 | some k=>
  cases ifs with
  | nil=>cases h7
  | cons x xs=>
   cases xs with
   | nil=>
    rw [evO_some]
    exact c_some (sE k ok (show mE tb N c true k x = true from h7)).t
   | cons _ _=>cases h7
theorem sN (ok : Ok tb N G cs cl X P c) {k : E} {v : Expr} (hf : freshB k = true) (hv : mE tb N c false k v = true) : PE X v (tN P (ev G cs k)):=by
 cases k with
 | lst es=>
  obtain ⟨xs,p,rfl,h⟩:=mE_lst hv
  rw [ev_lst]
  exact n_lst (sEs es ok h)
 | dsp kvs=>
  obtain ⟨ks,vs,p,rfl,h⟩:=mE_dsp hv
  rw [ev_dsp]
  exact n_dsp (dsp_of h)
 | dn0=>
  cases hv
 | iset a=>
  cases hv
 | pset a=>
  cases hv
 | sset a=>
  cases hv
 | dcomp own k v tg it=>
  cases hv
 | dcompK own k v tg it=>
  obtain ⟨ek,ev,et,ei,z,scope,p,rfl,h⟩:=mE_dcompK hv
  obtain ⟨h,h8⟩:=and2 h
  obtain ⟨h,h7⟩:=and2 h
  obtain ⟨h,h6⟩:=and2 h
  obtain ⟨h,h5⟩:=and2 h
  obtain ⟨h,h4⟩:=and2 h
  obtain ⟨h,h3⟩:=and2 h
  obtain ⟨h1,h2⟩:=and2 h
  obtain rfl:=of_decide_eq_true h1
  rw [ev_dcompK]
  have hsl : ∀ i ∈ tg.slots,i ∈ own.map (·.2):=fun i hi=>by
   have:=List.all_eq_true.mp h3 i hi
   simpa using this
  exact n_dcompK ok.hK ok.calm (by rw [ok.hN];exact ok.nd) (isT_of h6) (sI it ok h4) (by rw [ok.hN,ok.sc];exact blkOk_by h2) (fun s H C cl' fp=>sTg (ok.blk scope s H C cl' fp) h6)
   (fun s H C cl' fp=>(sE k (ok.blk scope s H C cl' fp) h7).d rfl) (fun s H C cl' fp=>(sE v (ok.blk scope s H C cl' fp) h8).d rfl) (fold_of h5) hsl
 | dn1 k v=>
  cases hv
 | dspE ks es=>
  cases hv
 | comp own elt tg it cd=>
  obtain ⟨ee,et,ei,ifs,z,scope,p,rfl,h⟩:=mE_comp hv
  obtain ⟨h,h8⟩:=and2 h
  obtain ⟨h,h7⟩:=and2 h
  obtain ⟨h,h6⟩:=and2 h
  obtain ⟨h,h5⟩:=and2 h
  obtain ⟨h,h4⟩:=and2 h
  obtain ⟨h,h3⟩:=and2 h
  obtain ⟨h1,h2⟩:=and2 h
  obtain rfl:=of_decide_eq_true h1
  have hsl : ∀ i ∈ tg.slots,i ∈ own.map (·.2):=fun i hi=>by
   have:=List.all_eq_true.mp h3 i hi
   simpa using this
  rw [ev_comp]
  exact n_comp ok.calm (by rw [ok.hN];exact ok.nd) (isT_of h6) (sI it ok h4) (by rw [ok.hN,ok.sc];exact blkOk_by h2) (fun s H C cl' fp=>sTg (ok.blk scope s H C cl' fp) h6) (fun s H C cl' fp=>sCd (ok.blk scope s H C cl' fp) h7)
   (fun s H C cl' fp=>(sE elt (ok.blk scope s H C cl' fp) h8).d rfl) (fold_of h5) hsl
 | compX own elt tg it=>
  obtain ⟨ee,et,ei,z,scope,p,rfl,h⟩:=mE_compX hv
  obtain ⟨h,h8⟩:=and2 h
  obtain ⟨h,h7⟩:=and2 h
  obtain ⟨h,h6⟩:=and2 h
  obtain ⟨h,h5⟩:=and2 h
  obtain ⟨h,h4⟩:=and2 h
  obtain ⟨h,h3⟩:=and2 h
  obtain ⟨h1,h2⟩:=and2 h
  obtain rfl:=of_decide_eq_true h2
  have hsl : ∀ i ∈ tg.slots,i ∈ own.map (·.2):=fun i hi=>by simpa using List.all_eq_true.mp h4 i hi
  rw [ev_compX]
  exact (peMono (pe_lcX (ok.top h1).1 (ok.top h1).2 ok.tk ok.calm (by rw [ok.hN];exact ok.nd) (sI it ok h5) (by rw [ok.hN,ok.sc];exact blkOk_by h3) (fun s H C cl' fp=>sTg (ok.blk scope s H C cl' fp) h7)
   (fun s H C cl' fp xe tk own=>(sE elt (ok.blkX scope s H C cl' fp xe tk own) h8).d rfl) (fold_of h6)) (compX_read (isT_of h7) hsl))
 | sset2 own elt tg it tg1 it1=>
  cases hv
 | comp2 own elt tg it tg1 it1=>
  obtain ⟨ee,et,ei,z,et1,ei1,z1,scope,p,rfl,h⟩:=mE_comp2 hv
  obtain ⟨h,h12⟩:=and2 h
  obtain ⟨h,h11⟩:=and2 h
  obtain ⟨h,h10⟩:=and2 h
  obtain ⟨h,h9⟩:=and2 h
  obtain ⟨h,h8⟩:=and2 h
  obtain ⟨h,h7⟩:=and2 h
  obtain ⟨h,h6⟩:=and2 h
  obtain ⟨h,h5⟩:=and2 h
  obtain ⟨h,h4⟩:=and2 h
  obtain ⟨h,h3⟩:=and2 h
  obtain ⟨h1,h2⟩:=and2 h
  obtain rfl:=of_decide_eq_true h1
  obtain rfl:=of_decide_eq_true h2
  rw [ev_comp2]
  have hsl : ∀ i ∈ tg.slots,i ∈ own.map (·.2):=fun i hi=>by
   have:=List.all_eq_true.mp h4 i hi
   simpa using this
  have hsl1 : ∀ i ∈ tg1.slots,i ∈ own.map (·.2):=fun i hi=>by
   have:=List.all_eq_true.mp h5 i hi
   simpa using this
  exact n_comp2 ok.calm (by rw [ok.hN];exact ok.nd) (isT_of h9) (isT_of h11) (sI it ok h6) (by rw [ok.hN,ok.sc];exact blkOk_by h3) (fun s H C cl' fp=>sTg (ok.blk scope s H C cl' fp) h9) (fun s H C cl' fp=>sI it1 (ok.blk scope s H C cl' fp) h10) (fun s H C cl' fp=>sTg (ok.blk scope s H C cl' fp) h11)
   (fun s H C cl' fp=>(sE elt (ok.blk scope s H C cl' fp) h12).d rfl) (fold_of h7) (fun env=>fold_of h8) hsl hsl1
 | cat a b=>
  cases hv
 | blt b a=>
  obtain ⟨x,q,ea,p,rfl,h⟩:=mE_blt hv
  obtain ⟨h,h5⟩:=and2 h
  obtain ⟨h,h4⟩:=and2 h
  obtain ⟨h,h3⟩:=and2 h
  obtain ⟨h1,h2⟩:=and2 h
  obtain rfl:=of_decide_eq_true h2
  rw [ev_blt]
  exact (s_blt ok h1 h3 h4 (sE a ok h5).b).2 (by cases b <;> first | rfl | (cases hf;done))
 | _=>cases hf
theorem asgN (ok : Ok tb N G cs cl X P c) {i : Nat} {y : Str} {py pos : Pos} {k : E} {v : Expr} {te : TE} (ht : tgtB N c i y = true) (hs : swF c y py v = true) (hv : PE X v te) : PS X (.Assign [.Name y py] v pos) (tAsg te (gName i)):=by
 obtain ⟨h1,h2,h3⟩:=tgtB_of ok ht
 exact asg_plain (by rw [ok.hN];exact ok.nd) h1 h2 hv (swF_of ok hs) h3
theorem asgC1 (ok : Ok tb N G cs cl X P c) {i : Nat} {y : Str} {py pos : Pos} {own : List (Str × Nat)} {elt : E} {tg : Tg} {it : I} {cd : O} {v : Expr} (ht : tgtB N c i y = true) (hs : swT c y py v = true) (hv : mE tb N c false (.comp own elt tg it cd) v = true) : PS X (.Assign [.Name y py] v pos) (tAsg (tN P (ev G cs (.comp own elt tg it cd))) (gName i)):=by
 obtain ⟨t1,t2,t3⟩:=tgtB_of ok ht
 obtain ⟨ee,et,ei,ifs,z,scope,p,rfl,h⟩:=mE_comp hv
 obtain ⟨h,h8⟩:=and2 h
 obtain ⟨h,h7⟩:=and2 h
 obtain ⟨h,h6⟩:=and2 h
 obtain ⟨h,h5⟩:=and2 h
 obtain ⟨h,h4⟩:=and2 h
 obtain ⟨h,h3⟩:=and2 h
 obtain ⟨h1,h2⟩:=and2 h
 obtain rfl:=of_decide_eq_true h1
 have hs : (decide (c.sc.kind = .function) && lclB c y && (py.line == p.line) && !(scope.names.any fun (n,k)=>n == y && (k == .local || k == .cell))) = true:=hs
 obtain ⟨hs,s4⟩:=and2 hs
 obtain ⟨hs,s3⟩:=and2 hs
 obtain ⟨s1,s2⟩:=and2 hs
 have hsl : ∀ i ∈ tg.slots,i ∈ own.map (·.2):=fun i hi=>by
  have:=List.all_eq_true.mp h3 i hi
  simpa using this
 have hyl : X.env.scope.names.lookup y = some .local:=by rw [ok.sc];exact lclB_of s2
 rw [ev_comp]
 refine psMono (ps_setLc ok.calm (by rw [ok.hN];exact ok.nd) t1 hyl (sw_true (by rw [ok.sc];exact of_decide_eq_true s1) hyl s3 (by simpa using s4)) (sI it ok h4) (by rw [ok.hN,ok.sc];exact blkOk_by h2) (fun s H C cl' fp=>sTg (ok.blk scope s H C cl' fp) h6) (fun s H C cl' fp=>sCd (ok.blk scope s H C cl' fp) h7)
  (fun s H C cl' fp=>(sE elt (ok.blk scope s H C cl' fp) h8).d rfl) (fold_of h5)) fun D σ H h=>comp_read (isT_of h6) hsl σ H _ h
theorem asgC3 (ok : Ok tb N G cs cl X P c) {i : Nat} {y : Str} {py pos : Pos} {own : List (Str × Nat)} {elt : E} {tg : Tg} {it : I} {v : Expr} (ht : tgtB N c i y = true) (hs : swT c y py v = true) (hv : mE tb N c false (.compX own elt tg it) v = true) : PS X (.Assign [.Name y py] v pos) (tAsg (tN P (ev G cs (.compX own elt tg it))) (gName i)):=by
 obtain ⟨t1,t2,t3⟩:=tgtB_of ok ht
 obtain ⟨ee,et,ei,z,scope,p,rfl,h⟩:=mE_compX hv
 obtain ⟨h,h8⟩:=and2 h
 obtain ⟨h,h7⟩:=and2 h
 obtain ⟨h,h6⟩:=and2 h
 obtain ⟨h,h5⟩:=and2 h
 obtain ⟨h,h4⟩:=and2 h
 obtain ⟨h,h3⟩:=and2 h
 obtain ⟨h1,h2⟩:=and2 h
 obtain rfl:=of_decide_eq_true h2
 have hsl : ∀ i ∈ tg.slots,i ∈ own.map (·.2):=fun i hi=>by simpa using List.all_eq_true.mp h4 i hi
 rw [ev_compX]
 have hs : (decide (c.sc.kind = .function) && lclB c y && (py.line == p.line) && !(scope.names.any fun (n,k)=>n == y && (k == .local || k == .cell))) = true:=hs
 obtain ⟨hs,s4⟩:=and2 hs
 obtain ⟨hs,s3⟩:=and2 hs
 obtain ⟨s1,s2⟩:=and2 hs
 have hyl : X.env.scope.names.lookup y = some .local:=by rw [ok.sc];exact lclB_of s2
 exact psMono (ps_lcX (ok.top h1).1 (ok.top h1).2 ok.tk ok.calm (by rw [ok.hN];exact ok.nd) t1 hyl (sw_true (by rw [ok.sc];exact of_decide_eq_true s1) hyl s3 (by simpa using s4)) (sI it ok h5) (by rw [ok.hN,ok.sc];exact blkOk_by h3) (fun s H C cl' fp=>sTg (ok.blk scope s H C cl' fp) h7)
  (fun s H C cl' fp xe tk own=>(sE elt (ok.blkX scope s H C cl' fp xe tk own) h8).d rfl) (fold_of h6)) fun D σ H h=>compX_read (isT_of h7) hsl σ H _ h
theorem asgC2 (ok : Ok tb N G cs cl X P c) {i : Nat} {y : Str} {py pos : Pos} {own : List (Str × Nat)} {elt : E} {tg : Tg} {it : I} {tg1 : Tg} {it1 : I} {v : Expr} (ht : tgtB N c i y = true) (hs : swT c y py v = true) (hv : mE tb N c false (.comp2 own elt tg it tg1 it1) v = true) : PS X (.Assign [.Name y py] v pos) (tAsg (tN P (ev G cs (.comp2 own elt tg it tg1 it1))) (gName i)):=by
 obtain ⟨t1,t2,t3⟩:=tgtB_of ok ht
 obtain ⟨ee,et,ei,z,et1,ei1,z1,scope,p,rfl,h⟩:=mE_comp2 hv
 obtain ⟨h,h12⟩:=and2 h
 obtain ⟨h,h11⟩:=and2 h
 obtain ⟨h,h10⟩:=and2 h
 obtain ⟨h,h9⟩:=and2 h
 obtain ⟨h,h8⟩:=and2 h
 obtain ⟨h,h7⟩:=and2 h
 obtain ⟨h,h6⟩:=and2 h
 obtain ⟨h,h5⟩:=and2 h
 obtain ⟨h,h4⟩:=and2 h
 obtain ⟨h,h3⟩:=and2 h
 obtain ⟨h1,h2⟩:=and2 h
 obtain rfl:=of_decide_eq_true h1
 obtain rfl:=of_decide_eq_true h2
 have hs : (decide (c.sc.kind = .function) && lclB c y && (py.line == p.line) && !(scope.names.any fun (n,k)=>n == y && (k == .local || k == .cell))) = true:=hs
 obtain ⟨hs,s4⟩:=and2 hs
 obtain ⟨hs,s3⟩:=and2 hs
 obtain ⟨s1,s2⟩:=and2 hs
 have hsl : ∀ i ∈ tg.slots,i ∈ own.map (·.2):=fun i hi=>by
  have:=List.all_eq_true.mp h4 i hi
  simpa using this
 have hsl1 : ∀ i ∈ tg1.slots,i ∈ own.map (·.2):=fun i hi=>by
  have:=List.all_eq_true.mp h5 i hi
  simpa using this
 have hyl : X.env.scope.names.lookup y = some .local:=by rw [ok.sc];exact lclB_of s2
 rw [ev_comp2]
 refine psMono (ps_setLc2 ok.calm (by rw [ok.hN];exact ok.nd) t1 hyl (sw_true (by rw [ok.sc];exact of_decide_eq_true s1) hyl s3 (by simpa using s4)) (sI it ok h6) (by rw [ok.hN,ok.sc];exact blkOk_by h3) hsl1 (fun s H C cl' fp=>sTg (ok.blk scope s H C cl' fp) h9) (fun _ _ _ _ _=>c_none) (fun s H C cl' fp=>sI it1 (ok.blk scope s H C cl' fp) h10) (fun s H C cl' fp=>sTg (ok.blk scope s H C cl' fp) h11) (fun _ _ _ _ _=>c_none)
  (fun s H C cl' fp=>(sE elt (ok.blk scope s H C cl' fp) h12).d rfl) (fold_of h7) (fun env=>fold_of h8)) fun D σ H h=>comp2_read (isT_of h9) (isT_of h11) hsl σ H _ h
theorem asgC (ok : Ok tb N G cs cl X P c) {i : Nat} {y : Str} {py pos : Pos} {k : E} {v : Expr} (ht : tgtB N c i y = true) (hi : isComp k = true) (hs : swT c y py v = true) (hv : mE tb N c false k v = true) : PS X (.Assign [.Name y py] v pos) (tAsg (tN P (ev G cs k)) (gName i)):=by
 cases k <;> first | (cases hi;done) | exact asgC1 ok ht hs hv | exact asgC2 ok ht hs hv | exact asgC3 ok ht hs hv
theorem asgDc (ok : Ok tb N G cs cl X P c) {i : Nat} {y : Str} {py pos : Pos} {own : List (Str × Nat)} {k v : E} {tg : Tg} {it : I} {e : Expr} (ht : tgtB N c i y = true) (hs : swT c y py e = true) (hv : mE tb N c false (.dcompK own k v tg it) e = true) : PS X (.Assign [.Name y py] e pos) (tAsg (tN P (ev G cs (.dcompK own k v tg it))) (gName i)):=by
 obtain ⟨t1,t2,t3⟩:=tgtB_of ok ht
 obtain ⟨ek,ev,et,ei,z,scope,p,rfl,h⟩:=mE_dcompK hv
 obtain ⟨h,h8⟩:=and2 h
 obtain ⟨h,h7⟩:=and2 h
 obtain ⟨h,h6⟩:=and2 h
 obtain ⟨h,h5⟩:=and2 h
 obtain ⟨h,h4⟩:=and2 h
 obtain ⟨h,h3⟩:=and2 h
 obtain ⟨h1,h2⟩:=and2 h
 obtain rfl:=of_decide_eq_true h1
 have hs : (decide (c.sc.kind = .function) && lclB c y && (py.line == p.line) && !(scope.names.any fun (n,k)=>n == y && (k == .local || k == .cell))) = true:=hs
 obtain ⟨hs,s4⟩:=and2 hs
 obtain ⟨hs,s3⟩:=and2 hs
 obtain ⟨s1,s2⟩:=and2 hs
 have hsl : ∀ i ∈ tg.slots,i ∈ own.map (·.2):=fun i hi=>by
  have:=List.all_eq_true.mp h3 i hi
  simpa using this
 have hyl : X.env.scope.names.lookup y = some .local:=by rw [ok.sc];exact lclB_of s2
 rw [ev_dcompK]
 exact psMono (st_dcK ok.calm (by rw [ok.hN];exact ok.nd) t1 hyl (sw_dict (by rw [ok.sc];exact of_decide_eq_true s1) hyl s3 (by simpa using s4)) (sI it ok h4) (by rw [ok.hN,ok.sc];exact blkOk_by h2) (fun s H C cl' fp=>sTg (ok.blk scope s H C cl' fp) h6) (fun _ _ _ _ _=>c_none)
  (fun s H C cl' fp=>(sE k (ok.blk scope s H C cl' fp) h7).d rfl) (fun s H C cl' fp=>(sE v (ok.blk scope s H C cl' fp) h8).d rfl) (fold_of h5)) fun D σ H h=>dcompK_read ok.hK (isT_of h6) hsl σ H _ h
theorem newD (ok : Ok tb N G cs cl X P c) {i : Nat} {y : Str} {py pos : Pos} {k : E} {v : Expr} (hf : freshB k = true) (ht : tgtB N c i y = true) (hs : (swF c y py v || (isCompN k && swT c y py v)) = true) (hv : mE tb N c false k v = true) :
  PS X (.Assign [.Name y py] v pos) (tAsg (tN P (ev G cs k)) (gName i)):=by
 rcases Bool.or_eq_true_iff.mp hs with hs | hs
 · exact asgN (k:=k) ok ht hs (sN ok hf hv)
 · obtain ⟨h1,h2⟩:=and2 hs
   cases k <;> first | (cases h1;done) | exact asgC (pos:=pos) ok ht rfl h2 hv | exact asgDc (pos:=pos) ok ht h2 hv
theorem comp_lst1 {own : List (Str × Nat)} {elt : E} {tg : Tg} {it : I} {cd : O} (r : Rho) (t : Tw) (d : D) (t' : Tw) (h : ev G cs (.comp own elt tg it cd) r t = .ok d t') : ∃ xs,d = .lst xs:=by
 rw [ev_comp] at h
 unfold compE at h
 cases e : evI G cs it r t with
 | ok xs t1=>
  rw [e] at h
  simp only [Res.bind_ok] at h
  split at h
  · generalize compL _ xs t1 = res at h
    cases res with
    | ok ys t2=>
     cases h
     exact ⟨_,rfl⟩
    | exc n t2=>cases h
    | bad=>cases h
  · cases h
 | exc n t1=>
  rw [e] at h
  cases h
 | bad=>
  rw [e] at h
  cases h
theorem comp_lst2 {own : List (Str × Nat)} {elt : E} {tg : Tg} {it : I} {tg1 : Tg} {it1 : I} (r : Rho) (t : Tw) (d : D) (t' : Tw) (h : ev G cs (.comp2 own elt tg it tg1 it1) r t = .ok d t') : ∃ xs,d = .lst xs:=by
 rw [ev_comp2] at h
 unfold comp2E at h
 cases e : evI G cs it r t with
 | ok xs t1=>
  rw [e] at h
  simp only [Res.bind_ok] at h
  split at h
  · generalize comp2L _ xs t1 = res at h
    cases res with
    | ok ys t2=>
     simp only [Res.bind_ok] at h
     split at h
     · cases h
       exact ⟨_,rfl⟩
     · cases h
    | exc n t2=>cases h
    | bad=>cases h
  · cases h
 | exc n t1=>
  rw [e] at h
  cases h
 | bad=>
  rw [e] at h
  cases h
theorem comp_lst3 {own : List (Str × Nat)} {elt : E} {tg : Tg} {it : I} (r : Rho) (t : Tw) (d : D) (t' : Tw) (h : ev G cs (.compX own elt tg it) r t = .ok d t') : ∃ xs,d = .lst xs:=by
 rw [ev_compX] at h
 unfold compXE at h
 cases e : evI G cs it r t with
 | ok xs t1=>
  rw [e] at h
  simp only [Res.bind_ok] at h
  split at h
  · generalize compXL _ xs t1 = res at h
    cases res with
    | ok ys t2=>
     cases h
     exact ⟨_,rfl⟩
    | exc n t2=>cases h
    | bad=>cases h
  · cases h
 | exc n t1=>
  rw [e] at h
  cases h
 | bad=>
  rw [e] at h
  cases h
theorem comp_lst {k : E} (hi : isComp k = true) (r : Rho) (t : Tw) (d : D) (t' : Tw) (h : ev G cs k r t = .ok d t') : ∃ xs,d = .lst xs:=by
 cases k <;> first | (cases hi;done) | exact comp_lst1 r t d t' h | exact comp_lst2 r t d t' h | exact comp_lst3 r t d t' h
theorem asgD (ok : Ok tb N G cs cl X P c) {i : Nat} {y : Str} {py pos : Pos} {k : E} {v : Expr} (ht : tgtB N c i y = true) (hs : (swF c y py v || (isComp k && swT c y py v)) = true) (hv : mE tb N c false k v = true) :
  PS X (.Assign [.Name y py] v pos) (tAsg (tD P (ev G cs k)) (gName i)) ∧ (freshB k = true → PS X (.Assign [.Name y py] v pos) (tAsg (tN P (ev G cs k)) (gName i))):=by
 rcases Bool.or_eq_true_iff.mp hs with hs | hs
 · exact ⟨asgN (k:=k) ok ht hs ((sE k ok hv).d rfl),fun hf=>asgN (k:=k) ok ht hs (sN ok hf hv)⟩
 · obtain ⟨h1,h2⟩:=and2 hs
   have h:=asgC (pos:=pos) ok ht h1 h2 hv
   exact ⟨psMono h fun D σ H q=>tNtD_mono (comp_lst h1) σ H _ q,fun _=>h⟩
theorem none_of (hsc : X.env.scope = c.sc) {ts : List Expr} {v : Expr} {k : Nat} {p : Pos} (h : noneB c ts v = true) : swappedStores [.Tuple ts k p] v X.env = pure none:=by
 cases v <;> try rfl
 rename_i vs kv pv
 have h : (!(ts.length == 2 || ts.length == 3) || ts.any (nonLoc c) || vs.all (foldedForSure 8)) = true:=h
 unfold swappedStores
 simp only
 by_cases h1 : (!(ts.length == 2 || ts.length == 3) || vs.length != ts.length || X.env.blockKind != .function) = true
 · simp only [h1,if_true]
 · rw [if_neg h1]
   split
   · rfl
   · split
     · rfl
     · rename_i h3
       split
       · rfl
       · rename_i h4
         exfalso
         rcases Bool.or_eq_true_iff.mp h with h | h
         · rcases Bool.or_eq_true_iff.mp h with h | h
           · exact h1 (by rw [h];rfl)
           · refine h3 (Bool.or_eq_true_iff.mpr (.inl ?_))
             refine bne_iff_ne.mpr fun z=>?_
             have z:=List.filterMap_length_eq_length.mp z
             obtain ⟨e,m,q⟩:=List.any_eq_true.mp h
             have z:=z e m
             cases e with
             | Name x px=>
              have q : (!lclB c x) = true:=q
              simp only at z
              split at z
              · rename_i w
                have w1:=(and2 w).1
                have : X.env.kindOf x = some .local:=eq_of_beq w1
                have : X.env.scope.names.lookup x = some .local:=this
                rw [hsc] at this
                unfold lclB at q
                rw [this] at q
                cases q
              · cases z
             | _=>cases z
         · exact h4 h
theorem blk_fn {env : Env} (h : env.scope.kind = .function) : env.blockKind = .function:=by
 unfold Env.blockKind
 rw [h]
 rfl
theorem nstar_any {vs : List Expr} (h : (!vs.any fun e=>!nStar e) = true) : (vs.any fun | .Starred ..=>true | _=>false) = false:=by
 induction vs with
 | nil=>rfl
 | cons e r ih=>
  simp only [List.any_cons,Bool.not_or,Bool.not_not] at h ⊢
  obtain ⟨h1,h2⟩:=and2 h
  rw [ih h2]
  cases e <;> first | rfl | (cases h1;done)
theorem par2_of (hsc : X.env.scope = c.sc) {x y : Str} {px py : Pos} {a b : Expr} {k k2 : Nat} {p p2 : Pos} (hk : c.sc.kind = .function) (h1 : (!([a,b] : List Expr).any fun e=>!nStar e) = true) (h2 : (([a,b] : List Expr).all (foldedForSure 8)) = false) (h3 : (([a,b] : List Expr).all (constantsAlone 8)) = false)
  (hx : c.sc.names.lookup x = some .local) (hy : c.sc.names.lookup y = some .local) (hxy : x ≠ y) (hl : (py.line == px.line) = true) : swappedStores [.Tuple [.Name x px,.Name y py] k p] (.Tuple [a,b] k2 p2) X.env = pure (some [x,y]):=by
 have kx : X.env.kindOf x = some .local:=by show X.env.scope.names.lookup x = _;rw [hsc];exact hx
 have ky : X.env.kindOf y = some .local:=by show X.env.scope.names.lookup y = _;rw [hsc];exact hy
 have hb:=blk_fn (env:=X.env) (by rw [hsc];exact hk)
 have s:=nstar_any h1
 unfold swappedStores
 simp only [hb,h2,h3,List.head?_cons,Option.map_some,Option.getD_some,Expr.pos,List.filterMap_cons,kx,ky,hl,beq_self_eq_true,Bool.and_self,if_true,List.filterMap_nil]
 have e : ([x,y] : List Str).eraseDups = [x,y]:=by
  simp [List.eraseDups_cons,Ne.symm hxy]
 rw [if_neg (by simp)]
 split
 · rename_i z
   exact Bool.noConfusion (s.symm.trans z)
 · simp [e]
theorem par3_of (hsc : X.env.scope = c.sc) {x y z : Str} {px py pz : Pos} {a b d : Expr} {k k2 : Nat} {p p2 : Pos} (hk : c.sc.kind = .function) (h1 : (!([a,b,d] : List Expr).any fun e=>!nStar e) = true) (h2 : (([a,b,d] : List Expr).all (foldedForSure 8)) = false) (h3 : (([a,b,d] : List Expr).all (constantsAlone 8)) = false)
  (hx : c.sc.names.lookup x = some .local) (hy : c.sc.names.lookup y = some .local) (hz : c.sc.names.lookup z = some .local) (hxy : x ≠ y) (hxz : x ≠ z) (hyz : y ≠ z) (hl : (py.line == px.line) = true) (hl2 : (pz.line == px.line) = true) : swappedStores [.Tuple [.Name x px,.Name y py,.Name z pz] k p] (.Tuple [a,b,d] k2 p2) X.env = pure (some [x,y,z]):=by
 have kx : X.env.kindOf x = some .local:=by show X.env.scope.names.lookup x = _;rw [hsc];exact hx
 have ky : X.env.kindOf y = some .local:=by show X.env.scope.names.lookup y = _;rw [hsc];exact hy
 have kz : X.env.kindOf z = some .local:=by show X.env.scope.names.lookup z = _;rw [hsc];exact hz
 have hb:=blk_fn (env:=X.env) (by rw [hsc];exact hk)
 have s:=nstar_any h1
 unfold swappedStores
 simp only [hb,h2,h3,List.head?_cons,Option.map_some,Option.getD_some,Expr.pos,List.filterMap_cons,kx,ky,kz,hl,hl2,beq_self_eq_true,Bool.and_self,if_true,List.filterMap_nil]
 have e : ([x,y,z] : List Str).eraseDups = [x,y,z]:=by
  simp [List.eraseDups_cons,Ne.symm hxy,Ne.symm hxz,Ne.symm hyz]
 rw [if_neg (by simp)]
 split
 · rename_i z
   exact Bool.noConfusion (s.symm.trans z)
 · simp [e]
theorem locAt_of (ok : Ok tb N G cs cl X P c) {i : Nat} {x : Str} (h : locAt N c i x = true) : X.N[i]? = some x ∧ X.env.scope.names.lookup x = some .local ∧ c.sc.names.lookup x = some .local:=by
 obtain ⟨h1,h2⟩:=and2 h
 exact ⟨by rw [ok.hN];exact of_decide_eq_true h1,by rw [ok.sc];exact lclB_of h2,lclB_of h2⟩
theorem sPar (ok : Ok tb N G cs cl X P c) {is : List Nat} {es : Es} {ts vs : List Expr} {kt kv : Nat} {pt pv pos : Pos} (h : mPar tb N c is es ts vs = true) : PS X (.Assign [.Tuple ts kt pt] (.Tuple vs kv pv) pos) (tS P (parE is (evs G cs es))):=by
 unfold mPar at h
 obtain ⟨h,h6⟩:=and2 h
 obtain ⟨h,h5⟩:=and2 h
 obtain ⟨h,h4⟩:=and2 h
 obtain ⟨h,h3⟩:=and2 h
 obtain ⟨h1,h2⟩:=and2 h
 have hk:=of_decide_eq_true h1
 have h3 : vs.all (foldedForSure 8) = false:=by simpa using h3
 have h4 : vs.all (constantsAlone 8) = false:=by simpa using h4
 have nd : X.N.Nodup:=by rw [ok.hN];exact ok.nd
 split at h6
 · obtain ⟨q,q5⟩:=and2 h6
   obtain ⟨q,q4⟩:=and2 q
   obtain ⟨q,q3⟩:=and2 q
   obtain ⟨q1,q2⟩:=and2 q
   obtain ⟨a1,a2,a3⟩:=locAt_of ok q2
   obtain ⟨b1,b2,b3⟩:=locAt_of ok q3
   exact st_par2 ok.calm nd a1 b1 (of_decide_eq_true q1) a2 b2 (sEs es ok h5) (par2_of ok.sc hk h2 h3 h4 a3 b3 (of_decide_eq_true q4) q5)
 · obtain ⟨q,q11⟩:=and2 h6
   obtain ⟨q,q10⟩:=and2 q
   obtain ⟨q,q9⟩:=and2 q
   obtain ⟨q,q8⟩:=and2 q
   obtain ⟨q,q7⟩:=and2 q
   obtain ⟨q,q6⟩:=and2 q
   obtain ⟨q,q5⟩:=and2 q
   obtain ⟨q,q4⟩:=and2 q
   obtain ⟨q,q3⟩:=and2 q
   obtain ⟨q1,q2⟩:=and2 q
   obtain ⟨a1,a2,a3⟩:=locAt_of ok q4
   obtain ⟨b1,b2,b3⟩:=locAt_of ok q5
   obtain ⟨c1,c2,c3⟩:=locAt_of ok q6
   exact st_par3 ok.calm nd a1 b1 c1 (of_decide_eq_true q1) (of_decide_eq_true q2) (of_decide_eq_true q3) a2 b2 c2 (sEs es ok h5) (par3_of ok.sc hk h2 h3 h4 a3 b3 c3 (of_decide_eq_true q7) (of_decide_eq_true q8) (of_decide_eq_true q9) q10 q11)
 · cases h6
theorem sAsg (ok : Ok tb N G cs cl X P c) {tg : Tg} {k : E} {t v : Expr} {pos : Pos} (h : mAsg tb N c tg k t v = true) : PS X (.Assign [t] v pos) (tS P fun r t=>(ev G cs k r t).bind fun x t1=>Fm.lift ((setT tg x r).map fun r1=>(.nx,r1)) t1):=by
 unfold mAsg at h
 split at h
 · obtain ⟨h,h3⟩:=and2 h
   obtain ⟨h1,h2⟩:=and2 h
   cases tg with
   | name i=>exact st_set (asgD (i:=i) ok h1 h2 h3).1
   | tup _=>cases h1
 · obtain ⟨h,h4⟩:=and2 h
   obtain ⟨h,h3⟩:=and2 h
   obtain ⟨h1,h2⟩:=and2 h
   exact st_asg ((sE k ok h4).d rfl) (sTg ok h1) (sw_sole h2) (none_of ok.sc h3) rfl
 · cases h
theorem sNew (ok : Ok tb N G cs cl X P c) {i : Nat} {k : E} {t v : Expr} {pos : Pos} (h : mNew tb N c i k t v = true) : PS X (.Assign [t] v pos) (tS P fun r t=>(ev G cs k r t).bind fun x t1=>okSet r i (.own x) t1):=by
 unfold mNew at h
 split at h
 · obtain ⟨h,h4⟩:=and2 h
   obtain ⟨h,h3⟩:=and2 h
   obtain ⟨h1,h2⟩:=and2 h
   exact st_new (newD ok h1 h2 h3 h4)
 · cases h
theorem sApp (ok : Ok tb N G cs cl X P c) {i : Nat} {k : E} {v : Expr} {pos : Pos} (h : mApp tb N c i k v = true) : PS X (.Expr v pos) (tS P (appE i (ev G cs k))):=by
 unfold mApp at h
 split at h
 · obtain ⟨h,h5⟩:=and2 h
   obtain ⟨h,h4⟩:=and2 h
   obtain ⟨h,h3⟩:=and2 h
   obtain ⟨h1,h2⟩:=and2 h
   obtain rfl:=of_decide_eq_true h1
   obtain ⟨a1,a2,a3,a4⟩:=varB_of ok h2
   exact st_app ok.hK a1 a2 a3 a4 ((sE k ok h5).d rfl) h3 (star_of h4)
 · cases h
theorem sPut (ok : Ok tb N G cs cl X P c) {i : Nat} {k a : E} {t v : Expr} {pos : Pos} (h : mPut tb N c i k a t v = true) : PS X (.Assign [t] v pos) (tS P (putE i (ev G cs k) (ev G cs a))) ∧ PS X (.Assign [t] v pos) (tS P (putLE i (ev G cs k) (ev G cs a))):=by
 unfold mPut at h
 split at h
 · rename_i y q b p
   obtain ⟨h,h5⟩:=and2 h
   obtain ⟨h,h4⟩:=and2 h
   obtain ⟨h,h3⟩:=and2 h
   obtain ⟨h1,h2⟩:=and2 h
   obtain ⟨a1,a2,a3,a4⟩:=varB_of ok h1
   refine ⟨st_put ok.hK ok.hpw ok.hu a1 a2 a3 a4 (sE k ok h4).b ((sE a ok h5).d rfl) (sw_plain h3),st_putL a1 a2 a3 a4 (sE k ok h4).b ((sE a ok h5).d rfl) ?_ (sw_sole h3) (by cases v <;> rfl)⟩
   intro v
   cases b <;> first | rfl | (cases h2;done)
 · cases h
theorem sTcnt (ok : Ok tb N G cs cl X P c) {i : Nat} {k : E} {t v : Expr} {pos : Pos} (h : mTcnt tb N c i k t v = true) : PS X (.Assign [t] v pos) (tS P (tcntE i (ev G cs k))):=by
 unfold mTcnt at h
 split at h
 · obtain ⟨h,h4⟩:=and2 h
   obtain ⟨h,h3⟩:=and2 h
   obtain ⟨h1,h2⟩:=and2 h
   obtain ⟨a1,a2,a3,a4⟩:=varB_of ok h1
   obtain ⟨j,q2,rfl⟩:=isStr_of h2
   exact st_tcnt ok.hu a1 a2 a3 a4 ((sE k ok h4).d rfl) (sw_plain h3)
 · cases h
theorem sTrst (ok : Ok tb N G cs cl X P c) {i : Nat} {k a : E} {t v : Expr} {pos : Pos} (h : mTrst tb N c i k a t v = true) : PS X (.Assign [t] v pos) (tS P (trstE i (ev G cs k) (ev G cs a))):=by
 unfold mTrst at h
 split at h
 · obtain ⟨h,h5⟩:=and2 h
   obtain ⟨h,h4⟩:=and2 h
   obtain ⟨h,h3⟩:=and2 h
   obtain ⟨h1,h2⟩:=and2 h
   obtain ⟨a1,a2,a3,a4⟩:=varB_of ok h1
   obtain ⟨j,q2,rfl⟩:=isStr_of h2
   exact st_trst ok.hu a1 a2 a3 a4 (sE k ok h4).b ((sE a ok h5).d rfl) (sw_plain h3)
 · cases h
theorem sAug (ok : Ok tb N G cs cl X P c) {i : Nat} {op op' : Operator} {k : E} {t v : Expr} {pos : Pos} (h : mAug tb N c i op k t op' v = true) : PS X (.AugAssign t op' v pos) (tS P (augE i op (ev G cs k))):=by
 unfold mAug at h
 split at h
 · obtain ⟨h,h4⟩:=and2 h
   obtain ⟨h,h3⟩:=and2 h
   obtain ⟨h1,h2⟩:=and2 h
   obtain rfl:=of_decide_eq_true h1
   obtain ⟨a1,a2,a3⟩:=tgtB_of ok h3
   refine st_aug (ip_of ok.py ?_) (by rw [ok.hN];exact ok.nd) a1 a2 a3 (sE k ok h4).b
   cases op <;> first | (cases h2;done) | simp
 · cases h
end
section
variable {G : Gam} {cs : Nat → D}
theorem evS_asg (tg : Tg) (e : E) : evS G cs (.asg tg e) = fun r t=>(ev G cs e r t).bind fun x t1=>Fm.lift ((setT tg x r).map fun r1=>(.nx,r1)) t1:=by funext r t;rw [evS]
theorem evS_par (is : List Nat) (es : Es) : evS G cs (.par is es) = parE is (evs G cs es):=by funext r t;first | (rw [evS];done) | (rw [evS];rfl)
theorem evS_aug (i : Nat) (op : Operator) (e : E) : evS G cs (.aug i op e) = augE i op (ev G cs e):=by funext r t;first | (rw [evS];done) | (rw [evS];rfl)
theorem evS_ret (e : E) : evS G cs (.ret e) = fun r t=>(ev G cs e r t).bind fun x t1=>.ok (.ret x,r) t1:=by funext r t;rw [evS]
theorem evS_ite (k : E) (a b : Ss) : evS G cs (.ite k a b) = iteS (ev G cs k) (evSs G cs a) (evSs G cs b):=by funext r t;first | (rw [evS];done) | (rw [evS];rfl)
theorem evS_for (tg : Tg) (it : I) (b : Ss) : evS G cs (.for tg it b) = forE tg (evI G cs it) (evSs G cs b):=by funext r t;first | (rw [evS];done) | (rw [evS];rfl)
theorem evS_while (k : E) (b : Ss) : evS G cs (.while k b) = loopW (ev G cs k) (evSs G cs b):=by funext r t;rw [evS]
theorem evS_new (i : Nat) (e : E) : evS G cs (.new i e) = fun r t=>(ev G cs e r t).bind fun x t1=>okSet r i (.own x) t1:=by funext r t;rw [evS]
theorem evS_app (i : Nat) (e : E) : evS G cs (.app i e) = appE i (ev G cs e):=by funext r t;first | (rw [evS];done) | (rw [evS];rfl)
theorem evS_put (i : Nat) (k e : E) : evS G cs (.put i k e) = putE i (ev G cs k) (ev G cs e):=by funext r t;first | (rw [evS];done) | (rw [evS];rfl)
theorem evS_frz (i : Nat) : evS G cs (.frz i) = frzE i:=by funext r t;first | (rw [evS];done) | (rw [evS];rfl)
theorem evS_tcnt (i : Nat) (e : E) : evS G cs (.tcnt i e) = tcntE i (ev G cs e):=by funext r t;first | (rw [evS];done) | (rw [evS];rfl)
theorem evS_trst (i : Nat) (k e : E) : evS G cs (.trst i k e) = trstE i (ev G cs k) (ev G cs e):=by funext r t;first | (rw [evS];done) | (rw [evS];rfl)
theorem evS_bad : evS G cs .bad = fun _ _=>.bad:=by funext r t;rw [evS]
theorem evSs_nil : evSs G cs .nil = nilE:=by funext r t;first | (rw [evSs];done) | (rw [evSs];rfl)
theorem evSs_cons (s : S) (r : Ss) : evSs G cs (.cons s r) = consE (evS G cs s) (evSs G cs r):=by funext r t;first | (rw [evSs];done) | (rw [evSs];rfl)
end
section
variable {tb : Tb} {N : List Str} {G : Gam} {cs : Nat → D} {cl : Nat → Addr} {X : Cx} {P : Pm} {c : Cs}
mutual
theorem sS {X : Cx} {P : Pm} {c : Cs} (ok : Ok tb N G cs cl X P c) : ∀ (s : S) {st : Stmt},mS tb N c s st = true → PS X st (tS P (evS G cs s))
 | .asg tg k,st,h=>by
  obtain ⟨t,v,p,rfl,h⟩:=mS_asg h
  rw [evS_asg]
  exact sAsg ok h
 | .par is es,st,h=>by
  obtain ⟨ts,kt,pt,vs,kv,pv,p,rfl,h⟩:=mS_par h
  rw [evS_par]
  exact sPar ok h
 | .star i j k,st,h=>by
  cases h
 | .aug i op k,st,h=>by
  obtain ⟨t,op',v,p,rfl,h⟩:=mS_aug h
  rw [evS_aug]
  exact sAug ok h
 | .ret k,st,h=>by
  obtain ⟨v,p,rfl,h⟩:=mS_ret h
  rw [evS_ret]
  exact st_ret ((sE k ok h).d rfl)
 | .ite k a b,st,h=>by
  obtain ⟨ek,sa,sb,p,rfl,h⟩:=mS_ite h
  obtain ⟨h,h3⟩:=and2 h
  obtain ⟨h1,h2⟩:=and2 h
  rw [evS_ite]
  exact st_ite (sE k ok h1).t (sSs ok a h2) (sSs ok b h3)
 | .for tg it b,st,h=>by
  obtain ⟨et,ei,sb,p,rfl,h⟩:=mS_for h
  obtain ⟨h,h4⟩:=and2 h
  obtain ⟨h,h3⟩:=and2 h
  obtain ⟨h1,h2⟩:=and2 h
  rw [evS_for]
  exact st_for ok.own ok.calm (isT_of h2) (sI it ok h3) (sTg ok h2) (sSs ok b h4) (fold_of h1)
 | .while k b,st,h=>by
  obtain ⟨ek,sb,p,rfl,h⟩:=mS_while h
  obtain ⟨h1,h2⟩:=and2 h
  rw [evS_while]
  exact st_while ok.own (sE k ok h1).t (sSs ok b h2)
 | .ext i k,st,h=>by
  cases h
 | .swp i k1 k2 k,st,h=>by
  cases h
 | .pop i,st,h=>by
  cases h
 | .tryN b,st,h=>by
  cases h
 | .tryX ns i b,st,h=>by
  cases h
 | .exp k,st,h=>by
  cases h
 | .new i k,st,h=>by
  obtain ⟨t,v,p,rfl,h⟩:=mS_new h
  rw [evS_new]
  exact sNew ok h
 | .app i k,st,h=>by
  obtain ⟨v,p,rfl,h⟩:=mS_app h
  rw [evS_app]
  exact sApp ok h
 | .put i k a,st,h=>by
  obtain ⟨t,v,p,rfl,h⟩:=mS_put h
  rw [evS_put]
  exact (sPut ok h).1
 | .upd i k,st,h=>by
  cases h
 | .ins i k a,st,h=>by
  cases h
 | .uns is j es,st,h=>by
  cases h
 | .p3t i j l k1 k2,st,h=>by
  cases h
 | .p3f i j l k,st,h=>by
  cases h
 | .pnl b j i k,st,h=>by
  cases h
 | .putL i k a,st,h=>by
  cases h
 | .tcnt i k,st,h=>by
  obtain ⟨t,v,p,rfl,h⟩:=mS_tcnt h
  rw [evS_tcnt]
  exact sTcnt ok h
 | .trst i k a,st,h=>by
  obtain ⟨t,v,p,rfl,h⟩:=mS_trst h
  rw [evS_trst]
  exact sTrst ok h
 | .brk,st,h=>by
  cases h
 | .cont,st,h=>by
  cases h
 | .raise n m,st,h=>by
  cases h
 | .raiseE n k,st,h=>by
  cases h
 | .bad,st,h=>by
  rw [evS_bad]
  exact ⟨fun _ _ _ _ _ _ ⟨F,r,t,R,q⟩=>False.elim q⟩
 | .frz i,st,h=>by cases st <;> cases h
theorem sSs {X : Cx} {P : Pm} {c : Cs} (ok : Ok tb N G cs cl X P c) : ∀ (s : Ss) {ss : List Stmt},mSs tb N c s ss = true → PSs X ss (tS P (evSs G cs s))
 | .nil,ss,h=>by
  cases ss with
  | nil=>
   rw [evSs_nil]
   exact ss_nil
  | cons _ _=>cases h
 | .cons s r,ss,h=>by
  rw [evSs_cons]
  cases e : isFrz s with
  | some i=>
   cases s <;> first | (cases e;done) | skip
   rw [evS_frz]
   exact ss_frz (sSs ok r (mSs_frz h))
  | none=>
   obtain ⟨st,rest,rfl,h1,h2⟩:=mSs_cons e h
   exact ss_cons (sS ok s h1) (sSs ok r h2)
end
end
end Fm
namespace Fm
open PySem PySem.Spec PyProof.Rows L2
def nineEx : List (Nat × Str):=[(0, "NoRoot"),(1, "NoForm"),(2, "ByNought"),(3, "NoQuotient"),(4, "NoName"),(5, "NoPath"),(6, "Spent"),(7, "BadWord"),(8, "NoText")]
def tbH : Tb:=⟨[],[],nineEx,true⟩
def G0 : Gam:=⟨0,fun _ _ _ _ _=>.bad⟩
def cs0 : Nat → D:=fun _=>.non
def two9 (x y : Str) (i j : Nat) : E:=.dspE [x,y] (.cons (.isx (.var 1) i) (.cons (.isx (.var 1) j) .nil))
def heardT : Ss:=
 .cons (.ite (.cmp .Is (.var 1) (.cst .non)) (.cons (.ret (.tup (.cons (.cst (.str "told")) (.cons (.var 2) .nil)))) .nil) .nil)
 (.cons (.new 4 (two9 "no root" "no form" 0 1))
 (.cons (.upd 4 (two9 "by nought" "no quotient" 2 3))
 (.cons (.upd 4 (two9 "no name" "no path" 4 5))
 (.cons (.upd 4 (two9 "spent" "bad word" 6 7))
 (.cons (.put 4 (.cst (.str "no text")) (.isx (.var 1) 8))
 (.cons (.frz 4)
 (.cons (.asg (.name 5) (.comp [("word",6)] (.var 6) (.name 6) (.keys (.var 4)) (.some (.dix (.var 4) (.var 6)))))
 (.cons (.ret (.ite (.and (.cmp .Eq (.blt .len (.var 5)) (.cst (.int 1))) (.isv (.var 1))) (.tup (.cons (.ix (.var 5) (.cst (.int 0))) .nil)) (.tup (.cons (.cst (.str "is wrong")) .nil)))) .nil))))))))
theorem heardT_told (d : D) (t : Tw) : evSs G0 cs0 heardT [.un,.val .non,.val d,.un,.un,.un,.un] t = .ok (.ret (.tup [.str "told",d]),[.un,.val .non,.val d,.un,.un,.un,.un]) t:=by
 rfl
theorem heardT_exc (n : Nat) (h : n < 9) (t : Tw) : ∃ r,evSs G0 cs0 heardT [.un,.val (.exc n),.un,.un,.un,.un,.un] t = .ok (.ret (.tup [.str (hWord n)]),r) t:=by
 have : n = 0 ∨ n = 1 ∨ n = 2 ∨ n = 3 ∨ n = 4 ∨ n = 5 ∨ n = 6 ∨ n = 7 ∨ n = 8:=by omega
 rcases this with rfl | rfl | rfl | rfl | rfl | rfl | rfl | rfl | rfl
 all_goals exact ⟨_,rfl⟩
structure HeardK (K : PySem.W.Frag) (mg : Str → Option Value) (cl : Nat → Addr) (CF : Addr) : Prop where
 form : mg "FormError" = some (.ref CF)
 exm : ∀ n,n < 9 → PySem.W.exmOne K (.ref (cl n)) (.ref CF) = some true
def csH (sg : Scope) : Cs:=⟨sg,fun _=>true,false,false,false⟩
def mHeard (sg : Scope) : List Stmt → Bool
 | .Assign [.Tuple [.Name a1 _,.Name a2 _] _ _] (.Tuple [.Constant .none _ _,.Constant .none _ _] _ _) _ :: .Try [.Assign [.Name a3 _] (.Call (.Name a4 _) [] [] _) _] [.ExceptHandler (some (.Name a5 _)) (some a6) [.Assign [.Name a7 _] (.Name a8 _) _] _] [] [] _ :: rest=>
  tgtB heardN (csH sg) 1 a1 && tgtB heardN (csH sg) 2 a2 && tgtB heardN (csH sg) 2 a3 && decide (a4 = "deed") && decide (a5 = "FormError") && glB (csH sg) a5 && locAt heardN (csH sg) 3 a6 && tgtB heardN (csH sg) 1 a7 && varB heardN (csH sg) 3 a8 && mSs tbH heardN (csH sg) heardT rest
 | _=>false
theorem heardT_okG {tbx : Tb} (esh : tbx.sh = []) (ecs : tbx.cs = []) {Nn : List Str} {nm : Str} {X : Cx} {CF : Addr} {T : Tn} {cl : Nat → Addr} (hk : HeardK X.K X.mg cl CF) (hcl : T.cl = cl) (hpw : T.pg = X.prog ∧ T.wo = X.w) (free : ∀ x ∈ freeNames,X.mg x = none) (nine : Nine X.K cl) (exc : ∀ n x,tbx.ex.lookup n = some x → ExcOk X (cl n) x) {sg : Scope} {g : Addr} {cdg : Value} (S : FnScope Nn ["deed"] sg) (s : Shared) (H : Hp)
  (seer : X.base.NoSeer) (tree : X.prog.given.tree = none) (hr : Room 33 (X.A.deeper (envOfC nm sg s.heap.objs.size g cdg))) (F0 H0 : Hp) :
  Ok tbx Nn G0 cs0 cl (cxOf C8.CX0 X.prog X.w X.K X.mg X.base Nn nm sg g cdg X.A X.stack s H C8.E0).nox ⟨X.K,T,F0,H0,fun _ _=>False⟩ (csH sg) where
 hK:=rfl
 hN:=rfl
 nd:=S.nd
 sc:=rfl
 fn:=rfl
 calm:=rfl
 rm33:=fun _=>hr
 pyf:=fun _=>⟨seer,tree,_,_,rfl,S.gen,S.co,rfl,rfl⟩
 hcl:=hcl
 hpw:=hpw
 free:=free
 con:=fun g x e=>by rw [ecs] at e;simp at e
 conT:=fun g x e=>by rw [ecs] at e;simp at e
 call:=fun d i sh e=>by rw [esh] at e;simp at e
 tk:=fun u s' ⟨a,B,sI,pins,σ,H,cls,d,e,I,nb,up,sky,na,os,ag,w⟩=>by
  obtain ⟨n,_,_,z⟩:=w
  exact z.elim
 own:=PassesOwn.never
 exc:=fun n x e=>by
  obtain ⟨h1,h2,h3,h4⟩:=exc n x e
  exact ⟨h1,h2,h3,h4⟩
 nine:=fun _=>nine
 form:=fun _=>⟨CF,hk.form,hk.exm⟩
 heard:=fun _ z=>by cases z
 lamT:=fun z=>by cases z
 top:=fun z=>by cases z
theorem tail_exc {K : PySem.W.Frag} {T : Tn} {F' H' : Hp} {t' : Tw} {n : Nat} {a : Addr} {σ' : L2.St} {Q : VK} {nx : L2.St → Hp → Prop} (hn : n < 9) (RF : RelH K T F' H' F' t' H') (ha : H' a = none) (hl : σ'.length = 7)
  (hq : ∀ v F2 H2,RelH K T F' H' F2 t' H2 → Rp K T F2 v (.tup [.str (hWord n)]) → Q v H2) :
  tS ⟨K,T,F',H',fun _ _=>False⟩ (evSs G0 cs0 heardT) { nx:=nx,rt:=Q } (((σ'.set 3 (some (.ref a))).set 1 (some (.ref a))).set 3 none) (L2.upd H' a (ExI (.ref (T.cl n)) a)):=by
 have b2:=RF.newF (o:=ExI (.ref (T.cl n)) a) ha (by intro _ z;cases z)
 obtain ⟨r,er⟩:=heardT_exc n hn t'
 refine ⟨_,[.un,.val (.exc n),.un,.un,.un,.un,.un],t',⟨b2,by simp [hl],fun i d e=>?_,fun i d e=>?_,fun i j d e p e1=>?_⟩,?_⟩
 · match i,e with
   | 1,e=>
    cases e
    refine ⟨.ref a,?_,.exc n upd_same⟩
    rw [List.getElem?_set_ne (by decide),List.getElem?_set_self (by simp [hl])]
   | 0,e=>cases e
   | 2,e=>cases e
   | 3,e=>cases e
   | 4,e=>cases e
   | 5,e=>cases e
   | 6,e=>cases e
   | i + 7,e=>simp at e
 · match i,e with
   | 0,e=>cases e
   | 1,e=>cases e
   | 2,e=>cases e
   | 3,e=>cases e
   | 4,e=>cases e
   | 5,e=>cases e
   | 6,e=>cases e
   | i + 7,e=>simp at e
 · match i,e1 with
   | 0,e=>cases e
   | 1,e=>cases e
   | 2,e=>cases e
   | 3,e=>cases e
   | 4,e=>cases e
   | 5,e=>cases e
   | 6,e=>cases e
   | i + 7,e=>simp at e
 · rw [er]
   exact fun v F2 H2 _ R' rv=>hq v F2 H2 R' rv
theorem tail_told {K : PySem.W.Frag} {T : Tn} {F' H' : Hp} {t' : Tw} {d : D} {v f : V} {Q : VK} {nx : L2.St → Hp → Prop} (RF : RelH K T F' H' F' t' H') (rv : Rp K T F' v d)
  (hq : ∀ w F2 H2,RelH K T F' H' F2 t' H2 → Rp K T F2 w (.tup [.str "told",d]) → Q w H2) :
  tS ⟨K,T,F',H',fun _ _=>False⟩ (evSs G0 cs0 heardT) { nx:=nx,rt:=Q } ((((L2.start heardN [f]).set 1 (some .non)).set 2 (some .non)).set 2 (some v)) H':=by
 refine ⟨_,[.un,.val .non,.val d,.un,.un,.un,.un],t',⟨RF,rfl,fun i d' e=>?_,fun i d e=>?_,fun i j d e p e1=>?_⟩,?_⟩
 · match i,e with
   | 1,e=>
    cases e
    exact ⟨.non,rfl,.non⟩
   | 2,e=>
    cases e
    exact ⟨v,rfl,rv⟩
   | 0,e=>cases e
   | 3,e=>cases e
   | 4,e=>cases e
   | 5,e=>cases e
   | 6,e=>cases e
   | i + 7,e=>simp at e
 · match i,e with
   | 0,e=>cases e
   | 1,e=>cases e
   | 2,e=>cases e
   | 3,e=>cases e
   | 4,e=>cases e
   | 5,e=>cases e
   | 6,e=>cases e
   | i + 7,e=>simp at e
 · match i,e1 with
   | 0,e=>cases e
   | 1,e=>cases e
   | 2,e=>cases e
   | 3,e=>cases e
   | 4,e=>cases e
   | 5,e=>cases e
   | 6,e=>cases e
   | i + 7,e=>simp at e
 · rw [heardT_told]
   exact fun v F2 H2 _ R' rv=>hq v F2 H2 R' rv
theorem heard_gives {X : Cx} {T : Tn} {cl : Nat → Addr} {CF : Addr} (hk : HeardK X.K X.mg cl CF) (hcl : T.cl = cl) (hpw : T.pg = X.prog ∧ T.wo = X.w) (free : ∀ x ∈ freeNames,X.mg x = none) (nine : Nine X.K cl) (exc : ∀ n x,nineEx.lookup n = some x → ExcOk X (cl n) x) {sg : Scope} {g : Addr} {cdg : Value} {bg : List Stmt} {q : Str}
  (S : FnScope heardN ["deed"] sg) (seer : X.base.NoSeer) (tree : X.prog.given.tree = none) (hr : Room 34 X.A) (hm : mHeard sg bg = true) : LamX.GivesTo X heardN "_law_heard" sg g cdg bg "deed" q (TTh X.K T):=by
 intro f c' s H Q tl act hc h
 obtain ⟨F,t,R0,h⟩:=h
 have ok:=heardT_okG (tbx:=tbH) (nm:="_law_heard") rfl rfl (g:=g) (cdg:=cdg) hk hcl hpw free nine exc S s H seer tree (hr.deeper _)
 unfold mHeard at hm
 split at hm
 · rename_i a1 q1 a2 q2 k1 q3 j1 q4 j2 q5 k2 q6 q7 a3 q8 a4 q9 q10 q11 a5 q12 a6 a7 q13 a8 q14 q15 q16 q17 rest
   obtain ⟨hm,m10⟩:=and2 hm
   obtain ⟨hm,m9⟩:=and2 hm
   obtain ⟨hm,m8⟩:=and2 hm
   obtain ⟨hm,m7⟩:=and2 hm
   obtain ⟨hm,m6⟩:=and2 hm
   obtain ⟨hm,m5⟩:=and2 hm
   obtain ⟨hm,m4⟩:=and2 hm
   obtain ⟨hm,m3⟩:=and2 hm
   obtain ⟨m1,m2⟩:=and2 hm
   obtain rfl:=of_decide_eq_true m4
   obtain rfl:=of_decide_eq_true m5
   have ok0:=ok H H
   obtain ⟨n1,l1,f1⟩:=tgtB_of ok0 m1
   obtain ⟨n2,l2,f2⟩:=tgtB_of ok0 m2
   obtain ⟨n3,l3,f3⟩:=tgtB_of ok0 m3
   obtain ⟨n7,l7,f7⟩:=tgtB_of ok0 m8
   obtain ⟨n8,v8,d8,c8⟩:=varB_of ok0 m9
   obtain ⟨n6,l6,_⟩:=locAt_of ok0 m7
   obtain ⟨g5,d5,_⟩:=glB_of ok0 m6
   have nd:=S.nd
   have st1:=ps_asg (X:=(cxOf C8.CX0 X.prog X.w X.K X.mg X.base heardN "_law_heard" sg g cdg X.A X.stack s H C8.E0).nox) (pos:=q7) (pe_tup (x1:=k2) (pos:=q6) (pa_cons (pe_non (j:=j1) (pos:=q4)) (pa_cons (pe_non (j:=j2) (pos:=q5)) pa_nil rfl) rfl))
    (pg_tup (pos:=q3) (k:=k1) rfl (pgs_cons (pg_name (pos:=q1) nd n1 l1 f1) (pgs_cons (pg_name (pos:=q2) nd n2 l2 f2) pgs_nil))) rfl (none_of (c:=csH sg) rfl (by simp [noneB];exact .inr ⟨rfl,rfl⟩)) rfl
   have st2:=ps_try_keep (X:=(cxOf C8.CX0 X.prog X.w X.K X.mg X.base heardN "_law_heard" sg g cdg X.A X.stack s H C8.E0).nox) (i:=3) (c:=.ref CF) (x:="FormError") (np:=q12) (pos:=q17) (pos':=q16) (suite:=[]) (b₀:=.Assign [.Name a7 q13] (.Name a8 q14) q15)
    (tb:=fun W D σ H=>∃ (Ech : XK) (Qch : VK),(∀ cls d σ' H',Ech cls d H' → W cls d σ' H') ∧ (∀ v H',Qch v H' → D.nx (σ.set 2 (some v)) H') ∧ σ[0]? = some (some (.ref f)) ∧ H c' = some (LamX.CodeO c' q) ∧ tl Ech H Qch)
    (ts:=fun _ _ _=>tAsg (tVar 3) (gName 1)) (body:=[.Assign [.Name a3 q8] (.Call (.Name "deed" q9) [] [] q10) q11]) rfl rfl rfl nd n6 l6 ⟨g5,d5,.inl hk.form⟩ (fun W pn xe tk _=>?_) (fun a oe cls d pn _ _=>pss_one (asg_plain (by exact nd) n7 l7 (pe_var n8 v8 d8 c8) (sw_plain rfl) f7))
   refine ⟨_,pss_cons st1 (pss_cons st2 (u:=fun D σ H=>∃ F0 H0,tS ⟨X.K,T,F0,H0,fun _ _=>False⟩ (evSs G0 cs0 heardT) D σ H) ⟨fun pins s1 σ H1 D I ⟨F0,H0,h⟩=>(sSs (ok F0 H0) heardT m10).run pins s1 σ H1 D I h⟩),?_⟩
   · refine ⟨by decide,fun p hp=>⟨p,_,rfl,.inl (.inl upd_same),rfl,.non,_,rfl,.non,_,rfl,rfl,?_⟩⟩
     have bF:=R0.newF (o:=.tup [.non,.non]) hp
     refine ⟨_,_,fun cls d σ' H' z=>?_,fun v H' z=>?_,rfl,by rw [upd_ne (ne_of_none hc hp)];exact hc,h _ _ bF⟩
     · obtain ⟨n,F',t',hn,rfl,rfl,RF,hq⟩:=z
       rw [hcl]
       refine ⟨rfl,hk.exm n hn,fun hl a ha=>⟨.ref a,?_,fun ha2=>?_⟩⟩
       · have hl : σ'.length = 7:=hl
         rw [List.getElem?_set_self (by rw [hl];decide)]
       · subst hcl
         exact ⟨_,_,tail_exc hn RF ha2 hl hq⟩
     · obtain ⟨F',t',d,RF,rv,hq⟩:=z
       exact ⟨_,_,tail_told RF rv hq⟩
   · refine ⟨fun pins s' σ H' D I h'=>?_⟩
     obtain ⟨Ech,Qch,hW,hQ,h1,h2,h3⟩:=h'
     have hp:=act W pn xe Ech q9 q10 tk hW
     have hp2 : PE _ (.Call (.Name "deed" q9) [] [] q10) (fun σZ HZ Q=>∃ Qch : VK,(∀ v H',Qch v H' → Q v H') ∧ σZ[0]? = some (some (.ref f)) ∧ HZ c' = some (LamX.CodeO c' q) ∧ tl Ech HZ Qch):=⟨fun pins s σ H Q I ⟨Qch,m,z⟩=>thn (hp.run pins s σ H Qch I z) fun u s1 ⟨v,H1,I1,r,w⟩=>⟨v,H1,I1,r,m v H1 w⟩⟩
     have hq:=pss_one (asg_plain (X:=(cxOf C8.CX0 X.prog X.w X.K X.mg X.base heardN "_law_heard" sg g cdg X.A X.stack s H C8.E0).tr pn xe) (pos:=q11) (py:=q8) (i:=2) (by exact nd) n3 l3 hp2 (sw_plain rfl) f3)
     exact hq.run pins s' σ H' D I ⟨Qch,hQ,h1,h2,h3⟩
 · cases hm
def nineS : List (Nat × Str):=[(0, "NoRoot"),(1, "NoForm"),(2, "ByNought"),(3, "NoQuotient"),(4, "NoName"),(5, "NoPath"),(6, "Spent"),(7, "BadWord"),(8, "NoStep")]
def nineE (b : Bool) : List (Nat × Str):=if b then nineS else nineEx
def tbN : Tb:=⟨[],[],nineS,true⟩
def nostT : Ss:=.cons (.ret (.isx (.var 1) 8)) .nil
theorem nostT_exc (n : Nat) (h : n < 9) (t : Tw) : ∃ r,evSs G0 cs0 nostT [.un,.val (.exc n),.un] t = .ok (.ret (.bl (decide (n = 8))),r) t:=by
 have : n = 0 ∨ n = 1 ∨ n = 2 ∨ n = 3 ∨ n = 4 ∨ n = 5 ∨ n = 6 ∨ n = 7 ∨ n = 8:=by omega
 rcases this with rfl | rfl | rfl | rfl | rfl | rfl | rfl | rfl | rfl
 all_goals exact ⟨_,rfl⟩
def mNost (sg : Scope) : List Stmt → Bool
 | .Assign [.Name a1 _] (.Constant .none _ _) _ :: .Try [.Expr (.Call (.Name a4 _) [] [] _) _] [.ExceptHandler (some (.Name a5 _)) (some a6) [.Assign [.Name a7 _] (.Name a8 _) _] _] [] [] _ :: rest=>
  tgtB nostN (csH sg) 1 a1 && decide (a4 = "deed") && decide (a5 = "FormError") && glB (csH sg) a5 && locAt nostN (csH sg) 2 a6 && tgtB nostN (csH sg) 1 a7 && varB nostN (csH sg) 2 a8 && mSs tbN nostN (csH sg) nostT rest
 | _=>false
theorem tail_excN {K : PySem.W.Frag} {T : Tn} {F' H' : Hp} {t' : Tw} {n : Nat} {a : Addr} {σ' : L2.St} {Q : VK} {nx : L2.St → Hp → Prop} (hn : n < 9) (RF : RelH K T F' H' F' t' H') (ha : H' a = none) (hl : σ'.length = 3)
  (hq : ∀ v F2 H2,RelH K T F' H' F2 t' H2 → Rp K T F2 v (.bl (decide (n = 8))) → Q v H2) :
  tS ⟨K,T,F',H',fun _ _=>False⟩ (evSs G0 cs0 nostT) { nx:=nx,rt:=Q } (((σ'.set 2 (some (.ref a))).set 1 (some (.ref a))).set 2 none) (L2.upd H' a (ExI (.ref (T.cl n)) a)):=by
 have b2:=RF.newF (o:=ExI (.ref (T.cl n)) a) ha (by intro _ z;cases z)
 obtain ⟨r,er⟩:=nostT_exc n hn t'
 refine ⟨_,[.un,.val (.exc n),.un],t',⟨b2,by simp [hl],fun i d e=>?_,fun i d e=>?_,fun i j d e p e1=>?_⟩,?_⟩
 · match i,e with
   | 1,e=>
    cases e
    refine ⟨.ref a,?_,.exc n upd_same⟩
    rw [List.getElem?_set_ne (by decide),List.getElem?_set_self (by simp [hl])]
   | 0,e=>cases e
   | 2,e=>cases e
   | i + 3,e=>simp at e
 · match i,e with
   | 0,e=>cases e
   | 1,e=>cases e
   | 2,e=>cases e
   | i + 3,e=>simp at e
 · match i,e1 with
   | 0,e=>cases e
   | 1,e=>cases e
   | 2,e=>cases e
   | i + 3,e=>simp at e
 · rw [er]
   exact fun v F2 H2 _ R' rv=>hq v F2 H2 R' rv
theorem nost_gives {X : Cx} {T : Tn} {cl : Nat → Addr} {CF : Addr} (hk : HeardK X.K X.mg cl CF) (hcl : T.cl = cl) (hpw : T.pg = X.prog ∧ T.wo = X.w) (free : ∀ x ∈ freeNames,X.mg x = none) (nine : Nine X.K cl) (exc : ∀ n x,nineS.lookup n = some x → ExcOk X (cl n) x) {sg : Scope} {g : Addr} {cdg : Value} {bg : List Stmt} {q : Str}
  (S : FnScope nostN ["deed"] sg) (seer : X.base.NoSeer) (tree : X.prog.given.tree = none) (hr : Room 34 X.A) (hm : mNost sg bg = true) : LamX.GivesTo X nostN "_law_no_step" sg g cdg bg "deed" q (TTn X.K T):=by
 intro f c' s H Q tl act hc h
 obtain ⟨F,t,R0,h⟩:=h
 have ok:=heardT_okG (tbx:=tbN) (nm:="_law_no_step") rfl rfl (g:=g) (cdg:=cdg) hk hcl hpw free nine exc S s H seer tree (hr.deeper _)
 unfold mNost at hm
 split at hm
 · rename_i a1 q1 j1 q4 q7 a4 q9 q10 q11 a5 q12 a6 a7 q13 a8 q14 q15 q16 q17 rest
   obtain ⟨hm,m10⟩:=and2 hm
   obtain ⟨hm,m9⟩:=and2 hm
   obtain ⟨hm,m8⟩:=and2 hm
   obtain ⟨hm,m7⟩:=and2 hm
   obtain ⟨hm,m6⟩:=and2 hm
   obtain ⟨hm,m5⟩:=and2 hm
   obtain ⟨m1,m4⟩:=and2 hm
   obtain rfl:=of_decide_eq_true m4
   obtain rfl:=of_decide_eq_true m5
   have ok0:=ok H H
   obtain ⟨n1,l1,f1⟩:=tgtB_of ok0 m1
   obtain ⟨n7,l7,f7⟩:=tgtB_of ok0 m8
   obtain ⟨n8,v8,d8,c8⟩:=varB_of ok0 m9
   obtain ⟨n6,l6,_⟩:=locAt_of ok0 m7
   obtain ⟨g5,d5,_⟩:=glB_of ok0 m6
   have nd:=S.nd
   have st1:=asg_plain (X:=(cxOf C8.CX0 X.prog X.w X.K X.mg X.base nostN "_law_no_step" sg g cdg X.A X.stack s H C8.E0).nox) (pos:=q7) (py:=q1) (by exact nd) n1 l1 (pe_non (j:=j1) (pos:=q4)) (sw_plain rfl) f1
   have st2:=ps_try_keep (X:=(cxOf C8.CX0 X.prog X.w X.K X.mg X.base nostN "_law_no_step" sg g cdg X.A X.stack s H C8.E0).nox) (i:=2) (c:=.ref CF) (x:="FormError") (np:=q12) (pos:=q17) (pos':=q16) (suite:=[]) (b₀:=.Assign [.Name a7 q13] (.Name a8 q14) q15)
    (tb:=fun W D σ H=>∃ (Ech : XK) (Qch : VK),(∀ cls d σ' H',Ech cls d H' → W cls d σ' H') ∧ (∀ v H',Qch v H' → D.nx σ H') ∧ σ[0]? = some (some (.ref f)) ∧ H c' = some (LamX.CodeO c' q) ∧ tl Ech H Qch)
    (ts:=fun _ _ _=>tAsg (tVar 2) (gName 1)) (body:=[.Expr (.Call (.Name "deed" q9) [] [] q10) q11]) rfl rfl rfl nd n6 l6 ⟨g5,d5,.inl hk.form⟩ (fun W pn xe tk _=>?_) (fun a oe cls d pn _ _=>pss_one (asg_plain (by exact nd) n7 l7 (pe_var n8 v8 d8 c8) (sw_plain rfl) f7))
   refine ⟨_,pss_cons st1 (pss_cons st2 (u:=fun D σ H=>∃ F0 H0,tS ⟨X.K,T,F0,H0,fun _ _=>False⟩ (evSs G0 cs0 nostT) D σ H) ⟨fun pins s1 σ H1 D I ⟨F0,H0,h⟩=>(sSs (ok F0 H0) nostT m10).run pins s1 σ H1 D I h⟩),?_⟩
   · refine ⟨_,fun _ _=>False,fun cls d σ' H' z=>?_,fun v H' z=>z.elim,rfl,hc,h _ _ R0⟩
     obtain ⟨n,F',t',hn,rfl,rfl,RF,hq⟩:=z
     rw [hcl]
     refine ⟨rfl,hk.exm n hn,fun hl a ha=>⟨.ref a,?_,fun ha2=>?_⟩⟩
     · have hl : σ'.length = 3:=hl
       rw [List.getElem?_set_self (by rw [hl];decide)]
     · subst hcl
       exact ⟨_,_,tail_excN hn RF ha2 hl hq⟩
   · refine ⟨fun pins s' σ H' D I h'=>?_⟩
     obtain ⟨Ech,Qch,hW,hQ,h1,h2,h3⟩:=h'
     have hp:=act W pn xe Ech q9 q10 tk hW
     have hp2 : PE _ (.Call (.Name "deed" q9) [] [] q10) (fun σZ HZ Q=>∃ Qch : VK,(∀ v H',Qch v H' → Q v H') ∧ σZ[0]? = some (some (.ref f)) ∧ HZ c' = some (LamX.CodeO c' q) ∧ tl Ech HZ Qch):=⟨fun pins s σ H Q I ⟨Qch,m,z⟩=>thn (hp.run pins s σ H Qch I z) fun u s1 ⟨v,H1,I1,r,w⟩=>⟨v,H1,I1,r,m v H1 w⟩⟩
     have hq:=pss_one (ps_expr (X:=(cxOf C8.CX0 X.prog X.w X.K X.mg X.base nostN "_law_no_step" sg g cdg X.A X.stack s H C8.E0).tr pn xe) (pos:=q11) hp2)
     exact hq.run pins s' σ H' D I ⟨Qch,hQ,h1,h2,h3⟩
 · cases hm
end Fm
namespace Fm
open PySem PySem.Spec PyProof.Rows L2
structure Fd where
 ps : List Str
 N : List Str
 body : Ss
 lk : Bool:=false
def lamQ (x : Str) : Str:=x ++ ".<locals>." ++ "<lambda>"
inductive Fn where
 | df (f : Fd)
 | nat (ps : List Str) (g : List Int → List D → Tw → Res D)
def Fn.ps : Fn → List Str
 | .df f=>f.ps
 | .nat ps _=>ps
structure Pg where
 tb : Tb
 fs : List Fn
 cs : Nat → D
def retD : Res (Fl × Rho) → Res D
 | .ok (.ret d,_) t=>.ok d t
 | .ok (.nx,_) t=>.ok .non t
 | .ok (.brk,_) _=>.bad
 | .ok (.cont,_) _=>.bad
 | .exc n t=>.exc n t
 | .bad=>.bad
noncomputable def lev (p : Pg) (ns : List Int) : Nat → Nat → Nat → List D → Tw → Res D
 | 0=>fun _ _ _ _=>.bad
 | k + 1=>fun m i ds t=>if m ≤ k then lev p ns k m i ds t else match p.fs[i]? with
  | some (.df f)=>retD (evSs ⟨k,fun d j xs ys t=>match p.tb.sh[j]? with
   | some sh=>lev p ns k (k - d) sh.fn (xs ++ ys ++ sh.dfl.map Cst.d) t
   | none=>.bad⟩ p.cs f.body (startR f.N ds) t)
  | some (.nat _ g)=>g ns ds t
  | none=>.bad
noncomputable def callF (p : Pg) (ns : List Int) (k i : Nat) (ds : List D) (t : Tw) : Res D:=lev p ns k k i ds t
theorem lev_le (p : Pg) (ns : List Int) : ∀ (k m : Nat),m ≤ k → lev p ns k m = lev p ns m m
 | 0,m,h=>by
  obtain rfl : m = 0:=by omega
  rfl
 | k + 1,m,h=>by
  by_cases hm : m ≤ k
  · rw [← lev_le p ns k m hm]
    funext i ds t
    show (if m ≤ k then _ else _) = _
    rw [if_pos hm]
  · obtain rfl : m = k + 1:=by omega
    rfl
noncomputable def gam (p : Pg) (ns : List Int) (k : Nat) : Gam:=⟨k,fun d j xs ys t=>match p.tb.sh[j]? with
 | some sh=>callF p ns (k - d) sh.fn (xs ++ ys ++ sh.dfl.map Cst.d) t
 | none=>.bad⟩
@[simp] theorem gam_low (p : Pg) (ns : List Int) (k : Nat) : (gam p ns k).low = gam p ns (k - 2):=by
 unfold gam Gam.low
 congr 1
 funext d j xs ys t
 simp only [Nat.add_comm d 2,Nat.sub_add_eq]
@[simp] theorem gam_lv (p : Pg) (ns : List Int) (k : Nat) : (gam p ns k).lv = k:=rfl
theorem callF_zero {p : Pg} {ns : List Int} {i : Nat} (ds : List D) (t : Tw) : callF p ns 0 i ds t = .bad:=rfl
theorem gam_lev (p : Pg) (ns : List Int) (k : Nat) : (⟨k,fun d j xs ys t=>match p.tb.sh[j]? with
   | some sh=>lev p ns k (k - d) sh.fn (xs ++ ys ++ sh.dfl.map Cst.d) t
   | none=>.bad⟩ : Gam) = gam p ns k:=by
 unfold gam
 congr 1
 funext d j xs ys t
 unfold callF
 rw [lev_le p ns k (k - d) (Nat.sub_le k d)]
theorem callF_df {p : Pg} {ns : List Int} {k i : Nat} {f : Fd} (h : p.fs[i]? = some (.df f)) (ds : List D) (t : Tw) : callF p ns (k + 1) i ds t = retD (evSs (gam p ns k) p.cs f.body (startR f.N ds) t):=by
 rw [← gam_lev]
 show (if k + 1 ≤ k then _ else _) = _
 rw [if_neg (by omega),h]
theorem callF_nat {p : Pg} {ns : List Int} {k i : Nat} {ps : List Str} {g : List Int → List D → Tw → Res D} (h : p.fs[i]? = some (.nat ps g)) (ds : List D) (t : Tw) : callF p ns (k + 1) i ds t = g ns ds t:=by
 show (if k + 1 ≤ k then _ else _) = _
 rw [if_neg (by omega),h]
theorem kbindsP {K : PySem.W.Frag} {x qual : Str} {params : Arguments} {body : List Stmt} {scope : Scope} {kws : List (Str × V)} {f : Addr} {fd : FuncData} {ps : List Str} (F : FunD K x qual params body scope [] kws f fd) (n : Nat) (ks : List Str)
  (h : ∀ (kV doc pm : Value) (an : Option Addr) (cdv ct : Value) (us ws : List Value),us.length = n → ws.length = ks.length → bindArgs (PySem.W.fnOf x qual params body scope .none kV doc pm an cdv ct) ⟨us,ks.zip ws⟩ = pure (ps.zip (us ++ ws))) : KBn K fd ps n ks (fun us ws=>us ++ ws ++ []) (fun vs zs=>vs ++ zs ++ []):=by
 obtain ⟨oc,od,dV,kV,doc,pm,an,cdv,ct,osl,rfl,lk,hcd,hD,hK⟩:=F.ex
 rcases hD with ⟨_,rfl⟩ | ⟨e,_⟩
 · exact ⟨fun s us ws _ l1 l2=>.of_eq (by rw [List.append_nil];exact h kV doc pm an cdv ct us ws l1 l2),fun r1 r2=>(r1.append r2).append .nil⟩
 · exact absurd rfl e
structure Bnd (K : PySem.W.Frag) (mg : Str → Option Value) (sh : Sh) (fa : Addr) (fd : FuncData) (ps : List Str) : Prop where
 mg : mg sh.name = some (.ref fa)
 kp : PySem.W.keepIn K (.ref fa) = true
 len : sh.np + sh.ks.length + sh.dfl.length = ps.length
 b0 : sh.ks = [] → ∃ ds,Vals (sh.dfl.map Cst.v) ds ∧ Binds K fd ps ds
 b1 : sh.ks ≠ [] → ∃ gg,KBn K fd ps sh.np sh.ks gg (fun vs zs=>vs ++ zs ++ sh.dfl.map Cst.v)
structure ExcK (K : PySem.W.Frag) (mg : Str → Option Value) (C : Addr) (x : Str) : Prop where
 q : PySem.W.excIn K C He.veBase "ValueError.__new__" = true
 g : mg x = some (.ref C)
 k : PySem.W.keepIn K (.ref C) = true
 s : PySem.W.subIn K (.ref C) (.type "BaseException") = some true
 t : PySem.W.typeIn K (.ref C) = some (.type "type")
def mHN (b : Bool) : Scope → List Stmt → Bool:=if b then mNost else mHeard
structure HdH (p : Pg) (K : PySem.W.Frag) (mg : Str → Option Value) (cl : Nat → Addr) : Prop where
 ex : ∃ (g CF : Addr) (fd : FuncData) (pg : Arguments) (bg : List Stmt) (sg : Scope),FunD K (hNm (nsOf p.tb.ex)) (hNm (nsOf p.tb.ex)) pg bg sg [] [] g fd ∧ Binds K fd ["deed"] [] ∧ FnScope (hN (nsOf p.tb.ex)) ["deed"] sg ∧ mHN (nsOf p.tb.ex) sg bg = true ∧ mg (hNm (nsOf p.tb.ex)) = some (.ref g) ∧ HeardK K mg cl CF
 nine : ∀ n x,(nineE (nsOf p.tb.ex)).lookup n = some x → p.tb.ex.lookup n = some x
structure Hd (p : Pg) (P : Program) (w : World) (K : PySem.W.Frag) (mg : Str → Option Value) (base : Heap) (cl : Nat → Addr) (fad : Nat → Addr) (ffd : Nat → FuncData) (tabs : List (Addr × Str)) : Prop where
 seer : base.NoSeer
 tree : P.given.tree = none
 free : ∀ x ∈ freeNames,mg x = none
 con : ∀ (g : Nat) (x : Str),p.tb.cs[g]? = some x → ∃ u v,mg x = some u ∧ RelV v u ∧ ∀ T,Rp K T (fun _=>none) v (p.cs g)
 conT : ∀ (g : Nat) (x : Str),p.tb.cs[g]? = some x → isSq false (p.cs g) = true → ∃ (a : Addr) (o : Obj) (xs : List V) (ds : List D),mg x = some (.ref a) ∧ K.lookup a = some o ∧ o.cls = .type "tuple" ∧ o.dict = none ∧ p.cs g = .tup ds ∧ SqT K (fun _=>none) a xs ∧ ∀ T,RpL K T (fun _=>none) xs ds
 exc : ∀ (n : Nat) (x : Str),p.tb.ex.lookup n = some x → ExcK K mg (cl n) x
 nine : p.tb.hd = true → Nine K cl
 sh : ∀ (j : Nat) (sh : Sh),p.tb.sh[j]? = some sh → ∃ fn : Fn,p.fs[sh.fn]? = some fn ∧ Bnd K mg sh (fad sh.fn) (ffd sh.fn) fn.ps
 df : ∀ (i : Nat) (f : Fd),p.fs[i]? = some (.df f) → ∃ x params body scope dvs kws,FunD K x x params body scope dvs kws (fad i) (ffd i) ∧ FnScope f.N f.ps scope ∧ mSs p.tb f.N ⟨scope,fun _=>true,f.lk,f.lk,true⟩ f.body body = true ∧
  (f.lk = true → ∀ c,(ffd i).code = .ref c → ∃ Pt,LamX.TabB base mg c Pt ∧ (Pt,lamQ x) ∈ tabs ∧ ∀ q ∈ tabs,q.1 = Pt → q.2 = lamQ x)
 nat : ∀ (i : Nat) (ps : List Str) (g : List Int → List D → Tw → Res D),p.fs[i]? = some (.nat ps g) → ∀ T,T.cl = cl → FnOk P w K mg base (CX P w) 1 (fad i) (ffd i) ps (spD K T cl ps.length (g T.ns))
 hdh : p.tb.hd = true → HdH p K mg cl
theorem mkHeard {p : Pg} {P : Program} {w : World} {K : PySem.W.Frag} {mg : Str → Option Value} {base : Heap} {cl : Nat → Addr} {fad : Nat → Addr} {ffd : Nat → FuncData} {tabs : List (Addr × Str)} (hd : Hd p P w K mg base cl fad ffd tabs) (hH : HdH p K mg cl) (hh : p.tb.hd = true) {X : Cx} {Q : Pm} {c Pt : Addr} (hp : X.prog = P) (hK : X.K = K) (hK2 : Q.K = K) (hmg : X.mg = mg) (hb : X.base = base) (hcl : Q.T.cl = cl)
  (hr : Room 34 X.A) (hpw : Q.T.pg = X.prog ∧ Q.T.wo = X.w) (TB : LamX.TabB base mg c Pt) (hcode : X.env.code = .ref c) (hm : (Pt,X.env.qual ++ "<lambda>") ∈ Q.T.tabs) (hu : ∀ p ∈ Q.T.tabs,p.1 = Pt → p.2 = X.env.qual ++ "<lambda>") : Heard (nsOf p.tb.ex) X Q:=by
 subst hp hmg hb
 obtain ⟨g,CF,fd,pg,bg,sg,F,b,S,hm1,hg,hk⟩:=hH.ex
 obtain ⟨oc,od,dV,kV,doc,pm,an,cdv,ct,osl,rfl,lk,hcd,_,_⟩:=F.ex
 subst hK
 refine ⟨g,c,Pt,pg,bg,sg,dV,kV,doc,pm,cdv,ct,oc,an,od,osl,hg,F.kp,lk,hcd,b,S,?_,TB,hcode,hm,hu⟩
 rw [hK2]
 have ne:=hH.nine
 generalize nsOf p.tb.ex = mb at *
 cases mb with
 | false=>
  exact heard_gives hk hcl hpw hd.free (hd.nine hh) (fun n x e=>by
   obtain ⟨a,b,c,d,e⟩:=hd.exc n x (ne n x e)
   exact ⟨a,b,c,raises_own d e⟩) S hd.seer hd.tree hr hm1
 | true=>
  exact nost_gives hk hcl hpw hd.free (hd.nine hh) (fun n x e=>by
   obtain ⟨a,b,c,d,e⟩:=hd.exc n x (ne n x e)
   exact ⟨a,b,c,raises_own d e⟩) S hd.seer hd.tree hr hm1
theorem mkOk {p : Pg} {P : Program} {w : World} {K : PySem.W.Frag} {mg : Str → Option Value} {base : Heap} {cl : Nat → Addr} {fad : Nat → Addr} {ffd : Nat → FuncData} {tabs : List (Addr × Str)} (hd : Hd p P w K mg base cl fad ffd tabs) (T : Tn) (hT : T.cl = cl ∧ T.pg = P ∧ T.wo = w) {k : Nat}
  (ih : ∀ j,j ≤ k → ∀ (i : Nat) (fn : Fn),p.fs[i]? = some fn → FnOk P w K mg base (CX P w) (j + 33) (fad i) (ffd i) fn.ps (spD K T cl fn.ps.length (callF p T.ns j i)))
  {N ps : List Str} {x : Str} {scope : Scope} {f : Addr} {cdv : Value} {A : Around} {outer : List Env} {s : Shared} {H : Hp} {E : XK} (S : FnScope N ps scope) (hr : Room (k + 33) (A.deeper (envOfC x scope s.heap.objs.size f cdv))) (F0 H0 : Hp) (lm lk : Bool)
  (hl : lk = true → LamT (cxOf (CX P w) P w K mg base N x scope f cdv A outer s H E) ⟨K,T,F0,H0,fun n H'=>E (.ref (cl n)) none H'⟩)
  (hh : p.tb.hd = true → lm = true → 1 ≤ k → Heard (nsOf p.tb.ex) (cxOf (CX P w) P w K mg base N x scope f cdv A outer s H E) ⟨K,T,F0,H0,fun n H'=>E (.ref (cl n)) none H'⟩) :
  Ok p.tb N (gam p T.ns k) p.cs cl (cxOf (CX P w) P w K mg base N x scope f cdv A outer s H E) ⟨K,T,F0,H0,fun n H'=>E (.ref (cl n)) none H'⟩ ⟨scope,fun _=>true,lm,lk,true⟩ where
 hK:=rfl
 hN:=rfl
 nd:=S.nd
 sc:=rfl
 fn:=rfl
 calm:=rfl
 rm33:=fun _=>hr
 pyf:=fun _=>⟨hd.seer,hd.tree,_,_,rfl,S.gen,S.co,rfl,rfl⟩
 hcl:=hT.1
 hpw:=hT.2
 free:=hd.free
 con:=fun g x e=>by
  obtain ⟨u,v,a,b,c⟩:=hd.con g x e
  exact ⟨u,v,a,b,c T⟩
 conT:=fun g x e z=>by
  obtain ⟨a,o,xs,ds,h1,h2,h3,h4,h5,h6,h7⟩:=hd.conT g x e z
  exact ⟨a,o,xs,ds,h1,h2,h3,h4,h5,h6,h7 T⟩
 call:=fun d j sh e hdk=>by
  obtain ⟨fn,e2,b⟩:=hd.sh j sh e
  refine ⟨fad sh.fn,ffd sh.fn,fn.ps,callF p T.ns (k - d) sh.fn,?_,b.mg,b.kp,b.b0,b.b1,fun xs ys t=>?_⟩
  · have:=ih (k - d) (Nat.sub_le k d) sh.fn fn e2
    rw [← b.len] at this
    exact this
  · show (match p.tb.sh[j]? with
     | some sh=>_
     | none=>_) = _
    rw [e]
 tk:=by
  have tk:=takes_of (X:=cxOf (CX P w) P w K mg base N x scope f cdv A outer s H E) (E:=E) rfl rfl rfl rfl
  exact fun u s' z=>tk u s' (by
   obtain ⟨a,B,sI,pins,σ,H,cls,d,e,I,nb,up,sky,na,os,ag,wn⟩:=z
   obtain ⟨n,e1,e2,z⟩:=wn
   exact ⟨a,B,sI,pins,σ,H,cls,d,e,I,nb,up,sky,na,os,ag,by rw [e1,e2];exact z⟩)
 own:=passes_of rfl
 exc:=fun n x e=>by
  obtain ⟨a,b,c,d,e⟩:=hd.exc n x e
  exact ⟨a,b,c,raises_own d e⟩
 nine:=hd.nine
 form:=fun z=>by
  obtain ⟨_,CF,_,_,_,_,_,_,_,_,_,hk⟩:=(hd.hdh z).ex
  exact ⟨CF,hk.form,hk.exm⟩
 heard:=hh
 lamT:=hl
 top:=fun _=>⟨rfl,rfl⟩
theorem fnOk {p : Pg} {P : Program} {w : World} {K : PySem.W.Frag} {mg : Str → Option Value} {base : Heap} {cl : Nat → Addr} {fad : Nat → Addr} {ffd : Nat → FuncData} {tabs : List (Addr × Str)} (hd : Hd p P w K mg base cl fad ffd tabs) (T : Tn) (hT : T.cl = cl ∧ T.pg = P ∧ T.wo = w) (hTt : T.tabs = tabs) :
  ∀ (k i : Nat) (fn : Fn),p.fs[i]? = some fn → FnOk P w K mg base (CX P w) (k + 33) (fad i) (ffd i) fn.ps (spD K T cl fn.ps.length (callF p T.ns k i)):=by
 intro k
 induction k using Nat.strongRecOn with
 | ind k ih=>
 cases k with
 | zero=>
  intro i fn hf
  refine ⟨fun vs H Q E h=>?_,fun A outer s H args us vs Q E _ _ _ _ h=>?_⟩
  · obtain ⟨_,_,_,_,_,_,z⟩:=h
    rw [callF_zero] at z
    exact z.elim
  · obtain ⟨_,_,_,_,_,_,z⟩:=h
    rw [callF_zero] at z
    exact z.elim
 | succ k=>
  intro i fn hf
  rw [show k + 1 + 33 = k + 33 + 1 by omega]
  cases fn with
  | nat ps g=>
   have e : callF p T.ns (k + 1) i = g T.ns:=by
    funext ds t
    exact callF_nat hf ds t
   rw [e]
   exact (hd.nat i ps g hf T hT.1).mono (by omega)
  | df f=>
   obtain ⟨x,params,body,scope,dvs,kws,F,S,hm,hlk⟩:=hd.df i f hf
   obtain ⟨oc,od,dV,kV,doc,pm,an,cdv,ct,osl,efd,lk,hcd,_,_⟩:=F.ex
   obtain ⟨c0,rfl⟩:=He.codeIn_ref hcd
   rw [efd] at lk hlk ⊢
   refine fn_of lk hcd S (fun vs H Q E h=>?_) fun A outer s H vs Q E hr h=>?_
   · obtain ⟨_,_,_,_,rv,hl,_⟩:=h
     rw [rv.length,hl]
   · obtain ⟨F0,t,ds,R,rv,hl,q⟩:=h
     rw [callF_df hf] at q
     refine ⟨tS ⟨K,T,F0,H,fun n H'=>E (.ref (cl n)) none H'⟩ (evSs (gam p T.ns k) p.cs f.body),?_,F0,startR f.N ds,t,Rel.start R rv,?_⟩
     · refine sSs (mkOk hd T hT (fun j hj=>ih j (by omega)) S hr F0 H f.lk f.lk (fun z=>?_) (fun hh z hk1=>?_)) f.body hm
       · obtain ⟨Pt,TB,h1,h2⟩:=hlk z c0 rfl
         exact ⟨c0,Pt,TB,rfl,(by show _ ∈ T.tabs;rw [hTt];exact h1),fun q hq=>h2 q (by have hq : q ∈ T.tabs:=hq;rw [hTt] at hq;exact hq)⟩
       · obtain ⟨Pt,TB,h1,h2⟩:=hlk z c0 rfl
         exact mkHeard (Pt:=Pt) (c:=c0) hd (hd.hdh hh) hh rfl rfl rfl rfl rfl hT.1 (hr.mono (show 34 ≤ k + 33 by omega)) hT.2 TB rfl (by show _ ∈ T.tabs;rw [hTt];exact h1) fun q hq=>h2 q (by have hq : q ∈ T.tabs:=hq;rw [hTt] at hq;exact hq)
     · cases er : evSs (gam p T.ns k) p.cs f.body (startR f.N ds) t with
       | ok r t'=>
        rw [er] at q
        obtain ⟨fl,r⟩:=r
        cases fl with
        | nx=>exact fun F' σ' H' _ R'=>q .non F' H' R'.toRelH .non
        | ret d=>exact fun v F' H' _ R' rv=>q v F' H' R' rv
        | brk=>exact q.elim
        | cont=>exact q.elim
       | exc n t'=>
        rw [er] at q
        exact fun F' H' _ R'=>q F' H' R'
       | bad=>
        rw [er] at q
        exact q.elim
end Fm
namespace Fm
open PySem PySem.Spec PyProof.Rows L2
def isBegun : List Stmt → Bool
 | [.Return (some (.Dict [some k1,some k2] [.Constant (.int z) _ _,.Dict [] [] _] _)) _]=>isStr "count" k1 && isStr "rests" k2 && decide (z = 0)
 | _=>false
def spB : Sp:=fun vs H Q _=>vs = [] ∧ ∀ a b H',H a = none → H b = none → a ≠ b → H' a = some (.dK [(.inr "count",.int 0),(.inr "rests",.ref b)]) → H' b = some (.dK []) → (∀ c,c ≠ a → c ≠ b → H' c = H c) → Q (.ref a) H'
theorem begun_ok {CX : CXT} {P : Program} {w : World} {K : PySem.W.Frag} {mg : Str → Option Value} {base : Heap} {x : Str} {params : Arguments} {body : List Stmt} {scope : Scope} {f : Addr} {fd : FuncData} (F : FunD K x x params body scope [] [] f fd) (S : FnScope [] [] scope) (hb : isBegun body = true) :
  FnOk P w K mg base CX 1 f fd [] spB:=by
 refine F.ok S (fun vs H Q E h=>by rw [h.1];rfl) fun cdv A outer s H vs Q E hr h=>?_
 unfold isBegun at hb
 split at hb
 · rename_i k1 k2 z j1 q1 q2 q3 q4
   obtain ⟨hb,h3⟩:=and2 hb
   obtain ⟨h1,h2⟩:=and2 hb
   obtain ⟨a1,a2,rfl⟩:=isStr_of h1
   obtain ⟨b1,b2,rfl⟩:=isStr_of h2
   obtain rfl:=of_decide_eq_true h3
   refine ⟨_,pss_one (ps_ret (pe_disp (pps_cons pe_str pe_int (pps_cons pe_str pe_dnewK pps_nil)) rfl rfl (by simp) (by simp))),?_⟩
   obtain ⟨rfl,h⟩:=h
   intro p hp b hb
   obtain ⟨hb,hpb⟩:=upd_none hb
   refine ⟨?_,[(.inr "count",.int 0),(.inr "rests",.ref b)],rfl,by simp,?_⟩
   · rw [upd_ne (Ne.symm hpb),upd_same]
   · refine h p b _ hp hb (Ne.symm hpb) ?_ ?_ fun c n1 n2=>?_
     · rw [upd_same]
       rfl
     · rw [upd_ne hpb,upd_same]
     · rw [upd_ne n1,upd_ne n2,upd_ne n1]
 · cases hb
def mLaw (tb : Tb) (N : List Str) (c : Cs) (L : Ss) : List Stmt → Bool
 | .Assign [.Name y _] (.Call (.Name b _) [] [] _) _ :: rest=>decide (b = "_law_begun") && glB c b && tgtB N c 1 y && mSs tb N c L rest
 | _=>false
def startL (N : List Str) (ns : List Int) : Rho:=(startR N [.scr ns]).set 1 (.val .tok)
def spLaw (K : PySem.W.Frag) (tabs : List (Addr × Str)) : Sp:=fun vs H Q _=>∃ (a : Addr) (ns : List Int),vs = [.ref a] ∧ ns.length ≤ 63 ∧ (∀ z ∈ ns,Builtin.Int.intBits z ≤ 1048576) ∧ SqL K H a (ns.map V.int) ∧ (∀ p ∈ tabs,H p.1 = some (.tbl #[])) ∧ ∀ H',Q (.bl true) H'
def noTab (H : Hp) : Hp:=fun b=>match H b with
 | some (.tbl _)=>none
 | o=>o
theorem noTab_same (H : Hp) : Same (noTab H) H:=fun b o h=>by
 unfold noTab at h
 split at h
 · cases h
 · exact h
theorem noTab_nt (H : Hp) (b : Addr) (o : HO) (h : noTab H b = some o) : NT o:=fun ps z=>by
 unfold noTab at h
 split at h
 · cases h
 · rename_i n
   rw [z] at h
   exact n ps h
theorem noTab_of {H : Hp} {b : Addr} {o : HO} (h : H b = some o) (n : NT o) : noTab H b = some o:=by
 unfold noTab
 rw [h]
 cases o <;> first | rfl | exact absurd rfl (n _)
theorem sqL_noTab {K : PySem.W.Frag} {H : Hp} {a : Addr} {xs : List V} (h : SqL K H a xs) : SqL K (noTab H) a xs:=by
 rcases h with h | h
 · rcases h with h | ⟨o,h⟩
   · exact .inl (.inl (noTab_of h (by intro _ z;cases z)))
   · exact .inl (.inr ⟨o,noTab_of h (by intro _ z;cases z)⟩)
 · exact .inr h
theorem lawOk {p : Pg} {P : Program} {w : World} {K : PySem.W.Frag} {mg : Str → Option Value} {base : Heap} {cl : Nat → Addr} {fad : Nat → Addr} {ffd : Nat → FuncData} {tabs : List (Addr × Str)} (hd : Hd p P w K mg base cl fad ffd tabs) {k : Nat} {f fB : Addr} {fd fdB : FuncData} {params paramsB : Arguments} {body bodyB : List Stmt} {scope scopeB : Scope}
  {x xB : Str} {N : List Str} {L : Ss} (F : FunD K x x params body scope [] [] f fd) (S : FnScope N ["script"] scope) (hm : mLaw p.tb N ⟨scope,fun _=>true,true,p.tb.hd,true⟩ L body = true) (FB : FunD K xB xB paramsB bodyB scopeB [] [] fB fdB) (SB : FnScope [] [] scopeB) (hB : isBegun bodyB = true)
  (bB : Binds K fdB [] []) (gB : mg "_law_begun" = some (.ref fB)) (hk : 1 ≤ k) (hH : p.tb.hd = true → HdH p K mg cl ∧ ∃ Pt,(Pt,lamQ x) ∈ tabs ∧ (∀ q ∈ tabs,q.1 = Pt → q.2 = lamQ x) ∧ ∀ c,fd.code = .ref c → LamX.TabB base mg c Pt)
  (hev : ∀ ns : List Int,ns.length ≤ 63 → (∀ z ∈ ns,Builtin.Int.intBits z ≤ 1048576) → ∃ r t,evSs (gam p ns k) p.cs L (startL N ns) ⟨0,[]⟩ = .ok (.ret (.bl true),r) t) : FnOk P w K mg base (CX P w) (k + 33 + 1) f fd ["script"] (spLaw K tabs):=by
 obtain ⟨oc,od,dV,kV,doc,pm,an,cdv,ct,osl,rfl,lk,hcd,_,_⟩:=F.ex
 obtain ⟨c0,rfl⟩:=He.codeIn_ref hcd
 refine fn_of lk hcd S (fun vs H Q E h=>?_) fun A outer s H vs Q E hr h=>?_
 · obtain ⟨a,ns,rfl,_⟩:=h
   rfl
 · obtain ⟨a,ns,rfl,hns,hbits,hS,htab,hQ⟩:=h
   unfold mLaw at hm
   split at hm
   · rename_i y py b pb q1 q2 rest
     obtain ⟨hm,h4⟩:=and2 hm
     obtain ⟨hm,h3⟩:=and2 hm
     obtain ⟨h1,h2⟩:=and2 hm
     obtain rfl:=of_decide_eq_true h1
     have tk:=takes_of (X:=cxOf (CX P w) P w K mg base N x scope f (.ref c0) A outer s H E) (E:=E) rfl rfl rfl rfl
     have ok : ∀ T F0 H0,(T.cl = cl ∧ T.pg = P ∧ T.wo = w) → T.ns = ns → T.tabs = tabs → Ok p.tb N (gam p ns k) p.cs cl (cxOf (CX P w) P w K mg base N x scope f (.ref c0) A outer s H E) ⟨K,T,F0,H0,fun n H'=>E (.ref (cl n)) none H'⟩ ⟨scope,fun _=>true,true,p.tb.hd,true⟩:=by
      intro T F0 H0 eC eT eB
      subst eT
      refine mkOk hd T eC (fun j _=>fnOk hd T eC eB j) S hr F0 H0 true p.tb.hd (fun hh=>?_) fun hh _ _=>?_
      · obtain ⟨_,Pt,hPt,hPu,TB⟩:=hH hh
        refine ⟨c0,Pt,TB c0 rfl,rfl,?_,fun q hq e=>?_⟩
        · show _ ∈ T.tabs
          rw [eB]
          exact hPt
        · have hq : q ∈ T.tabs:=hq
          rw [eB] at hq
          exact hPu q hq e
      obtain ⟨hH,Pt,hPt,hPu,TB⟩:=hH hh
      refine mkHeard (Pt:=Pt) (c:=c0) hd hH hh rfl rfl rfl rfl rfl eC.1 (hr.mono (by omega)) eC.2 (TB c0 rfl) rfl ?_ ?_
      · show _ ∈ T.tabs
        rw [eB]
        exact hPt
      · intro p hp e
        have hp : p ∈ T.tabs:=hp
        rw [eB] at hp
        exact hPu p hp e
     have ok0:=ok ⟨0,0,0,ns,_,cl,P,w⟩ H H ⟨rfl,rfl,rfl⟩ rfl rfl
     obtain ⟨t1,t2,t3⟩:=tgtB_of ok0 h3
     obtain ⟨g1,g2,g3⟩:=glB_of ok0 h2
     have st0:=asg_plain (pos:=q2) (py:=py) (by rw [ok0.hN];exact ok0.nd) t1 t2 (pe_call0 (p:=pb) (pos:=q1) (begun_ok FB SB hB) (hr.mono (by omega)) g1 gB FB.kp bB .nil (passes_call (E:=E) tk fun _ _ _ _ h=>h) g2) (sw_plain rfl) t3
     refine ⟨_,pss_cons st0 (u:=fun D σ H'=>∃ T H0,(T.cl = cl ∧ T.pg = P ∧ T.wo = w) ∧ T.ns = ns ∧ T.tabs = tabs ∧ tS ⟨K,T,noTab H,H0,fun n H'=>E (.ref (cl n)) none H'⟩ (evSs (gam p ns k) p.cs L) D σ H') ⟨fun pins s1 σ H1 D I h=>?_⟩,?_⟩
     · obtain ⟨T,H0,eC,eT,eB,h⟩:=h
       exact (sSs (ok T (noTab H) H0 eC eT eB) L h4).run pins s1 σ H1 D I h
     · refine ⟨rfl,fun ta tb H' ha hb hne e1 e2 e3=>?_⟩
       refine ⟨⟨ta,tb,a,ns,_,cl,P,w⟩,H',⟨rfl,rfl,rfl⟩,rfl,rfl,noTab H,startL N ns,⟨0,[]⟩,?_,?_⟩
       · have fr : ∀ {b : Addr},H b = none → noTab H b = none:=fun {b} h=>by
          unfold noTab
          rw [h]
         have R0 : RelH K ⟨ta,tb,a,ns,tabs,cl,P,w⟩ (noTab H) H' (noTab H) ⟨0,[]⟩ H':=by
          refine ⟨fun c o h=>?_,fun _ _ h=>.inl h,Same.refl _,fun _ _ h _ _ _=>h,fun _ h=>h,⟨e1,e2,hne,Nat.zero_le _⟩,fr ha,fr hb,sqL_noTab hS,fun q hq=>?_,noTab_nt H⟩
          · have h:=noTab_same H _ _ h
            have n1 : c ≠ ta:=fun z=>by
             rw [z,ha] at h
             cases h
            have n2 : c ≠ tb:=fun z=>by
             rw [z,hb] at h
             cases h
            rw [e3 c n1 n2]
            exact h
          · obtain ⟨P0,qn⟩:=q
            have h : H P0 = _:=htab (P0,qn) hq
            refine LamX.TabS.nil ?_
            have n1 : P0 ≠ ta:=fun z=>by
             rw [z,ha] at h
             cases h
            have n2 : P0 ≠ tb:=fun z=>by
             rw [z,hb] at h
             cases h
            show H' P0 = _
            rw [e3 P0 n1 n2]
            exact h
         have hN2 : 1 < N.length:=(List.getElem?_eq_some_iff.mp t1).1
         refine ⟨R0,?_,fun i d h=>?_,fun i d h=>?_,fun i j d e q h=>?_⟩
         · unfold startL startR L2.start
           simp
         · by_cases hi : 1 = i
           · subst hi
             unfold startL at h
             rw [List.getElem?_set_self (by unfold startR;simp;omega)] at h
             cases h
             refine ⟨.ref ta,?_,.tok⟩
             rw [List.getElem?_set_self (by unfold L2.start;simp;omega)]
           · unfold startL at h
             rw [List.getElem?_set_ne hi] at h
             rw [List.getElem?_set_ne hi]
             rcases map_get h with ⟨d',z,e⟩ | z
             · cases z
               cases i with
               | zero=>
                cases e
                exact ⟨.ref a,rfl,.scr⟩
               | succ i=>simp at e
             · cases z
         · unfold startL at h
           by_cases hi : 1 = i
           · subst hi
             rw [List.getElem?_set_self (by unfold startR;simp;omega)] at h
             cases h
           · rw [List.getElem?_set_ne hi] at h
             rcases map_get h with ⟨d',z,e⟩ | z <;> cases z
         · unfold startL at h
           by_cases hi : 1 = i
           · subst hi
             rw [List.getElem?_set_self (by unfold startR;simp;omega)] at h
             cases h
           · rw [List.getElem?_set_ne hi] at h
             rcases map_get h with ⟨d',z,e⟩ | z <;> cases z
       · obtain ⟨r,t,er⟩:=hev ns hns hbits
         rw [er]
         intro v F' H2 _ _ rv
         cases rv
         exact hQ H2
   · cases hm
end Fm
namespace Fm
open PySem PySem.Spec PyProof.Rows L2
mutual
theorem dvB_ok {K : PySem.W.Frag} : ∀ (d : D) {u : Value},dvB K d u = true → ∃ v,RelV v u ∧ ∀ T,Rp K T (fun _=>none) v d
 | .non,u,h=>⟨.non,He.relB_ok (by rw [dvB] at h;exact h),fun _=>.non⟩
 | .bl b,u,h=>⟨.bl b,He.relB_ok (by rw [dvB] at h;exact h),fun _=>.bl b⟩
 | .int i,u,h=>⟨.int i,He.relB_ok (by rw [dvB] at h;exact h),fun _=>.int i⟩
 | .str x,u,h=>⟨.str x,He.relB_ok (by rw [dvB] at h;exact h),fun _=>.str x⟩
 | .tup ds,u,h=>by
  cases u with
  | ref a=>
   rw [dvB] at h
   cases q : K.lookup a with
   | none=>
    rw [q] at h
    cases h
   | some o=>
    obtain ⟨oc,od,dt,osl⟩:=o
    rw [q] at h
    cases oc with
    | type c=>
     cases od with
     | some _=>cases dt <;> cases h
     | none=>
     cases dt with
     | seq its n=>
      obtain ⟨h1,h2⟩:=and2 (show (decide (c = "tuple") && (decide (its.size ≤ sizeLine) && dvsB K ds its.toList)) = true from h)
      obtain ⟨h3,h4⟩:=and2 h2
      obtain ⟨vs,r,t⟩:=dvsB_ok ds h4
      refine ⟨.ref a,rfl,fun T=>.tup (xs:=vs) ⟨.inr ⟨_,its,n,q,congrArg Value.type (of_decide_eq_true h1),rfl,of_decide_eq_true h3,r⟩,.inr ⟨_,q,rfl⟩⟩ ?_ (t T)⟩
      have:=r.length
      have h3:=of_decide_eq_true h3
      rw [this]
      simpa using h3
     | _=>cases h
    | _=>cases od <;> cases dt <;> cases h
  | _=>rw [dvB] at h <;> first | cases h | (intros;intro z;cases z)
 | .lst ds,u,h=>by cases u <;> (rw [dvB] at h <;> first | cases h | (intros;intro z;cases z))
 | .dct ds,u,h=>by cases u <;> (rw [dvB] at h <;> first | cases h | (intros;intro z;cases z))
 | .tok,u,h=>by cases u <;> (rw [dvB] at h <;> first | cases h | (intros;intro z;cases z))
 | .scr _,u,h=>by cases u <;> (rw [dvB] at h <;> first | cases h | (intros;intro z;cases z))
 | .exc _,u,h=>by cases u <;> (rw [dvB] at h <;> first | cases h | (intros;intro z;cases z))
 | .dcn _,u,h=>by cases u <;> (rw [dvB] at h <;> first | cases h | (intros;intro z;cases z))
theorem dvsB_ok {K : PySem.W.Frag} : ∀ (ds : List D) {us : List Value},dvsB K ds us = true → ∃ vs,Vals vs us ∧ ∀ T,RpL K T (fun _=>none) vs ds
 | [],[],_=>⟨[],.nil,fun _=>.nil⟩
 | [],_ :: _,h=>by simp [dvsB] at h
 | _ :: _,[],h=>by simp [dvsB] at h
 | d :: ds,u :: us,h=>by
  rw [dvsB] at h
  obtain ⟨h1,h2⟩:=and2 h
  obtain ⟨v,r,t⟩:=dvB_ok d h1
  obtain ⟨vs,r2,t2⟩:=dvsB_ok ds h2
  exact ⟨v :: vs,.cons r r2,fun T=>.cons (t T) (t2 T)⟩
end
theorem mgB_ok {K : PySem.W.Frag} {h : Heap} {mg : Str → Option Value} (X : K.In h) (G : h.Ns mainGlobals mg) {x : Str} {d : D} (c : mgB K x d = true) : ∃ u v,mg x = some u ∧ RelV v u ∧ ∀ T,Rp K T (fun _=>none) v d:=by
 unfold mgB at c
 cases e : PySem.W.nsIn K mainGlobals x with
 | none=>
  rw [e] at c
  cases c
 | some o=>
  rw [e] at c
  cases o with
  | none=>cases c
  | some u=>
   obtain ⟨v,r,t⟩:=dvB_ok d c
   exact ⟨u,v,PySem.W.mg_of X G e,r,t⟩
theorem mgT_ok {K : PySem.W.Frag} {h : Heap} {mg : Str → Option Value} (X : K.In h) (G : h.Ns mainGlobals mg) {x : Str} {ds : List D} (c : mgB K x (.tup ds) = true) :
  ∃ (a : Addr) (o : Obj) (xs : List V),mg x = some (.ref a) ∧ K.lookup a = some o ∧ o.cls = .type "tuple" ∧ o.dict = none ∧ SqT K (fun _=>none) a xs ∧ ∀ T,RpL K T (fun _=>none) xs ds:=by
 unfold mgB at c
 cases e : PySem.W.nsIn K mainGlobals x with
 | none=>
  rw [e] at c
  cases c
 | some o=>
  rw [e] at c
  cases o with
  | none=>cases c
  | some u=>
   have hm:=PySem.W.mg_of X G e
   have c : dvB K (.tup ds) u = true:=c
   cases u with
   | ref a=>
    rw [dvB] at c
    cases q : K.lookup a with
    | none=>
     rw [q] at c
     cases c
    | some o=>
     obtain ⟨oc,od,dt,osl⟩:=o
     rw [q] at c
     cases oc with
     | type cc=>
      cases od with
      | some _=>cases dt <;> cases c
      | none=>
      cases dt with
      | seq its n=>
       obtain ⟨h1,h2⟩:=and2 (show (decide (cc = "tuple") && (decide (its.size ≤ sizeLine) && dvsB K ds its.toList)) = true from c)
       obtain ⟨h3,h4⟩:=and2 h2
       obtain ⟨vs,r,t⟩:=dvsB_ok ds h4
       exact ⟨a,_,vs,hm,q,congrArg Value.type (of_decide_eq_true h1),rfl,.inr ⟨_,its,n,q,congrArg Value.type (of_decide_eq_true h1),rfl,of_decide_eq_true h3,r⟩,t⟩
      | _=>cases c
     | _=>cases od <;> cases dt <;> cases c
   | _=>rw [dvB] at c <;> first | cases c | (intros;intro z;cases z)
theorem isBlt_of {o : Option (Option Value)} {id : String} (h : isBlt o id = true) : o = some (some (.builtin id)):=by
 unfold isBlt at h
 split at h
 · rw [of_decide_eq_true h]
 · cases h
theorem isNo_of {o : Option (Option Value)} (h : isNo o = true) : o = some none:=by
 unfold isNo at h
 split at h
 · rfl
 · cases h
theorem excCB_ok {K : PySem.W.Frag} {D : Addr} (h : excCB K D = true) : ExcC K D:=by
 unfold excCB at h
 obtain ⟨h,h8⟩:=and2 h
 obtain ⟨h,h7⟩:=and2 h
 obtain ⟨h,h6⟩:=and2 h
 obtain ⟨h,h5⟩:=and2 h
 obtain ⟨h,h4⟩:=and2 h
 obtain ⟨h,h3⟩:=and2 h
 obtain ⟨h1,h2⟩:=and2 h
 exact ⟨isBlt_of h1,isNo_of h2,of_decide_eq_true h3,h4,isBlt_of h5,isBlt_of h6,of_decide_eq_true h7,of_decide_eq_true h8⟩
theorem nineB_ok {ex : List (Nat × Str)} {K : PySem.W.Frag} (h : nineB ex K = true) : Nine K (clOf ex K) ∧ ∀ n,n < 9 → PySem.W.exmOne K (.ref (clOf ex K n)) (.ref (He.ga K "FormError")) = some true:=by
 have key : ∀ m,m < 9 → _:=fun m hm=>List.all_eq_true.mp h m (List.mem_range.mpr hm)
 refine ⟨⟨fun m hm=>?_,fun m n hm hn=>?_,fun m hm=>?_⟩,fun m hm=>?_⟩
 all_goals
  obtain ⟨h,h4⟩:=and2 (key m hm)
  obtain ⟨h,h3⟩:=and2 h
  obtain ⟨h1,h2⟩:=and2 h
 · exact excCB_ok h1
 · exact of_decide_eq_true (List.all_eq_true.mp h4 n (List.mem_range.mpr hn))
 · exact of_decide_eq_true h2
 · exact of_decide_eq_true h3
def tbOf (hd : Bool) (lks : List Str) (K : PySem.W.Frag) : List (Addr × Str):=(tfOf hd lks).map fun q=>((He.cT K q).2,lamQ q.1)
structure SaysC (fa : List He.Fa) (fn : List He.DefD) (cst : List (Str × D)) (K : PySem.W.Frag) : Prop where
 d : He.SaysD fa fn K
 co : (cst.all fun p=>mgB K p.1 p.2) = true
theorem SaysC.con {fa : List He.Fa} {fn : List He.DefD} {cst : List (Str × D)} {K : PySem.W.Frag} (c : SaysC fa fn cst K) (i : Nat) {x : Str} {d : D} (h : cst[i]? = some (x,d)) : mgB K x d = true:=
 List.all_eq_true.mp c.co _ (List.mem_of_getElem? h)
def fdB (tb : Tb) (f : Fd) (d : He.DefD) : Bool:=scB f.N f.ps d.scope && mSs tb f.N ⟨d.scope,fun _=>true,f.lk,f.lk,true⟩ f.body d.body && decide (d.name = d.qual)
end Fm
namespace Fm
open PySem PySem.Spec PyProof.Rows L2
def fadOf (fn : List He.DefD) (K : PySem.W.Frag) (i : Nat) : Addr:=match fn[i]? with
 | some d=>He.fAd K d.at_
 | none=>0
abbrev FunAt (K : PySem.W.Frag) (d : He.DefD) (fd : FuncData) : Prop:=FunD K d.name d.qual d.params d.body d.scope (d.dvs K) (d.kws K) (He.fAd K d.at_) fd
section
variable {fn : List He.DefD} {ex : List (Nat × Str)} {hd : Bool} {cst : List (Str × D)} {K : PySem.W.Frag} {h : Heap} {mg : Str → Option Value}
theorem fun_all {fa : List He.Fa} (c : SaysC fa fn cst K) {d0 : He.DefD} (h0 : fn[0]? = some d0) : ∃ ffd : Nat → FuncData,∀ (i : Nat) (d : He.DefD),fn[i]? = some d → FunAt K d (ffd i):=by
 refine Classical.axiomOfChoice (r:=fun i fd=>∀ d,fn[i]? = some d → FunAt K d fd) fun i=>?_
 cases e : fn[i]? with
 | none=>exact ⟨(c.d.def_ 0 h0).choose,fun d z=>by cases z⟩
 | some d=>
  obtain ⟨fd,hf⟩:=c.d.def_ i e
  exact ⟨fd,fun d' z=>by cases z;exact hf⟩
theorem fact_of {fa : List He.Fa} (c : SaysC fa fn cst K) {f : He.Fa} (m : f ∈ fa) : f.ok K = true:=by
 obtain ⟨i,e⟩:=List.mem_iff_getElem?.mp m
 exact c.d.fact i e
theorem free_all (X : K.In h) (G : h.Ns mainGlobals mg) (c : SaysC (faOf fn ex hd) fn cst K) : ∀ x ∈ freeNames,mg x = none:=fun x hx=>
 He.free_ok X G (fact_of c (List.mem_append_right _ (List.mem_append_right _ (List.mem_append_right _ (List.mem_append_left _ (List.mem_map_of_mem hx))))))
theorem glo_all (X : K.In h) (G : h.Ns mainGlobals mg) (c : SaysC (faOf fn ex hd) fn cst K) {i : Nat} {d : He.DefD} (e : fn[i]? = some d) (ha : d.at_.2 = none) : mg d.at_.1 = some (.ref (He.fAd K d.at_)):=by
 have:=He.glo_ok X G (fact_of c (List.mem_append_left _ (List.mem_map_of_mem (f:=fun d : He.DefD=>He.Fa.glo d.at_.1) (List.mem_of_getElem? e))))
 have q : He.fAd K d.at_ = He.ga K d.at_.1:=by
  unfold He.fAd
  rw [ha]
 rw [q]
 exact this
theorem mem_lookup' {l : List (Nat × Str)} {n : Nat} {x : Str} (h : l.lookup n = some x) : (n,x) ∈ l:=by
 induction l with
 | nil=>cases h
 | cons q r ih=>
  obtain ⟨m,y⟩:=q
  rw [List.lookup_cons] at h
  split at h
  · rename_i z
    cases h
    rw [eq_of_beq z]
    exact List.mem_cons_self
  · exact List.mem_cons_of_mem _ (ih h)
theorem exc_all (X : K.In h) (G : h.Ns mainGlobals mg) (c : SaysC (faOf fn ex hd) fn cst K) (n : Nat) (x : Str) (e : ex.lookup n = some x) : ExcK K mg (clOf ex K n) x:=by
 have m : (n,x) ∈ ex:=mem_lookup' e
 have h1:=He.glo_ok X G (fact_of c (List.mem_append_right _ (List.mem_append_left _ (List.mem_map_of_mem (f:=fun q : Nat × Str=>He.Fa.glo q.2) m))))
 obtain ⟨a1,a2,a3,a4⟩:=He.exc_ok (fact_of c (List.mem_append_right _ (List.mem_append_right _ (List.mem_append_left _ (List.mem_map_of_mem (f:=fun q : Nat × Str=>He.Fa.exc q.2) m)))))
 have e2 : clOf ex K n = He.ga K x:=by
  unfold clOf
  rw [e]
 rw [e2]
 exact ⟨a1,h1,a2,a3,a4⟩
def csOf (cst : List (Str × D)) (g : Nat) : D:=match cst[g]? with
 | some q=>q.2
 | none=>.non
theorem con_all {fa : List He.Fa} (X : K.In h) (G : h.Ns mainGlobals mg) (c : SaysC fa fn cst K) (g : Nat) (x : Str) (e : (cst.map (·.1))[g]? = some x) : ∃ u v,mg x = some u ∧ RelV v u ∧ ∀ T,Rp K T (fun _=>none) v (csOf cst g):=by
 rw [List.getElem?_map] at e
 obtain ⟨q,e1,e2⟩:=Option.map_eq_some_iff.mp e
 subst e2
 have e3 : csOf cst g = q.2:=by
  unfold csOf
  rw [e1]
 rw [e3]
 exact mgB_ok X G (c.con g e1)
theorem conT_all {fa : List He.Fa} (X : K.In h) (G : h.Ns mainGlobals mg) (c : SaysC fa fn cst K) (g : Nat) (x : Str) (e : (cst.map (·.1))[g]? = some x) (z : isSq false (csOf cst g) = true) : ∃ (a : Addr) (o : Obj) (xs : List V) (ds : List D),mg x = some (.ref a) ∧ K.lookup a = some o ∧ o.cls = .type "tuple" ∧ o.dict = none ∧ csOf cst g = .tup ds ∧ SqT K (fun _=>none) a xs ∧ ∀ T,RpL K T (fun _=>none) xs ds:=by
 rw [List.getElem?_map] at e
 obtain ⟨q,e1,e2⟩:=Option.map_eq_some_iff.mp e
 subst e2
 have e3 : csOf cst g = q.2:=by
  unfold csOf
  rw [e1]
 have hc:=c.con g e1
 rw [e3] at z ⊢
 obtain ⟨x,d⟩:=q
 cases d with
 | tup ds=>
  obtain ⟨a,o,xs,h1,h2,h3,h4,h5,h6⟩:=mgT_ok X G hc
  exact ⟨a,o,xs,ds,h1,h2,h3,h4,rfl,h5,h6⟩
 | _=>cases z
def okDefs (tb : Tb) (lks : List Str) (fs : List Fd) (fn : List He.DefD) : Bool:=decide (fs.length ≤ fn.length) && (fs.zip fn).all (fun q=>fdB tb q.1 q.2 && (!q.1.lk || (decide (q.2.name ∈ lks) && decide (q.2.at_ = (q.2.name,none))))) && fn.all fun d=>decide (d.at_.2 = none) && decide (d.name = d.qual)
structure ShOk (p : Pg) (fn : List He.DefD) : Prop where
 sh : ∀ (K : PySem.W.Frag) (mg : Str → Option Value) (ffd : Nat → FuncData),(∀ (i : Nat) (d : He.DefD),fn[i]? = some d → FunAt K d (ffd i)) → (∀ (i : Nat) (d : He.DefD),fn[i]? = some d → mg d.at_.1 = some (.ref (He.fAd K d.at_))) →
  ∀ (j : Nat) (sh : Sh),p.tb.sh[j]? = some sh → ∃ f : Fn,p.fs[sh.fn]? = some f ∧ Bnd K mg sh (fadOf fn K sh.fn) (ffd sh.fn) f.ps
theorem tab_of {lks : List Str} (nd : ((tfOf hd lks).map fun q=>(He.cT K q).2).Nodup) {q : He.Defn} (hq : q ∈ tfOf hd lks) : ((He.cT K q).2,lamQ q.1) ∈ tbOf hd lks K ∧ ∀ p ∈ tbOf hd lks K,p.1 = (He.cT K q).2 → p.2 = lamQ q.1:=by
 refine ⟨List.mem_map.mpr ⟨q,hq,rfl⟩,fun p hp e=>?_⟩
 obtain ⟨q',hq',rfl⟩:=List.mem_map.mp hp
 have e : (He.cT K q').2 = (He.cT K q).2:=e
 have : q' = q:=by
  have inj : ∀ (l : List He.Defn),(l.map fun q=>(He.cT K q).2).Nodup → ∀ a ∈ l,∀ b ∈ l,(He.cT K a).2 = (He.cT K b).2 → a = b:=by
   intro l
   induction l with
   | nil=>intro _ a ha;cases ha
   | cons x l ih=>
    intro hn a ha b hb e
    rw [List.map_cons,List.nodup_cons] at hn
    rcases List.mem_cons.mp ha with ha | ha
    · rcases List.mem_cons.mp hb with hb | hb
      · rw [ha,hb]
      · exact absurd (List.mem_map.mpr ⟨b,hb,by rw [← e,ha]⟩) hn.1
    · rcases List.mem_cons.mp hb with hb | hb
      · exact absurd (List.mem_map.mpr ⟨a,ha,by rw [e,hb]⟩) hn.1
      · exact ih hn.2 a ha b hb e
  exact inj _ nd q' hq' q hq e
 rw [this]
theorem mkHd {lks : List Str} {fs : List Fd} {shs : List Sh} (P : Program) (w : World) (base : Heap) (seer : base.NoSeer) (tree : P.given.tree = none) (X : K.In h) (G : h.Ns mainGlobals mg) (c : SaysC (faOf fn ex hd) fn cst K) (ok : okDefs ⟨shs,cst.map (·.1),ex,hd⟩ lks fs fn = true) (so : ShOk ⟨⟨shs,cst.map (·.1),ex,hd⟩,fs.map .df,csOf cst⟩ fn) (n9 : hd = true → nineB ex K = true)
  {ffd : Nat → FuncData} (hf : ∀ (i : Nat) (d : He.DefD),fn[i]? = some d → FunAt K d (ffd i)) (nd : ((tfOf hd lks).map fun q=>(He.cT K q).2).Nodup) (TB : ∀ q ∈ tfOf hd lks,LamX.TabB base mg (He.cT K q).1 (He.cT K q).2) (hH : hd = true → HdH ⟨⟨shs,cst.map (·.1),ex,hd⟩,fs.map .df,csOf cst⟩ K mg (clOf ex K)) : Hd ⟨⟨shs,cst.map (·.1),ex,hd⟩,fs.map .df,csOf cst⟩ P w K mg base (clOf ex K) (fadOf fn K) ffd (tbOf hd lks K):=by
 obtain ⟨ok,o3⟩:=and2 ok
 obtain ⟨o1,o2⟩:=and2 ok
 have at_ : ∀ (i : Nat) (d : He.DefD),fn[i]? = some d → d.at_.2 = none ∧ d.name = d.qual:=fun i d e=>by
  have:=List.all_eq_true.mp o3 d (List.mem_of_getElem? e)
  obtain ⟨a,b⟩:=and2 this
  exact ⟨of_decide_eq_true a,of_decide_eq_true b⟩
 refine ⟨seer,tree,free_all X G c,con_all X G c,conT_all X G c,exc_all X G c,fun z=>(nineB_ok (n9 z)).1,so.sh K mg ffd hf fun i d e=>glo_all X G c e (at_ i d e).1,fun i f e=>?_,fun i ps g e=>?_,hH⟩
 · have e : (fs.map Fn.df)[i]? = some (.df f):=e
   rw [List.getElem?_map] at e
   obtain ⟨f',e1,e2⟩:=Option.map_eq_some_iff.mp e
   cases e2
   have hi : i < fs.length:=(List.getElem?_eq_some_iff.mp e1).1
   have hl:=of_decide_eq_true o1
   have e3 : fn[i]? = some fn[i]:=List.getElem?_eq_getElem (by omega)
   have hz : (fs.zip fn)[i]? = some (f,fn[i]):=by
    rw [List.getElem?_zip_eq_some]
    exact ⟨e1,e3⟩
   have:=List.all_eq_true.mp o2 _ (List.mem_of_getElem? hz)
   obtain ⟨this,h4⟩:=and2 this
   obtain ⟨h1,h3⟩:=and2 (show (scB f.N f.ps fn[i].scope && mSs _ f.N ⟨fn[i].scope,fun _=>true,f.lk,f.lk,true⟩ f.body fn[i].body && decide (fn[i].name = fn[i].qual)) = true from this)
   obtain ⟨h1,h2⟩:=and2 h1
   have F:=hf i _ e3
   have h3 : fn[i].name = fn[i].qual:=of_decide_eq_true h3
   have ea : fadOf fn K i = He.fAd K fn[i].at_:=by
    unfold fadOf
    rw [e3]
   have F : FunD K fn[i].name fn[i].qual fn[i].params fn[i].body fn[i].scope (fn[i].dvs K) (fn[i].kws K) (fadOf fn K i) (ffd i):=by
    rw [ea]
    exact F
   refine ⟨fn[i].name,fn[i].params,fn[i].body,fn[i].scope,fn[i].dvs K,fn[i].kws K,?_,scB_ok h1,h2,fun z c0 hc=>?_⟩
   · rw [← h3] at F
     exact F
   · have h4 : (!f.lk || (decide (fn[i].name ∈ lks) && decide (fn[i].at_ = (fn[i].name,none)))) = true:=h4
     rw [z] at h4
     obtain ⟨h4,h5⟩:=and2 h4
     have h4 : fn[i].name ∈ lks:=of_decide_eq_true h4
     have h5 : fn[i].at_ = (fn[i].name,none):=of_decide_eq_true h5
     have hq : ((fn[i].name,none) : He.Defn) ∈ tfOf hd lks:=List.mem_append_right _ (List.mem_map.mpr ⟨_,h4,rfl⟩)
     obtain ⟨t1,t2⟩:=tab_of nd hq
     refine ⟨_,?_,t1,t2⟩
     have tb0:=TB _ hq
     obtain ⟨oc,od,dV,kV,doc,pm,an,cdv,ct,osl,efd,lkL,_,_,_⟩:=F.ex
     rw [ea,h5] at lkL
     have e2 : (He.cT K ((fn[i].name,none) : He.Defn)).1 = c0:=He.codeOf_eq lkL hc
     rw [e2] at tb0
     exact tb0
 · have e : (fs.map Fn.df)[i]? = some (.nat ps g):=e
   rw [List.getElem?_map] at e
   obtain ⟨f',e1,e2⟩:=Option.map_eq_some_iff.mp e
   cases e2
end
def okLaw (tb : Tb) (N : List Str) (L : Ss) (dL dB : He.DefD) : Bool:=scB N ["script"] dL.scope && mLaw tb N ⟨dL.scope,fun _=>true,true,tb.hd,true⟩ L dL.body && (scB [] [] dB.scope && isBegun dB.body) && (decide (dL.dfl.length = 0) && decide (dL.kwd.length = 0) && decide (dB.dfl.length = 0) && decide (dB.kwd.length = 0)) && (decide (dL.name = dL.qual) && decide (dB.name = dB.qual) && decide (dL.at_ = (dL.name,none)) && decide (dB.at_ = (dB.name,none)) && decide (dL.name = "law") && decide (dB.name = "_law_begun"))
def okHeard (dH : He.DefD) (ex : List (Nat × Str)) : Bool:=scB (hN (nsOf ex)) ["deed"] dH.scope && mHN (nsOf ex) dH.scope dH.body && (decide (dH.dfl.length = 0) && decide (dH.kwd.length = 0)) && (decide (dH.name = dH.qual) && decide (dH.at_ = (dH.name,none)) && decide (dH.name = hNm (nsOf ex))) && decide (ex.take 9 = nineE (nsOf ex))
structure HearIs (fn : List He.DefD) (ex : List (Nat × Str)) (dH : He.DefD) (iH : Nat) : Prop where
 at_ : fn[iH]? = some dH
 ok : okHeard dH ex = true
 bn : ∀ (kV doc pm : Value) (an : Option Addr) (cdv ct : Value) (us : List Value),us.length = 1 → bindArgs (PySem.W.fnOf dH.name dH.qual dH.params dH.body dH.scope .none kV doc pm an cdv ct) ⟨us,[]⟩ = pure ((["deed"] : List Str).zip us)
theorem lookup_take {ex : List (Nat × Str)} {n : Nat} {x : Str} (h : (ex.take 9).lookup n = some x) : ex.lookup n = some x:=by
 rw [← List.take_append_drop 9 ex,List.lookup_append,h]
 rfl
theorem mkHdH {fn : List He.DefD} {ex : List (Nat × Str)} {cst : List (Str × D)} {K : PySem.W.Frag} {h : Heap} {mg : Str → Option Value} {fs : List Fn} {shs : List Sh} {csf : Nat → D} {ffd : Nat → FuncData} {dH : He.DefD} {iH : Nat} (X : K.In h) (G : h.Ns mainGlobals mg) (c : SaysC (faOf fn ex true) fn cst K) (hf : ∀ (i : Nat) (d : He.DefD),fn[i]? = some d → FunAt K d (ffd i))
  (n9 : nineB ex K = true) (Hr : HearIs fn ex dH iH) : HdH ⟨⟨shs,cst.map (·.1),ex,true⟩,fs,csf⟩ K mg (clOf ex K):=by
 have okH:=Hr.ok
 unfold okHeard at okH
 obtain ⟨okH,o5⟩:=and2 okH
 obtain ⟨okH,o4⟩:=and2 okH
 obtain ⟨okH,o3⟩:=and2 okH
 obtain ⟨o1,o2⟩:=and2 okH
 obtain ⟨o3a,o3b⟩:=and2 o3
 obtain ⟨o4,o4c⟩:=and2 o4
 obtain ⟨o4a,o4b⟩:=and2 o4
 have F:=hf iH dH Hr.at_
 have z1 : dH.dvs K = []:=by
  have:=List.length_eq_zero_iff.mp (of_decide_eq_true o3a)
  unfold He.DefD.dvs
  rw [this]
  rfl
 have z2 : dH.kws K = []:=by
  have:=List.length_eq_zero_iff.mp (of_decide_eq_true o3b)
  unfold He.DefD.kws
  rw [this]
  rfl
 unfold FunAt at F
 rw [z1,z2] at F
 have b:=FunD.bindsN (ps:=["deed"]) F Hr.bn
 have at3:=of_decide_eq_true o4b
 have g : mg dH.name = some (.ref (He.fAd K dH.at_)):=by
  have g:=glo_all X G c Hr.at_ (by rw [at3])
  rw [at3] at g ⊢
  exact g
 have e1 : dH.name = dH.qual:=of_decide_eq_true o4a
 have e2 : dH.name = hNm (nsOf ex):=of_decide_eq_true o4c
 rw [← e1,e2] at F
 rw [e2] at g
 refine ⟨⟨_,He.ga K "FormError",_,_,_,_,F,b,scB_ok o1,o2,g,⟨?_,(nineB_ok n9).2⟩⟩,fun n x e=>?_⟩
 · exact He.glo_ok X G (fact_of c (List.mem_append_right _ (List.mem_append_right _ (List.mem_append_right _ (List.mem_append_right _ (by simp))))))
 · show ex.lookup n = some x
   refine lookup_take ?_
   rw [of_decide_eq_true o5]
   exact e
theorem lawFacts {lks : List Str} {fn : List He.DefD} {ex : List (Nat × Str)} {hd : Bool} {cst : List (Str × D)} {K : PySem.W.Frag} {h : Heap} {mg : Str → Option Value} {fs : List Fd} {shs : List Sh} {P : Program} {w : World} {f : Addr} (X : K.In h) (G : h.Ns mainGlobals mg) (c : SaysC (faOf fn ex hd) fn cst K)
  (ok : okDefs ⟨shs,cst.map (·.1),ex,hd⟩ lks fs fn = true) (so : ShOk ⟨⟨shs,cst.map (·.1),ex,hd⟩,fs.map .df,csOf cst⟩ fn) (n9 : hd = true → nineB ex K = true) (nd : ((tfOf hd lks).map fun q=>(He.cT K q).2).Nodup) {N : List Str} {L : Ss} {dL dB dH : He.DefD} {iL iB iH k : Nat} (eL : fn[iL]? = some dL) (eB : fn[iB]? = some dB) (eH : hd = true → HearIs fn ex dH iH) (tree : P.given.tree = none) {d0 : He.DefD} (e0 : fn[0]? = some d0)
  (okL : okLaw ⟨shs,cst.map (·.1),ex,hd⟩ N L dL dB = true) (hfa : mg ("law" : Str) = some (.ref f))
  (bL : ∀ (kV doc pm : Value) (an : Option Addr) (cdv ct : Value) (us : List Value),us.length = 1 → bindArgs (PySem.W.fnOf dL.name dL.qual dL.params dL.body dL.scope .none kV doc pm an cdv ct) ⟨us,[]⟩ = pure ((["script"] : List Str).zip us))
  (bB : ∀ (kV doc pm : Value) (an : Option Addr) (cdv ct : Value) (us : List Value),us.length = 0 → bindArgs (PySem.W.fnOf dB.name dB.qual dB.params dB.body dB.scope .none kV doc pm an cdv ct) ⟨us,[]⟩ = pure (([] : List Str).zip us)) (hk : 1 ≤ k)
  (hev : ∀ ns : List Int,ns.length ≤ 63 → (∀ z ∈ ns,Builtin.Int.intBits z ≤ 1048576) → ∃ r t,evSs (gam ⟨⟨shs,cst.map (·.1),ex,hd⟩,fs.map .df,csOf cst⟩ ns k) (csOf cst) L (startL N ns) ⟨0,[]⟩ = .ok (.ret (.bl true),r) t) :
  ∃ fd : FuncData,(∀ (s : Shared) (v : Value),BindsTo s fd ⟨[v],[]⟩ [("script",v)]) ∧ ∀ base : Heap,K.In base → base.Ns mainGlobals mg → (∀ p ∈ (tfOf hd lks).map (He.cT K),LamX.TabB base mg p.1 p.2) → base.NoSeer → FnOk P w K mg base (CX P w) (k + 33 + 1) f fd ["script"] (spLaw K (tbOf hd lks K)):=by
 obtain ⟨ffd,hf⟩:=fun_all c e0
 have FL:=hf iL dL eL
 have FB:=hf iB dB eB
 unfold okLaw at okL
 obtain ⟨okL,o4⟩:=and2 okL
 obtain ⟨okL,o3⟩:=and2 okL
 obtain ⟨okL,o2⟩:=and2 okL
 obtain ⟨o1a,o1b⟩:=and2 okL
 obtain ⟨o2a,o2b⟩:=and2 o2
 obtain ⟨o3,o3d⟩:=and2 o3
 obtain ⟨o3,o3c⟩:=and2 o3
 obtain ⟨o3a,o3b⟩:=and2 o3
 obtain ⟨o4,n6⟩:=and2 o4
 obtain ⟨o4,n5⟩:=and2 o4
 obtain ⟨o4,n4⟩:=and2 o4
 obtain ⟨o4,n3⟩:=and2 o4
 obtain ⟨n1,n2⟩:=and2 o4
 have z1 : dL.dvs K = []:=by
  have:=List.length_eq_zero_iff.mp (of_decide_eq_true o3a)
  unfold He.DefD.dvs
  rw [this]
  rfl
 have z2 : dL.kws K = []:=by
  have:=List.length_eq_zero_iff.mp (of_decide_eq_true o3b)
  unfold He.DefD.kws
  rw [this]
  rfl
 have z3 : dB.dvs K = []:=by
  have:=List.length_eq_zero_iff.mp (of_decide_eq_true o3c)
  unfold He.DefD.dvs
  rw [this]
  rfl
 have z4 : dB.kws K = []:=by
  have:=List.length_eq_zero_iff.mp (of_decide_eq_true o3d)
  unfold He.DefD.kws
  rw [this]
  rfl
 have FL : FunD K dL.name dL.qual dL.params dL.body dL.scope [] [] (He.fAd K dL.at_) (ffd iL):=by
  have FL:=FL
  unfold FunAt at FL
  rw [z1,z2] at FL
  exact FL
 have FB : FunD K dB.name dB.qual dB.params dB.body dB.scope [] [] (He.fAd K dB.at_) (ffd iB):=by
  have FB:=FB
  unfold FunAt at FB
  rw [z3,z4] at FB
  exact FB
 have at3:=of_decide_eq_true n3
 have at4:=of_decide_eq_true n4
 have gL : mg dL.name = some (.ref (He.fAd K dL.at_)):=by
  have g:=glo_all X G c eL (by rw [at3])
  rw [at3] at g ⊢
  exact g
 have gB : mg dB.name = some (.ref (He.fAd K dB.at_)):=by
  have g:=glo_all X G c eB (by rw [at4])
  rw [at4] at g ⊢
  exact g
 rw [of_decide_eq_true n5,hfa] at gL
 rw [of_decide_eq_true n6] at gB
 have ef : f = He.fAd K dL.at_:=by
  injection gL with q
  injection q
 have b:=FunD.bindsA (ps:=["script"]) FL bL
 refine ⟨ffd iL,fun s v=>b s [v] rfl,fun base _ _ TB seer=>?_⟩
 have hd':=mkHd P w base seer tree X G c ok so n9 hf nd (fun q hq=>TB _ (List.mem_map.mpr ⟨q,hq,rfl⟩)) (fun z=>by
  subst z
  exact mkHdH X G c hf (n9 rfl) (eH rfl))
 have atL : dL.at_ = (("law" : Str),none):=by
  have:=of_decide_eq_true n3
  rw [of_decide_eq_true n5] at this
  exact this
 obtain ⟨oc,od,dV,kV,doc,pm,an,cdv,ct,osl,efd,lkL,_,_,_⟩:=FL.ex
 have n1 : dL.name = dL.qual:=of_decide_eq_true n1
 have n2 : dB.name = dB.qual:=of_decide_eq_true n2
 rw [ef]
 rw [← n1] at FL
 have bb:=FunD.bindsN (ps:=[]) FB bB
 rw [← n2] at FB
 refine lawOk hd' FL (scB_ok o1a) o1b FB (scB_ok o2a) o2b bb gB hk (fun z=>?_) hev
 have z : hd = true:=z
 subst z
 have hq : (("law",none) : He.Defn) ∈ tfOf true lks:=List.mem_append_left _ (by simp)
 obtain ⟨t1,t2⟩:=tab_of nd hq
 have e3 : dL.name = "law" := of_decide_eq_true n5
 refine ⟨mkHdH X G c hf (n9 rfl) (eH rfl),(He.cT K (("law" : Str),none)).2,by rw [e3];exact t1,by rw [e3];exact t2,fun c0 hc=>?_⟩
 have:=TB (He.cT K (("law" : Str),none)) (List.mem_map.mpr ⟨_,hq,rfl⟩)
 have e2 : (He.cT K (("law" : Str),none)).1 = c0:=by
  rw [atL] at lkL
  exact He.codeOf_eq lkL hc
 rw [e2] at this
 exact this
def LawAtP (l : PySem.W.OpenLaw) (w : World) (K : PySem.W.Frag) (CX : CXT) (k n : Nat) (x : Str) (mg : Str → Option Value) (fa : Addr) (h : Heap) : Prop:=
 ∃ (fd : FuncData) (cs : List (Addr × Addr)) (sp : Sp),(∀ p ∈ cs,h.get? p.2 = some { cls:=.none,data:=.fields #[] }) ∧ (∀ p ∈ cs,K.lookup p.2 = none) ∧ (∀ p ∈ cs,PySem.W.CodeHd h p.1 p.2) ∧ (∀ (s : Shared) (u : Value),BindsTo s fd ⟨[u],[]⟩ [(x,u)]) ∧
  (∀ (H : Hp) (a : Addr) (ns : List Int),ns.length ≤ n → (∀ z ∈ ns,Builtin.Int.intBits z ≤ 1048576) → (∀ p ∈ cs,H p.2 = some (.tbl #[])) → SqL K H a (ns.map V.int) → sp [.ref a] H (fun v _=>v = .bl true) fun _ _ _=>False) ∧
  ∀ base : Heap,K.In base → base.Ns mainGlobals mg → (∀ p ∈ cs,LamX.TabB base mg p.1 p.2) → base.NoSeer → FnOk l.prog w K mg base CX k fa fd [x] sp
theorem in_app {K E : PySem.W.Frag} {h : Heap} (x : PySem.W.Frag.In (K ++ E) h) : K.In h:=fun a o e=>x a o (by rw [List.lookup_append,e];rfl)
theorem fnOk_more {P : Program} {w : World} {K E : PySem.W.Frag} {mg : Str → Option Value} {base : Heap} {CX : CXT} {k : Nat} {f : Addr} {fd : FuncData} {ps : List Str} {sp : Sp} (F : FnOk P w K mg base CX k f fd ps sp) : FnOk P w (K ++ E) mg base CX k f fd ps sp:=
 ⟨F.len,fun A outer s H args us vs Q E hr e hb hv hs=>F.run A outer s H args us vs Q E hr ⟨e.frames,⟨in_app e.mod.kin,e.mod.glob,e.mod.blt,e.mod.nolimit⟩,e.bs,e.bsz,e.funs,e.frf,e.hok,e.bare⟩ hb hv hs⟩
theorem seer_objs {h : Heap} (x : h.NoSeer) : ∃ E : PySem.W.Frag,PySem.W.Frag.In E h ∧ (∀ a o,E.lookup a = some o → (∃ es ep,o.data = .dict es ep) ∨ o.cls = .type "module") ∧
  ∀ (base : Heap) (mg : Str → Option Value),PySem.W.Frag.In E base → h.Ns mainGlobals mg → base.Ns mainGlobals mg → base.NoSeer:=by
 obtain ⟨mc,⟨o1,es1,ep1,a1,b1,c1⟩,d1⟩:=x.statics
 obtain ⟨mm,⟨o2,es2,ep2,a2,b2,c2⟩,d2⟩:=x.mods
 obtain ⟨mg0,bm,ob,g0,e3,a3,b3,c3⟩:=x.main
 obtain ⟨mb,⟨o4,es4,ep4,a4,b4,c4⟩,d4⟩:=x.imp
 have one : ∀ {a : Addr} {o : Obj} {p : Addr × Obj} {E : PySem.W.Frag},(p :: E).lookup a = some o → (a = p.1 ∧ o = p.2) ∨ E.lookup a = some o:=by
  intro a o p E e
  obtain ⟨b,u⟩:=p
  simp only [List.lookup] at e
  split at e
  · rename_i z
    exact .inl ⟨eq_of_beq z,(Option.some.inj e).symm⟩
  · exact .inr e
 have key : ∀ {a : Addr} {o : Obj},([(cStatics,o1),(sysModules,o2),(bm,ob),(builtinsNs,o4)] : PySem.W.Frag).lookup a = some o → h.get? a = some o ∧ ((∃ es ep,o.data = .dict es ep) ∨ o.cls = .type "module"):=by
  intro a o e
  rcases one e with ⟨rfl,rfl⟩ | e
  · exact ⟨a1,.inl ⟨_,_,b1⟩⟩
  rcases one e with ⟨rfl,rfl⟩ | e
  · exact ⟨a2,.inl ⟨_,_,b2⟩⟩
  rcases one e with ⟨rfl,rfl⟩ | e
  · exact ⟨a3,.inr b3⟩
  rcases one e with ⟨rfl,rfl⟩ | e
  · exact ⟨a4,.inl ⟨_,_,b4⟩⟩
  · cases e
 have has : ∀ {a : Addr} {u : Obj},(a,u) ∈ ([(cStatics,o1),(sysModules,o2),(bm,ob),(builtinsNs,o4)] : PySem.W.Frag) → h.get? a = some u → ([(cStatics,o1),(sysModules,o2),(bm,ob),(builtinsNs,o4)] : PySem.W.Frag).lookup a = some u:=by
  intro a u m e
  cases q : ([(cStatics,o1),(sysModules,o2),(bm,ob),(builtinsNs,o4)] : PySem.W.Frag).lookup a with
  | some v=>
   rw [← e,(key q).1]
  | none=>
   rw [List.lookup_eq_none_iff] at q
   exact absurd (q _ m) (by simp)
 refine ⟨[(cStatics,o1),(sysModules,o2),(bm,ob),(builtinsNs,o4)],fun a o e=>(key e).1,fun a o e=>(key e).2,fun base mg hE hg hb=>?_⟩
 have m1 : base.get? cStatics = some o1:=hE _ _ (has (by simp) a1)
 have m2 : base.get? sysModules = some o2:=hE _ _ (has (by simp) a2)
 have m3 : base.get? bm = some ob:=hE _ _ (has (by simp) a3)
 have m4 : base.get? builtinsNs = some o4:=hE _ _ (has (by simp) a4)
 have em : mg0 = mg:=g0.eq_nsMap.trans hg.eq_nsMap.symm
 exact ⟨⟨mc,⟨o1,es1,ep1,m1,b1,c1⟩,d1⟩,⟨mm,⟨o2,es2,ep2,m2,b2,c2⟩,d2⟩,⟨mb,⟨o4,es4,ep4,m4,b4,c4⟩,d4⟩,mg,bm,ob,hb,em ▸ e3,m3,b3,c3⟩
theorem walk_py {l : PySem.W.OpenLaw} {n k : Nat} {q : Program} {loose : List Str} {XP : (Str → Option Value) → Heap → Prop} {YP : World → Heap → Prop} {d : DefRec} {CX : World → CXT} {x : Str}
  (hn : l.most = some n) (hn2 : n ≤ sizeLine) (hdf : d.params.defaults = []) (imp : importsNone q = true) (hr : Room k callerA)
  (F : ∀ (w : World) (mg : Str → Option Value) (fa : Addr) (h : Heap),YP w h → h.Ns mainGlobals mg → mg d.name = some (.ref fa) → ∃ K : PySem.W.Frag,K.In h ∧ LawAtP l w K (CX w) k n x mg fa h)
  (hCX : ∀ (w : World) (H : Hp) (s : Shared) (e : Value) (s' : Shared),CX w [] H s (fun _ _ _=>False) e s' → False) : PySem.W.WalkO q loose XP YP l.row.toRowW d [] (fun f vs=>PySem.call f vs):=by
 refine Att.attach_callB hn hdf fun w s0 s1 mg mb fa o pm cd doc a vs ns G Y ho hd hcd hmg hob hin hle hbi hge=>?_
 obtain ⟨K,KX,fd,cs,sp,hT,nT,C,hb,hsp,hF⟩:=F w mg fa _ Y G.T.g hmg
 obtain ⟨E,EX,kinds,seer⟩:=seer_objs (G.T.seer imp)
 have look : ∀ b p,s1.heap.get? b = some p → (∀ es ep,p.data ≠ .dict es ep) → p.cls ≠ .type "module" → E.lookup b = none:=fun b p e z1 z2=>by
  cases q : E.lookup b with
  | none=>rfl
  | some u=>
   have:=EX b u q
   rw [e] at this
   cases this
   rcases kinds b _ q with ⟨es,ep,z⟩ | z
   · exact absurd z (z1 _ _)
   · exact absurd z z2
 have KE : PySem.W.Frag.In (K ++ E) s1.heap:=fun b p e=>by
  rw [List.lookup_append] at e
  cases q : K.lookup b with
  | some u=>
   rw [q] at e
   exact KX b p (by rw [q];exact e)
  | none=>
   rw [q] at e
   exact EX b p e
 refine LamX.law_callTs KE G.T.g G.T.b G.T.builtins G.T.nolimit hge hT (fun p hp=>?_) C G.T.bmain hob hin (Nat.le_trans hle hn2) hr (fun base kin glob tab=>?_) hb (fun H hH hS=>hsp H a ns hle hbi hH ?_) fun H e s'=>hCX w H s1 e s'
 · rw [List.lookup_append,nT p hp,look _ _ (hT p hp) (fun _ _ z=>by cases z) (fun z=>by cases z)]
   rfl
 · refine fnOk_more (hF base (in_app kin) glob tab (seer base mg (fun b p e=>kin b p ?_) G.T.g glob))
   rw [List.lookup_append]
   cases q : K.lookup b with
   | none=>exact e
   | some u=>
    have u1:=KX b u q
    rw [EX b p e] at u1
    exact u1.symm
 · rcases hS with hS | ⟨p,its,m,e,r⟩
   · exact .inl hS
   · rw [List.lookup_append,look a _ hob (fun _ _ z=>by cases z) (fun z=>absurd (show Value.type "list" = Value.type "module" from z) (by decide)),Option.or_none] at e
     exact .inr ⟨p,its,m,e,r⟩
theorem lawAt {l : PySem.W.OpenLaw} {lks : List Str} {fn : List He.DefD} {ex : List (Nat × Str)} {hd : Bool} {cst : List (Str × D)} {K : PySem.W.Frag} {h : Heap} {mg : Str → Option Value} {fs : List Fd} {shs : List Sh} {w : World} {f : Addr} (X : K.In h) (G : h.Ns mainGlobals mg) (c : He.SaysX (faOf fn ex hd) fn [] (tfOf hd lks) (exB hd lks ex cst) w h K)
  (ok : okDefs ⟨shs,cst.map (·.1),ex,hd⟩ lks fs fn = true) (so : ShOk ⟨⟨shs,cst.map (·.1),ex,hd⟩,fs.map .df,csOf cst⟩ fn) {N : List Str} {L : Ss} {dL dB dH : He.DefD} {iL iB iH k : Nat} (eL : fn[iL]? = some dL) (eB : fn[iB]? = some dB) (eH : hd = true → HearIs fn ex dH iH) (tree : l.prog.given.tree = none) {d0 : He.DefD} (e0 : fn[0]? = some d0)
  (okL : okLaw ⟨shs,cst.map (·.1),ex,hd⟩ N L dL dB = true) (hfa : mg ("law" : Str) = some (.ref f))
  (bL : ∀ (kV doc pm : Value) (an : Option Addr) (cdv ct : Value) (us : List Value),us.length = 1 → bindArgs (PySem.W.fnOf dL.name dL.qual dL.params dL.body dL.scope .none kV doc pm an cdv ct) ⟨us,[]⟩ = pure ((["script"] : List Str).zip us))
  (bB : ∀ (kV doc pm : Value) (an : Option Addr) (cdv ct : Value) (us : List Value),us.length = 0 → bindArgs (PySem.W.fnOf dB.name dB.qual dB.params dB.body dB.scope .none kV doc pm an cdv ct) ⟨us,[]⟩ = pure (([] : List Str).zip us)) (hk : 1 ≤ k)
  (hev : ∀ ns : List Int,ns.length ≤ 63 → (∀ z ∈ ns,Builtin.Int.intBits z ≤ 1048576) → ∃ r t,evSs (gam ⟨⟨shs,cst.map (·.1),ex,hd⟩,fs.map .df,csOf cst⟩ ns k) (csOf cst) L (startL N ns) ⟨0,[]⟩ = .ok (.ret (.bl true),r) t) : LawAtP l w K (CX l.prog w) (k + 33 + 1) 63 "script" mg f h:=by
 obtain ⟨m1,m3⟩:=and2 (show ((cst.all fun p=>mgB K p.1 p.2) && (!hd || nineB ex K) && decide (((tfOf hd lks).map fun q=>(He.cT K q).2).Nodup)) = true from c.more)
 obtain ⟨m1,m2⟩:=and2 m1
 obtain ⟨fd,hb,hF⟩:=lawFacts (P:=l.prog) (w:=w) X G ⟨c.t.d,m1⟩ ok so (fun z=>by rw [z] at m2;exact m2) (of_decide_eq_true m3) eL eB eH tree e0 okL hfa bL bB hk hev
 have mem : ∀ {φ : Addr × Addr → Prop},(∀ q ∈ tfOf hd lks,φ (He.cT K q)) → ∀ p ∈ (tfOf hd lks).map (He.cT K),φ p:=fun {φ} h p hp=>by
  obtain ⟨q,hq,e⟩:=List.mem_map.mp hp
  rw [← e]
  exact h q hq
 refine ⟨fd,(tfOf hd lks).map (He.cT K),spLaw K (tbOf hd lks K),mem c.empty,mem c.out,mem fun q hq=>PySem.W.codeHd_of_K X (c.hd q hq),hb,fun H a ns hl hbits hT hS=>⟨a,ns,rfl,hl,hbits,hS,fun p hp=>?_,fun _=>rfl⟩,hF⟩
 obtain ⟨q,hq,e⟩:=List.mem_map.mp hp
 rw [← e]
 exact hT (He.cT K q) (List.mem_map.mpr ⟨q,hq,rfl⟩)
theorem cx_no {P : Program} {w : World} {H : Hp} {s : Shared} {e : Value} {s' : Shared} (z : CX P w [] H s (fun _ _ _=>False) e s') : False:=by
 obtain ⟨_,_,_,_,_,_,_,_,_,_,_,_,z⟩:=z
 exact z
end Fm
namespace Fm
open PySem
section
variable {G : Gam} {cs : Nat → D} {r : Rho} {t : Tw}
@[simp] theorem x_ev_cst (k : Cst) : ev G cs (.cst k) r t = (fun _ t=>.ok k.d t) r t:=by first | (rw [ev_cst];done) | (rw [ev_cst];rfl)
@[simp] theorem x_ev_var (i : Nat) : ev G cs (.var i) r t = (fun r t=>match r[i]? with
  | some (.val d)=>.ok d t
  | _=>.bad) r t:=by first | (rw [ev_var];done) | (rw [ev_var];rfl)
@[simp] theorem x_ev_bor (i : Nat) : ev G cs (.bor i) r t = (fun r t=>match r[i]? with
  | some (.val d)=>.ok d t
  | some (.own d)=>.ok d t
  | _=>.bad) r t:=by first | (rw [ev_bor];done) | (rw [ev_bor];rfl)
@[simp] theorem x_ev_glob (g : Nat) : ev G cs (.glob g) r t = (fun _ t=>.ok (cs g) t) r t:=by first | (rw [ev_glob];done) | (rw [ev_glob];rfl)
@[simp] theorem x_ev_bin (op : Operator) (a b : E) : ev G cs (.bin op a b) r t = (fun r t=>(ev G cs a r t).bind fun x t1=>(ev G cs b r t1).bind fun y t2=>lift (binD op x y) t2) r t:=by first | (rw [ev_bin];done) | (rw [ev_bin];rfl)
@[simp] theorem x_ev_neg (a : E) : ev G cs (.neg a) r t = (fun r t=>(ev G cs a r t).bind fun x t1=>lift (negD x) t1) r t:=by first | (rw [ev_neg];done) | (rw [ev_neg];rfl)
@[simp] theorem x_ev_not (a : E) : ev G cs (.not a) r t = (fun r t=>(ev G cs a r t).bind fun x t1=>lift (notD x) t1) r t:=by first | (rw [ev_not];done) | (rw [ev_not];rfl)
@[simp] theorem x_ev_and (a b : E) : ev G cs (.and a b) r t = (andE (ev G cs a) (ev G cs b)) r t:=by first | (rw [ev_and];done) | (rw [ev_and];rfl)
@[simp] theorem x_ev_or (a b : E) : ev G cs (.or a b) r t = (orE (ev G cs a) (ev G cs b)) r t:=by first | (rw [ev_or];done) | (rw [ev_or];rfl)
@[simp] theorem x_ev_ite (k a b : E) : ev G cs (.ite k a b) r t = (iteE (ev G cs k) (ev G cs a) (ev G cs b)) r t:=by first | (rw [ev_ite];done) | (rw [ev_ite];rfl)
@[simp] theorem x_ev_cmp (op : CmpOp) (a b : E) : ev G cs (.cmp op a b) r t = (fun r t=>(ev G cs a r t).bind fun x t1=>(ev G cs b r t1).bind fun y t2=>lift (cmpD op x y) t2) r t:=by first | (rw [ev_cmp];done) | (rw [ev_cmp];rfl)
@[simp] theorem x_ev_ix (a b : E) : ev G cs (.ix a b) r t = (fun r t=>(ev G cs a r t).bind fun x t1=>(ev G cs b r t1).bind fun y t2=>lift (ixD x y) t2) r t:=by first | (rw [ev_ix];done) | (rw [ev_ix];rfl)
@[simp] theorem x_ev_dix (a b : E) : ev G cs (.dix a b) r t = (fun r t=>(ev G cs a r t).bind fun x t1=>(ev G cs b r t1).bind fun y t2=>lift (dixD x y) t2) r t:=by first | (rw [ev_dix];done) | (rw [ev_dix];rfl)
@[simp] theorem x_ev_tup (es : Es) : ev G cs (.tup es) r t = (fun r t=>(evs G cs es r t).bind fun xs t1=>if okLen xs.length then .ok (.tup xs) t1 else .bad) r t:=by first | (rw [ev_tup];done) | (rw [ev_tup];rfl)
@[simp] theorem x_ev_lst (es : Es) : ev G cs (.lst es) r t = (fun r t=>(evs G cs es r t).bind fun xs t1=>if okLen xs.length then .ok (.lst xs) t1 else .bad) r t:=by first | (rw [ev_lst];done) | (rw [ev_lst];rfl)
@[simp] theorem x_ev_call (i : Nat) (es ks : Es) : ev G cs (.call i es ks) r t = (fun r t=>(evs G cs es r t).bind fun xs t1=>(evs G cs ks r t1).bind fun ys t2=>G.f 0 i xs ys t2) r t:=by first | (rw [ev_call];done) | (rw [ev_call];rfl)
@[simp] theorem x_ev_blt (b : Blt) (a : E) : ev G cs (.blt b a) r t = (fun r t=>(ev G cs a r t).bind fun x t1=>lift (blt1 b x) t1) r t:=by first | (rw [ev_blt];done) | (rw [ev_blt];rfl)
@[simp] theorem x_ev_isa (a : E) (T : Ty) : ev G cs (.isa a T) r t = (fun r t=>(ev G cs a r t).bind fun x t1=>lift ((isaD x T).map D.bl) t1) r t:=by first | (rw [ev_isa];done) | (rw [ev_isa];rfl)
@[simp] theorem x_ev_get (a k d : E) : ev G cs (.get a k d) r t = (getE (ev G cs a) (ev G cs k) (ev G cs d)) r t:=by first | (rw [ev_get];done) | (rw [ev_get];rfl)
@[simp] theorem x_ev_bad : ev G cs .bad r t = (fun _ _=>.bad) r t:=by first | (rw [ev_bad];done) | (rw [ev_bad];rfl)
@[simp] theorem x_ev_tcount (i : Nat) : ev G cs (.tcount i) r t = (tcountE i) r t:=by first | (rw [ev_tcount];done) | (rw [ev_tcount];rfl)
@[simp] theorem x_ev_tget (i : Nat) (k d : E) : ev G cs (.tget i k d) r t = (tgetE i (ev G cs k) (ev G cs d)) r t:=by first | (rw [ev_tget];done) | (rw [ev_tget];rfl)
@[simp] theorem x_evO_none : evO G cs .none r t = (fun _ t=>.ok none t) r t:=by first | (rw [evO_none];done) | (rw [evO_none];rfl)
@[simp] theorem x_evO_some (e : E) : evO G cs (.some e) r t = (fun r t=>(ev G cs e r t).bind fun x t1=>.ok (some x) t1) r t:=by first | (rw [evO_some];done) | (rw [evO_some];rfl)
@[simp] theorem x_evs_nil : evs G cs .nil r t = (fun _ t=>.ok [] t) r t:=by first | (rw [evs_nil];done) | (rw [evs_nil];rfl)
@[simp] theorem x_evs_cons (e : E) (es : Es) : evs G cs (.cons e es) r t = (fun r t=>(ev G cs e r t).bind fun x t1=>(evs G cs es r t1).bind fun xs t2=>.ok (x :: xs) t2) r t:=by first | (rw [evs_cons];done) | (rw [evs_cons];rfl)
@[simp] theorem x_evI_val (e : E) : evI G cs (.val e) r t = (evV (ev G cs e)) r t:=by first | (rw [evI_val];done) | (rw [evI_val];rfl)
@[simp] theorem x_evI_rng1 (a : E) : evI G cs (.rng1 a) r t = (fun r t=>(ev G cs a r t).bind fun x t1=>match x with
  | .int j=>if okRng j then .ok (rngD 0 j.toNat) t1 else .bad
  | _=>.bad) r t:=by first | (rw [evI_rng1];done) | (rw [evI_rng1];rfl)
@[simp] theorem x_evS_asg (tg : Tg) (e : E) : evS G cs (.asg tg e) r t = (fun r t=>(ev G cs e r t).bind fun x t1=>Fm.lift ((setT tg x r).map fun r1=>(.nx,r1)) t1) r t:=by first | (rw [evS_asg];done) | (rw [evS_asg];rfl)
@[simp] theorem x_evS_par (is : List Nat) (es : Es) : evS G cs (.par is es) r t = (parE is (evs G cs es)) r t:=by first | (rw [evS_par];done) | (rw [evS_par];rfl)
@[simp] theorem x_evS_aug (i : Nat) (op : Operator) (e : E) : evS G cs (.aug i op e) r t = (augE i op (ev G cs e)) r t:=by first | (rw [evS_aug];done) | (rw [evS_aug];rfl)
@[simp] theorem x_evS_ret (e : E) : evS G cs (.ret e) r t = (fun r t=>(ev G cs e r t).bind fun x t1=>.ok (.ret x,r) t1) r t:=by first | (rw [evS_ret];done) | (rw [evS_ret];rfl)
@[simp] theorem x_evS_ite (k : E) (a b : Ss) : evS G cs (.ite k a b) r t = (iteS (ev G cs k) (evSs G cs a) (evSs G cs b)) r t:=by first | (rw [evS_ite];done) | (rw [evS_ite];rfl)
@[simp] theorem x_evS_for (tg : Tg) (it : I) (b : Ss) : evS G cs (.for tg it b) r t = (forE tg (evI G cs it) (evSs G cs b)) r t:=by first | (rw [evS_for];done) | (rw [evS_for];rfl)
@[simp] theorem x_evS_while (k : E) (b : Ss) : evS G cs (.while k b) r t = (loopW (ev G cs k) (evSs G cs b)) r t:=by first | (rw [evS_while];done) | (rw [evS_while];rfl)
@[simp] theorem x_evS_new (i : Nat) (e : E) : evS G cs (.new i e) r t = (fun r t=>(ev G cs e r t).bind fun x t1=>okSet r i (.own x) t1) r t:=by first | (rw [evS_new];done) | (rw [evS_new];rfl)
@[simp] theorem x_evS_app (i : Nat) (e : E) : evS G cs (.app i e) r t = (appE i (ev G cs e)) r t:=by first | (rw [evS_app];done) | (rw [evS_app];rfl)
@[simp] theorem x_evS_put (i : Nat) (k e : E) : evS G cs (.put i k e) r t = (putE i (ev G cs k) (ev G cs e)) r t:=by first | (rw [evS_put];done) | (rw [evS_put];rfl)
@[simp] theorem x_evS_frz (i : Nat) : evS G cs (.frz i) r t = (frzE i) r t:=by first | (rw [evS_frz];done) | (rw [evS_frz];rfl)
@[simp] theorem x_evS_tcnt (i : Nat) (e : E) : evS G cs (.tcnt i e) r t = (tcntE i (ev G cs e)) r t:=by first | (rw [evS_tcnt];done) | (rw [evS_tcnt];rfl)
@[simp] theorem x_evS_trst (i : Nat) (k e : E) : evS G cs (.trst i k e) r t = (trstE i (ev G cs k) (ev G cs e)) r t:=by first | (rw [evS_trst];done) | (rw [evS_trst];rfl)
@[simp] theorem x_evS_bad : evS G cs .bad r t = (fun _ _=>.bad) r t:=by first | (rw [evS_bad];done) | (rw [evS_bad];rfl)
@[simp] theorem x_evSs_nil : evSs G cs .nil r t = (nilE) r t:=by first | (rw [evSs_nil];done) | (rw [evSs_nil];rfl)
@[simp] theorem x_evSs_cons (s : S) (q : Ss) : evSs G cs (.cons s q) r t = consE (evS G cs s) (evSs G cs q) r t:=by rw [evSs_cons]
end
section
variable {f g : Rho → Tw → Res (Fl × Rho)} {fa fb fc : Rho → Tw → Res D} {fs : Rho → Tw → Res (List D)} {fo fp : Rho → Tw → Res (Option D)} {r : Rho} {t : Tw}
@[simp] theorem x_andE (fa fb : Rho → Tw → Res D) (r : Rho) (t : Tw) : andE fa fb r t = ( (fa r t).bind fun x t1=>match truD x with
  | some true=>fb r t1
  | some false=>.ok x t1
  | none=>.bad):=rfl
@[simp] theorem x_orE (fa fb : Rho → Tw → Res D) (r : Rho) (t : Tw) : orE fa fb r t = ( (fa r t).bind fun x t1=>match truD x with
  | some true=>.ok x t1
  | some false=>fb r t1
  | none=>.bad):=rfl
@[simp] theorem x_iteE (fc fa fb : Rho → Tw → Res D) (r : Rho) (t : Tw) : iteE fc fa fb r t = ( (fc r t).bind fun x t1=>match truD x with
  | some true=>fa r t1
  | some false=>fb r t1
  | none=>.bad):=rfl
@[simp] theorem x_getE (fa fb fc : Rho → Tw → Res D) (r : Rho) (t : Tw) : getE fa fb fc r t = ( (fa r t).bind fun x t1=>match x with
  | .dct kvs=>(fb r t1).bind fun y t2=>(fc r t2).bind fun z t3=>(match keyD y with
   | some k=>.ok ((lookD kvs k).getD z) t3
   | none=>.bad)
  | .dcn kvs=>(fb r t1).bind fun y t2=>(fc r t2).bind fun z t3=>(match keyT y with
   | some k=>.ok ((lookN kvs k).getD z) t3
   | none=>.bad)
  | _=>.bad):=rfl
@[simp] theorem x_evV (f : Rho → Tw → Res D) (r : Rho) (t : Tw) : evV f r t = ( (f r t).bind fun x t1=>match x with
  | .tup xs=>.ok xs t1
  | .lst xs=>.ok xs t1
  | .str x=>.ok (strD x) t1
  | _=>.bad):=rfl
@[simp] theorem x_turnE (tg : Tg) (vs : List Nat) (fc : Rho → Tw → Res (Option D)) (fe : Rho → Tw → Res D) (r : Rho) (d : D) (t : Tw) : turnE tg vs fc fe r d t = ( match setT tg d (wipeR r vs) with
    | some r2=>(fc r2 t).bind fun o t=>match o with
     | none=>(fe r2 t).bind fun x t=>.ok (some x) t
     | some y=>match truD y with
      | some true=>(fe r2 t).bind fun x t=>.ok (some x) t
      | some false=>.ok none t
      | none=>.bad
    | none=>.bad):=rfl
@[simp] theorem x_compE (tg : Tg) (vs : List Nat) (fi : Rho → Tw → Res (List D)) (fc : Rho → Tw → Res (Option D)) (fe : Rho → Tw → Res D) (r : Rho) (t : Tw) : compE tg vs fi fc fe r t = (
 (fi r t).bind fun xs t1=>if okLen xs.length then (compL (turnE tg vs fc fe r) xs t1).bind fun ys t2=>.ok (.lst ys) t2 else .bad):=rfl
@[simp] theorem x_turnX (tg : Tg) (vs : List Nat) (fe : Rho → Tw → Res D) (r : Rho) (d : D) (t : Tw) : turnX tg vs fe r d t = ( match setT tg d (wipeR r vs) with
 | some r2=>fe r2 t
 | none=>.bad):=rfl
@[simp] theorem x_compXE (tg : Tg) (vs : List Nat) (fi : Rho → Tw → Res (List D)) (fe : Rho → Tw → Res D) (r : Rho) (t : Tw) : compXE tg vs fi fe r t = (
 (fi r t).bind fun xs t1=>if okLen xs.length then (compXL (turnX tg vs fe r) xs t1).bind fun ys t2=>.ok (.lst ys) t2 else .bad):=rfl
@[simp] theorem x_nilE (r : Rho) (t : Tw) : nilE r t = ( .ok (.nx,r) t):=rfl
@[simp] theorem x_consE (f g : Rho → Tw → Res (Fl × Rho)) (r : Rho) (t : Tw) : consE f g r t = ( (f r t).bind fun p t1=>match p with
  | (.nx,r1)=>g r1 t1
  | q=>.ok q t1):=rfl
@[simp] theorem x_iteS (fc : Rho → Tw → Res D) (f g : Rho → Tw → Res (Fl × Rho)) (r : Rho) (t : Tw) : iteS fc f g r t = ( (fc r t).bind fun x t1=>match truD x with
  | some true=>f r t1
  | some false=>g r t1
  | none=>.bad):=rfl
@[simp] theorem x_parE (is : List Nat) (fs : Rho → Tw → Res (List D)) (r : Rho) (t : Tw) : parE is fs r t = ( (fs r t).bind fun xs t1=>Fm.lift ((setAll is xs r).map fun r1=>(.nx,r1)) t1):=rfl
@[simp] theorem x_frzE (i : Nat) (r : Rho) (t : Tw) : frzE i r t = ( match r[i]? with
  | some (.own d)=>.ok (.nx,r.set i (.val d)) t
  | some (.val _)=>.ok (.nx,r) t
  | _=>.bad):=rfl
@[simp] theorem x_appE (i : Nat) (fa : Rho → Tw → Res D) (r : Rho) (t : Tw) : appE i fa r t = ( match r[i]? with
  | some (.own (.lst xs))=>(fa r t).bind fun x t1=>if decide (xs.length < 16777216) then .ok (.nx,r.set i (.own (.lst (xs ++ [x])))) t1 else .bad
  | _=>.bad):=rfl
@[simp] theorem x_putE (i : Nat) (fk fa : Rho → Tw → Res D) (r : Rho) (t : Tw) : putE i fk fa r t = ( match r[i]? with
  | some (.own (.dct kvs))=>(fa r t).bind fun x t1=>(fk r t1).bind fun y t2=>(match keyD y with
   | some k=>if decide (kvs.length < 16777216) then .ok (.nx,r.set i (.own (.dct (putD kvs k x)))) t2 else .bad
   | none=>.bad)
  | some (.own (.dcn kvs))=>(fa r t).bind fun x t1=>(fk r t1).bind fun y t2=>(match keyT y with
   | some k=>if decide (kvs.length < 16777216) then .ok (.nx,r.set i (.own (.dcn (putN kvs k x)))) t2 else .bad
   | none=>.bad)
  | _=>.bad):=rfl
@[simp] theorem x_augE (i : Nat) (op : Operator) (fa : Rho → Tw → Res D) (r : Rho) (t : Tw) : augE i op fa r t = ( match r[i]? with
  | some (.val x)=>(fa r t).bind fun y t1=>match x,y with
   | .int _,.int _=>Fm.lift ((binD op x y).map fun z=>(.nx,r.set i (.val z))) t1
   | _,_=>.bad
  | _=>.bad):=rfl
@[simp] theorem x_forE (tg : Tg) (fi : Rho → Tw → Res (List D)) (f : Rho → Tw → Res (Fl × Rho)) (r : Rho) (t : Tw) : forE tg fi f r t = ( (fi r t).bind fun xs t1=>loopF (fun d r t=>match setT tg d r with
  | some r1=>f r1 t
  | none=>.bad) xs r t1):=rfl
@[simp] theorem x_tcountE (i : Nat) (r : Rho) (t : Tw) : tcountE i r t = ( match r[i]? with
  | some (.val .tok)=>.ok (.int t.count) t
  | _=>.bad):=rfl
@[simp] theorem x_tgetE (i : Nat) (fk fd : Rho → Tw → Res D) (r : Rho) (t : Tw) : tgetE i fk fd r t = ( match r[i]? with
  | some (.val .tok)=>(fk r t).bind fun y t1=>(fd r t1).bind fun z t2=>(match y,z with
   | .int a,.int b=>.ok (.int ((lkT t2.rests a).getD b)) t2
   | _,_=>.bad)
  | _=>.bad):=rfl
@[simp] theorem x_tcntE (i : Nat) (fa : Rho → Tw → Res D) (r : Rho) (t : Tw) : tcntE i fa r t = ( match r[i]? with
  | some (.val .tok)=>(fa r t).bind fun x t1=>(match x with
   | .int c=>.ok (.nx,r) { t1 with count:=c }
   | _=>.bad)
  | _=>.bad):=rfl
@[simp] theorem x_trstE (i : Nat) (fk fa : Rho → Tw → Res D) (r : Rho) (t : Tw) : trstE i fk fa r t = ( match r[i]? with
  | some (.val .tok)=>(fa r t).bind fun x t1=>(fk r t1).bind fun y t2=>(match x,y with
   | .int v,.int a=>if decide (t2.rests.length < 1000000) then .ok (.nx,r) { t2 with rests:=putT t2.rests a v } else .bad
   | _,_=>.bad)
  | _=>.bad):=rfl
@[simp] theorem x_dpE (fk fv : Rho → Tw → Res D) (r : Rho) (t : Tw) : dpE fk fv r t = ( (fk r t).bind fun x t1=>(fv r t1).bind fun y t2=>.ok (.tup [x,y]) t2):=rfl
@[simp] theorem x_dcompKE (tg : Tg) (vs : List Nat) (fi : Rho → Tw → Res (List D)) (fk fv : Rho → Tw → Res D) (r : Rho) (t : Tw) : dcompKE tg vs fi fk fv r t = (
 (fi r t).bind fun xs t1=>if okLen xs.length then (compL (turnE tg vs noC (dpE fk fv) r) xs t1).bind fun ys t2=>(match prsK ys with
  | some ps=>.ok (.dct (joinD [] ps)) t2
  | none=>.bad) else .bad):=rfl
@[simp] theorem x_tryE (f : Rho → Tw → Res (Fl × Rho)) : tryE f = ( fun r t=>match f r t with
 | .exc _ _=>.bad
 | x=>x):=rfl
end
section
variable {i j : Int} {x y : Str} {xs ys : List D} {b : Bool} {d e : D} {kvs : List (Key × D)}
@[simp] theorem x_cst0 : Cst.d .non = .non:=rfl
@[simp] theorem x_cst1 : Cst.d (.bl b) = .bl b:=rfl
@[simp] theorem x_cst2 : Cst.d (.int i) = .int i:=rfl
@[simp] theorem x_cst3 : Cst.d (.str x) = .str x:=rfl
@[simp] theorem x_bAdd : binD .Add d e = addD d e:=rfl
@[simp] theorem x_bSub : binD .Sub d e = subD d e:=rfl
@[simp] theorem x_bMul : binD .Mult d e = mulD d e:=rfl
@[simp] theorem x_bDiv : binD .FloorDiv d e = fdivD d e:=rfl
@[simp] theorem x_bMod : binD .Mod d e = modD d e:=rfl
@[simp] theorem x_bPow : binD .Pow d e = powD d e:=rfl
@[simp] theorem x_bShl : binD .LShift d e = shlD d e:=rfl
@[simp] theorem x_addi : addD (.int i) (.int j) = some (.int (i + j)):=rfl
@[simp] theorem x_addt : addD (.tup xs) (.tup ys) = if okLen (xs.length + ys.length) then some (.tup (xs ++ ys)) else none:=rfl
@[simp] theorem x_adds : addD (.str x) (.str y) = if okLen (x.length + y.length) then some (.str (x ++ y)) else none:=rfl
@[simp] theorem x_cat : catD (.lst xs) (.lst ys) = if okLen (xs.length + ys.length) then some (.lst (xs ++ ys)) else none:=rfl
@[simp] theorem x_sub : subD (.int i) (.int j) = some (.int (i - j)):=rfl
@[simp] theorem x_mul : mulD (.int i) (.int j) = if okMul i j then some (.int (i * j)) else none:=rfl
@[simp] theorem x_mull : mulD (.lst xs) (.int i) = if decide (0 ≤ i) && decide (i ≤ 1000) && decide (xs.length ≤ 1000) then some (.lst (repL i.toNat xs)) else none:=rfl
@[simp] theorem x_muls : mulD (.str x) (.int i) = if decide (0 ≤ i) && decide (i ≤ 1000) && decide (x.length ≤ 1000) then some (.str (PySem.Txt.mul x i)) else none:=rfl
@[simp] theorem x_int1 : blt1 .int (.int i) = some (.int i):=rfl
@[simp] theorem x_int2 : blt1 .int (.bl b) = some (.int (if b then 1 else 0)):=rfl
@[simp] theorem x_fdiv : fdivD (.int i) (.int j) = if okDiv j then some (.int (i.fdiv j)) else none:=rfl
@[simp] theorem x_mod : modD (.int i) (.int j) = if j = 0 then none else some (.int (i.fmod j)):=rfl
@[simp] theorem x_pow : powD (.int i) (.int j) = if okPow i j then some (.int (i ^ j.toNat)) else none:=rfl
@[simp] theorem x_shl : shlD (.int i) (.int j) = if okPow i j then some (.int (i * 2 ^ j.toNat)) else none:=rfl
@[simp] theorem x_neg : negD (.int i) = some (.int (-i)):=rfl
@[simp] theorem x_tru0 : truD .non = some false:=rfl
@[simp] theorem x_tru1 : truD (.bl b) = some b:=rfl
@[simp] theorem x_tru2 : truD (.int i) = some (i != 0):=rfl
@[simp] theorem x_tru3 : truD (.tup xs) = some (!xs.isEmpty):=rfl
@[simp] theorem x_tru4 : truD (.lst xs) = some (!xs.isEmpty):=rfl
@[simp] theorem x_tru6 : truD (.str x) = if okLen x.length then some ((x.length : Int) != 0) else none:=rfl
@[simp] theorem x_not : notD d = (truD d).map fun b=>.bl (!b):=rfl
@[simp] theorem x_ceq : cmpD .Eq d e = eqOp d e:=rfl
@[simp] theorem x_cne : cmpD .NotEq d e = neOp d e:=rfl
@[simp] theorem x_clt : cmpD .Lt d e = ltOp d e:=rfl
@[simp] theorem x_cle : cmpD .LtE d e = leOp d e:=rfl
@[simp] theorem x_cgt : cmpD .Gt d e = gtOp d e:=rfl
@[simp] theorem x_cge : cmpD .GtE d e = geOp d e:=rfl
@[simp] theorem x_cis : cmpD .Is d .non = some (.bl (isN d)):=rfl
@[simp] theorem x_cin : cmpD .In d e = (inB d e).map .bl:=rfl
@[simp] theorem x_cnin : cmpD .NotIn d e = (inB d e).map fun r=>.bl (!r):=rfl
@[simp] theorem x_lt : ltOp (.int i) (.int j) = some (.bl (decide (i < j))):=rfl
@[simp] theorem x_le : leOp (.int i) (.int j) = some (.bl (decide (i ≤ j))):=rfl
@[simp] theorem x_gt : gtOp (.int i) (.int j) = some (.bl (decide (j < i))):=rfl
@[simp] theorem x_ge : geOp (.int i) (.int j) = some (.bl (decide (j ≤ i))):=rfl
@[simp] theorem x_isn0 : isN .non = true:=rfl
@[simp] theorem x_isn1 : isN (.bl b) = false:=rfl
@[simp] theorem x_isn2 : isN (.int i) = false:=rfl
@[simp] theorem x_isn3 : isN (.str x) = false:=rfl
@[simp] theorem x_isn4 : isN (.tup xs) = false:=rfl
@[simp] theorem x_isn5 : isN (.lst xs) = false:=rfl
@[simp] theorem x_len1 : blt1 .len (.tup xs) = some (.int xs.length):=rfl
@[simp] theorem x_len2 : blt1 .len (.lst xs) = some (.int xs.length):=rfl
@[simp] theorem x_len3 : blt1 .len (.str x) = if okLen x.length then some (.int x.length) else none:=rfl
@[simp] theorem x_tup1 : blt1 .tuple (.lst xs) = some (.tup xs):=rfl
@[simp] theorem x_tup2 : blt1 .tuple (.tup xs) = some (.tup xs):=rfl
@[simp] theorem x_lst1 : blt1 .list (.lst xs) = some (.lst xs):=rfl
@[simp] theorem x_lst2 : blt1 .list (.tup xs) = some (.lst xs):=rfl
@[simp] theorem x_abs1 : blt1 .abs (.int i) = some (.int (if i < 0 then -i else i)):=rfl
@[simp] theorem x_ixt : ixD (.tup xs) (.int i) = L2.atI xs i:=rfl
@[simp] theorem x_ixl : ixD (.lst xs) (.int i) = L2.atI xs i:=rfl
@[simp] theorem x_ixs : ixD (.str x) (.int i) = if okLen x.length then (L2.atI x.cps.toList i).map fun c=>.str ⟨#[c]⟩ else none:=rfl
@[simp] theorem x_rev1 : revD (.tup xs) = some (.tup xs.reverse):=rfl
@[simp] theorem x_rev2 : revD (.lst xs) = some (.lst xs.reverse):=rfl
@[simp] theorem x_opt0 : optI none = some none:=rfl
@[simp] theorem x_opt1 : optI (some (.int i)) = some (some i):=rfl
@[simp] theorem x_cutt {l h : Option Int} : cutD (.tup xs) l h = some (.tup (cutL xs l h)):=rfl
@[simp] theorem x_cutl {l h : Option Int} : cutD (.lst xs) l h = some (.lst (cutL xs l h)):=rfl
@[simp] theorem x_cisn : cmpD .IsNot d .non = some (.bl (!isN d)):=rfl
@[simp] theorem x_cisb {c : Bool} : cmpD .Is (.bl c) (.bl b) = some (.bl (c == b)):=rfl
@[simp] theorem x_cisnb {c : Bool} : cmpD .IsNot (.bl c) (.bl b) = some (.bl (!(c == b))):=rfl
@[simp] theorem x_ltt : ltOp (.tup xs) (.tup ys) = if okLt (.tup xs) (.tup ys) then some (.bl (PySem.W.dataLt (D.py (.tup xs)) (D.py (.tup ys)))) else none:=rfl
@[simp] theorem x_lts : ltOp (.str x) (.str y) = some (.bl (decide (x.cps.toList < y.cps.toList))):=rfl
@[simp] theorem x_kl1 {es : List (NestedKey × D)} : blt1 .klist (.dcn es) = some (.lst (es.map fun p=>kdN p.1)):=rfl
@[simp] theorem x_dnl : blt1 .dictN (.lst xs) = (prsN xs).map fun ps=>.dcn (putsN [] ps):=rfl
@[simp] theorem x_dn1 : blt1 .dictN (.tup xs) = (prsN xs).map fun ps=>.dcn (putsN [] ps):=rfl
@[simp] theorem x_dk1 : blt1 .dictK (.tup xs) = (prsK xs).map fun ps=>.dct (joinD [] ps):=rfl
@[simp] theorem x_dixn {es : List (NestedKey × D)} : dixD (.dcn es) d = (keyT d).bind fun k=>lookN es k:=rfl
@[simp] theorem x_isa_int_non : isaD .non .int = some false:=rfl
@[simp] theorem x_isa_int_bl : isaD (.bl b) .int = some true:=rfl
@[simp] theorem x_isa_int_int : isaD (.int i) .int = some true:=rfl
@[simp] theorem x_isa_int_str : isaD (.str x) .int = some false:=rfl
@[simp] theorem x_isa_int_tup : isaD (.tup xs) .int = some false:=rfl
@[simp] theorem x_isa_int_lst : isaD (.lst xs) .int = some false:=rfl
@[simp] theorem x_isa_bool_non : isaD .non .bool = some false:=rfl
@[simp] theorem x_isa_bool_bl : isaD (.bl b) .bool = some true:=rfl
@[simp] theorem x_isa_bool_int : isaD (.int i) .bool = some false:=rfl
@[simp] theorem x_isa_bool_str : isaD (.str x) .bool = some false:=rfl
@[simp] theorem x_isa_bool_tup : isaD (.tup xs) .bool = some false:=rfl
@[simp] theorem x_isa_bool_lst : isaD (.lst xs) .bool = some false:=rfl
@[simp] theorem x_isa_str_non : isaD .non .str = some false:=rfl
@[simp] theorem x_isa_str_bl : isaD (.bl b) .str = some false:=rfl
@[simp] theorem x_isa_str_int : isaD (.int i) .str = some false:=rfl
@[simp] theorem x_isa_str_str : isaD (.str x) .str = some true:=rfl
@[simp] theorem x_isa_str_tup : isaD (.tup xs) .str = some false:=rfl
@[simp] theorem x_isa_str_lst : isaD (.lst xs) .str = some false:=rfl
@[simp] theorem x_isa_tuple_non : isaD .non .tuple = some false:=rfl
@[simp] theorem x_isa_tuple_bl : isaD (.bl b) .tuple = some false:=rfl
@[simp] theorem x_isa_tuple_int : isaD (.int i) .tuple = some false:=rfl
@[simp] theorem x_isa_tuple_str : isaD (.str x) .tuple = some false:=rfl
@[simp] theorem x_isa_tuple_tup : isaD (.tup xs) .tuple = some true:=rfl
@[simp] theorem x_isa_tuple_lst : isaD (.lst xs) .tuple = some false:=rfl
@[simp] theorem x_isa_list_non : isaD .non .list = some false:=rfl
@[simp] theorem x_isa_list_bl : isaD (.bl b) .list = some false:=rfl
@[simp] theorem x_isa_list_int : isaD (.int i) .list = some false:=rfl
@[simp] theorem x_isa_list_str : isaD (.str x) .list = some false:=rfl
@[simp] theorem x_isa_list_tup : isaD (.tup xs) .list = some false:=rfl
@[simp] theorem x_isa_list_lst : isaD (.lst xs) .list = some true:=rfl
end
@[simp] theorem x_setN {i : Nat} {d : D} {r : Rho} : setT (.name i) d r = if decide (i < r.length) then some (r.set i (.val d)) else none:=rfl
@[simp] theorem x_setT {ts : Tgs} {xs : List D} {r : Rho} : setT (.tup ts) (.tup xs) r = setTs ts xs r:=rfl
@[simp] theorem x_setTl {ts : Tgs} {xs : List D} {r : Rho} : setT (.tup ts) (.lst xs) r = setTs ts xs r:=rfl
@[simp] theorem x_set0 {r : Rho} : setTs .nil [] r = some r:=rfl
@[simp] theorem x_set1 {t : Tg} {ts : Tgs} {x : D} {xs : List D} {r : Rho} : setTs (.cons t ts) (x :: xs) r = (setT t x r).bind fun r1=>setTs ts xs r1:=rfl
@[simp] theorem x_all0 {r : Rho} : setAll [] [] r = some r:=rfl
@[simp] theorem x_all1 {i : Nat} {is : List Nat} {d : D} {ds : List D} {r : Rho} : setAll (i :: is) (d :: ds) r = if decide (i < r.length) then setAll is ds (r.set i (.val d)) else none:=rfl
@[simp] theorem x_okSet {r : Rho} {i : Nat} {s : Sl} {t : Tw} : okSet r i s t = if decide (i < r.length) then .ok (.nx,r.set i s) t else .bad:=rfl
@[simp] theorem x_startR {N : List Str} {ds : List D} : startR N ds = ds.map .val ++ List.replicate (N.length - ds.length) .un:=rfl
@[simp] theorem x_startL {N : List Str} {ns : List Int} : startL N ns = (startR N [.scr ns]).set 1 (.val .tok):=rfl
@[simp] theorem x_ret0 {d : D} {r : Rho} {t : Tw} : retD (.ok (.ret d,r) t) = .ok d t:=rfl
@[simp] theorem x_ret1 {r : Rho} {t : Tw} : retD (.ok (.nx,r) t) = .ok .non t:=rfl
@[simp] theorem x_ret2 {n : Nat} {t : Tw} : retD (.exc n t) = .exc n t:=rfl
@[simp] theorem x_loop0 {f : D → Rho → Tw → Res (Fl × Rho)} {r : Rho} {t : Tw} : loopF f [] r t = .ok (.nx,r) t:=rfl
@[simp] theorem x_compX0 {f : D → Tw → Res D} {t : Tw} : compXL f [] t = .ok [] t:=rfl
@[simp] theorem x_comp0 {f : D → Tw → Res (Option D)} {t : Tw} : compL f [] t = .ok [] t:=rfl
@[simp] theorem x_wipe0 {r : Rho} : wipeR r [] = r:=rfl
@[simp] theorem x_wipe1 {r : Rho} {v : Nat} {vs : List Nat} : wipeR r (v :: vs) = (wipeR r vs).set v .un:=rfl
@[simp] theorem x_cons0 {xs : List D} : consO none xs = xs:=rfl
@[simp] theorem x_cons1 {x : D} {xs : List D} : consO (some x) xs = x :: xs:=rfl
@[simp] theorem x_ok0 : okLen 0 = true:=rfl
@[simp] theorem x_ok1 : okLen 1 = true:=rfl
@[simp] theorem x_ok2 : okLen 2 = true:=rfl
@[simp] theorem x_ok3 : okLen 3 = true:=rfl
@[simp] theorem x_ok4 : okLen 4 = true:=rfl
@[simp] theorem x_ok5 : okLen 5 = true:=rfl
@[simp] theorem x_ok6 : okLen 6 = true:=rfl
@[simp] theorem x_ok7 : okLen 7 = true:=rfl
@[simp] theorem x_ok8 : okLen 8 = true:=rfl
@[simp] theorem x_ok9 : okLen 9 = true:=rfl
@[simp] theorem x_ok10 : okLen 10 = true:=rfl
@[simp] theorem x_ok11 : okLen 11 = true:=rfl
@[simp] theorem x_ok12 : okLen 12 = true:=rfl
@[simp] theorem x_ok13 : okLen 13 = true:=rfl
@[simp] theorem x_ok14 : okLen 14 = true:=rfl
@[simp] theorem x_ok15 : okLen 15 = true:=rfl
@[simp] theorem x_ok16 : okLen 16 = true:=rfl
@[simp] theorem x_ok17 : okLen 17 = true:=rfl
@[simp] theorem x_ok18 : okLen 18 = true:=rfl
@[simp] theorem x_ok19 : okLen 19 = true:=rfl
@[simp] theorem x_ok20 : okLen 20 = true:=rfl
@[simp] theorem x_ok21 : okLen 21 = true:=rfl
@[simp] theorem x_ok22 : okLen 22 = true:=rfl
@[simp] theorem x_ok23 : okLen 23 = true:=rfl
@[simp] theorem x_ok24 : okLen 24 = true:=rfl
@[simp] theorem x_ok25 : okLen 25 = true:=rfl
@[simp] theorem x_ok26 : okLen 26 = true:=rfl
@[simp] theorem x_ok27 : okLen 27 = true:=rfl
@[simp] theorem x_ok28 : okLen 28 = true:=rfl
@[simp] theorem x_ok29 : okLen 29 = true:=rfl
@[simp] theorem x_ok30 : okLen 30 = true:=rfl
@[simp] theorem x_ok31 : okLen 31 = true:=rfl
@[simp] theorem x_ok32 : okLen 32 = true:=rfl
@[simp] theorem x_ok33 : okLen 33 = true:=rfl
@[simp] theorem x_ok34 : okLen 34 = true:=rfl
@[simp] theorem x_ok35 : okLen 35 = true:=rfl
@[simp] theorem x_ok36 : okLen 36 = true:=rfl
@[simp] theorem x_ok37 : okLen 37 = true:=rfl
@[simp] theorem x_ok38 : okLen 38 = true:=rfl
@[simp] theorem x_ok39 : okLen 39 = true:=rfl
@[simp] theorem x_ok40 : okLen 40 = true:=rfl
@[simp] theorem x_ok41 : okLen 41 = true:=rfl
@[simp] theorem x_ok42 : okLen 42 = true:=rfl
@[simp] theorem x_ok43 : okLen 43 = true:=rfl
@[simp] theorem x_ok44 : okLen 44 = true:=rfl
@[simp] theorem x_ok45 : okLen 45 = true:=rfl
@[simp] theorem x_ok46 : okLen 46 = true:=rfl
@[simp] theorem x_ok47 : okLen 47 = true:=rfl
@[simp] theorem x_ok48 : okLen 48 = true:=rfl
@[simp] theorem x_ok49 : okLen 49 = true:=rfl
@[simp] theorem x_ok50 : okLen 50 = true:=rfl
@[simp] theorem x_ok51 : okLen 51 = true:=rfl
@[simp] theorem x_ok52 : okLen 52 = true:=rfl
@[simp] theorem x_ok53 : okLen 53 = true:=rfl
@[simp] theorem x_ok54 : okLen 54 = true:=rfl
@[simp] theorem x_ok55 : okLen 55 = true:=rfl
@[simp] theorem x_ok56 : okLen 56 = true:=rfl
@[simp] theorem x_ok57 : okLen 57 = true:=rfl
@[simp] theorem x_ok58 : okLen 58 = true:=rfl
@[simp] theorem x_ok59 : okLen 59 = true:=rfl
@[simp] theorem x_ok60 : okLen 60 = true:=rfl
@[simp] theorem x_ok61 : okLen 61 = true:=rfl
@[simp] theorem x_ok62 : okLen 62 = true:=rfl
@[simp] theorem x_ok63 : okLen 63 = true:=rfl
@[simp ↓] theorem x_bind {α β : Type} (m : Res α) (f : α → Tw → Res β) : m.bind f = match m with
 | .ok a t=>f a t
 | .exc n t=>.exc n t
 | .bad=>.bad:=by cases m <;> rfl
theorem gam_at {p : Pg} {ns : List Int} {k j : Nat} {sh : Sh} (h : p.tb.sh[j]? = some sh) (xs ys : List D) (t : Tw) : (gam p ns k).f 0 j xs ys t = callF p ns k sh.fn (xs ++ ys ++ sh.dfl.map Cst.d) t:=by
 show (match p.tb.sh[j]? with
  | some sh=>_
  | none=>_) = _
 rw [h]
 rfl
end Fm
namespace Fm
open PySem
section
variable {i j : Int} {a b : Bool} {x y : Str}
@[simp] theorem x_eqi : eqOp (.int i) (.int j) = some (.bl (decide (i = j))):=by
 by_cases h : i = j <;> simp [eqOp,okEq,lay,dep,D.py,PyData.canLay0,PyData.depth,eqD,PyData.eqv,h]
@[simp] theorem x_nei : neOp (.int i) (.int j) = some (.bl (!decide (i = j))):=by
 by_cases h : i = j <;> simp [neOp,okEq,lay,dep,D.py,PyData.canLay0,PyData.depth,eqD,PyData.eqv,h]
@[simp] theorem x_eqb : eqOp (.bl a) (.bl b) = some (.bl (a == b)):=by
 simp [eqOp,okEq,lay,dep,D.py,PyData.canLay0,PyData.depth,eqD,PyData.eqv]
@[simp] theorem x_eqD_s : eqD (.str x) (.str y) = (x == y):=by
 simp [eqD,D.py,PyData.eqv]
@[simp] theorem x_lay_s : lay (.str x) = PyData.strOk x:=by
 simp [lay,D.py,PyData.canLay0]
@[simp] theorem x_lay_i : lay (.int i) = true:=by
 simp [lay,D.py,PyData.canLay0]
@[simp] theorem x_dep_s : dep (.str x) = 0:=by
 simp [dep,D.py,PyData.depth]
end
theorem x_eq0 {xs : List D} (h : lay (.tup xs) = true) : eqOp (.tup xs) (.tup []) = some (.bl xs.isEmpty):=by
 have e : dep (.tup []) = 1:=by simp [dep,D.py,pys,PyData.depth,PyData.depthAll]
 have l : lay (.tup []) = true:=by simp [lay,D.py,pys,PyData.canLay0,PyData.canLayAll0]
 have m : min (dep (.tup xs)) 1 ≤ 190:=Nat.le_trans (Nat.min_le_right ..) (by omega)
 simp only [eqOp,okEq,h,l,e,m,decide_true,Bool.and_self,if_true]
 cases xs <;> simp [eqD,D.py,pys,PyData.eqv,PyData.eqvAll]
@[simp] theorem x_ev_dsp {G : Gam} {cs : Nat → D} {r : Rho} {t : Tw} (kvs : List (Str × Cst)) : ev G cs (.dsp kvs) r t = if decide (kvs.length ≤ 15) then .ok (.dct (mergeD [] (kvs.map fun p=>(p.1,p.2.d)))) t else .bad:=by rw [ev_dsp]
theorem log2_lt' {n k : Nat} (h : n < 2 ^ k) (hk : 0 < k) : n.log2 < k:=by
 by_cases z : n = 0
 · subst z
   simpa using hk
 · exact (Nat.log2_lt z).mpr h
theorem okMul_of {i j : Int} {k l : Nat} (h1 : i.natAbs < 2 ^ k) (h2 : j.natAbs < 2 ^ l) (hk : 0 < k) (hl : 0 < l) (h : k + l ≤ 134000000) : okMul i j = true:=by
 have:=log2_lt' h1 hk
 have:=log2_lt' h2 hl
 simp only [okMul,decide_eq_true_eq]
 omega
theorem okDiv_of {j : Int} {k : Nat} (h0 : j ≠ 0) (h1 : j.natAbs < 2 ^ k) (hk : 0 < k) (h : k ≤ 9000) : okDiv j = true:=by
 exact decide_eq_true h0
theorem okDiv_ne {j : Int} (h : j ≠ 0) : okDiv j = true:=decide_eq_true h
theorem fmod_rng {i m : Int} (h : 0 < m) : 0 ≤ i.fmod m ∧ i.fmod m < m:=⟨Int.fmod_nonneg_of_pos _ h,Int.fmod_lt_of_pos _ h⟩
def goodT (t : Tw) : Prop:=0 ≤ t.count ∧ t.rests.length ≤ t.count.toNat
def rm (n : Nat) (t : Tw) : Prop:=goodT t ∧ t.count + n ≤ 900000
theorem rm.le {n m : Nat} {t : Tw} (h : rm n t) (l : m ≤ n) : rm m t:=⟨h.1,by have:=h.2;omega⟩
def drawB : Ss:=.cons (.tcnt 1 (.bin .Add (.tcount 1) (.cst (.int 1)))) (.cons (.asg (.name 3) (.ite (.var 0) (.bin .Mod (.tcount 1) (.blt .len (.var 0))) (.cst (.int 0)))) (.cons (.asg (.name 4) (.tget 1 (.var 3) (.ite (.var 0) (.ix (.var 0) (.var 3)) (.cst (.int 0))))) (.cons (.ite (.cmp .GtE (.var 4) (.bin .Pow (.cst (.int 10)) (.cst (.int 18)))) (.cons (.trst 1 (.var 3) (.bin .FloorDiv (.var 4) (.var 2))) (.cons (.ret (.bin .Mod (.var 4) (.var 2))) .nil)) .nil) (.cons (.asg (.name 5) (.bin .Mod (.bin .Add (.var 4) (.bin .Mult (.cst (.int 104729)) (.tcount 1))) (.cst (.int 4294967291)))) (.cons (.asg (.name 5) (.bin .Mod (.bin .Pow (.var 5) (.cst (.int 5))) (.cst (.int 4294967279)))) (.cons (.ret (.bin .Mod (.bin .FloorDiv (.bin .Mod (.bin .Add (.bin .Mult (.bin .FloorDiv (.var 5) (.cst (.int 64))) (.cst (.int 69621))) (.var 5)) (.cst (.int 4294967231))) (.cst (.int 8))) (.var 2))) .nil))))))
theorem draw_tail {G : Gam} {cs : Nat → D} {sc : D} {m at_ rest : Int} {t : Tw} {n : Nat} (hm : 0 < m) (hm2 : m < 1048576) (h : goodT t) (hc : t.count + n ≤ 900000) (hr : t.rests.length < t.count.toNat) :
  ∃ v t',retD (evSs G cs (.cons (.ite (.cmp .GtE (.var 4) (.bin .Pow (.cst (.int 10)) (.cst (.int 18)))) (.cons (.trst 1 (.var 3) (.bin .FloorDiv (.var 4) (.var 2))) (.cons (.ret (.bin .Mod (.var 4) (.var 2))) .nil)) .nil) (.cons (.asg (.name 5) (.bin .Mod (.bin .Add (.var 4) (.bin .Mult (.cst (.int 104729)) (.tcount 1))) (.cst (.int 4294967291)))) (.cons (.asg (.name 5) (.bin .Mod (.bin .Pow (.var 5) (.cst (.int 5))) (.cst (.int 4294967279)))) (.cons (.ret (.bin .Mod (.bin .FloorDiv (.bin .Mod (.bin .Add (.bin .Mult (.bin .FloorDiv (.var 5) (.cst (.int 64))) (.cst (.int 69621))) (.var 5)) (.cst (.int 4294967231))) (.cst (.int 8))) (.var 2))) .nil)))) [.val sc,.val .tok,.val (.int m),.val (.int at_),.val (.int rest),.un] t) = .ok (.int v) t' ∧ 0 ≤ v ∧ v < m ∧ rm n t':=by
 obtain ⟨g1,g2⟩:=h
 have p1 : okPow 10 18 = true:=by decide
 have e18 : (10 : Int) ^ (18 : Int).toNat = 1000000000000000000:=by decide
 have d1 : okDiv m = true:=okDiv_of (k:=20) (by omega) (by omega) (by omega) (by omega)
 have m0 : m ≠ 0:=by omega
 have l1 : t.rests.length < 1000000:=by omega
 have c1 : t.count.natAbs < 2 ^ 20:=by omega
 have k1 : okMul 104729 t.count = true:=okMul_of (k:=17) (l:=20) (by decide) c1 (by omega) (by omega) (by omega)
 by_cases hb : 1000000000000000000 ≤ rest
 · refine ⟨rest.fmod m,{ t with rests:=putT t.rests at_ (rest.fdiv m) },?_,(fmod_rng hm).1,(fmod_rng hm).2,⟨g1,?_⟩,hc⟩
   · simp [p1,e18,hb,d1,m0,l1]
   · have:=putT_len t.rests at_ (rest.fdiv m)
     show (putT t.rests at_ (rest.fdiv m)).length ≤ t.count.toNat
     omega
 · have q1:=fmod_rng (i:=rest + 104729 * t.count) (m:=4294967291) (by omega)
   generalize hn1 : (rest + 104729 * t.count).fmod 4294967291 = n1 at q1
   have p2 : okPow n1 5 = true:=by
    simp only [okPow,Bool.and_eq_true,decide_eq_true_eq]
    refine ⟨⟨by omega,by omega⟩,?_⟩
    have : (2 : Nat) ^ 64 = 18446744073709551616:=by decide
    omega
   have q2:=fmod_rng (i:=n1 ^ (5 : Int).toNat) (m:=4294967279) (by omega)
   generalize hn2 : (n1 ^ (5 : Int).toNat).fmod 4294967279 = n2 at q2
   have q3 : 0 ≤ n2.fdiv 64 ∧ n2.fdiv 64 < 2 ^ 32:=by
    rw [Int.fdiv_eq_ediv_of_nonneg _ (by omega)]
    omega
   have k2 : okMul (n2.fdiv 64) 69621 = true:=okMul_of (k:=32) (l:=17) (by omega) (by decide) (by omega) (by omega) (by omega)
   have d2 : okDiv 64 = true:=okDiv_of (k:=20) (by omega) (by omega) (by omega) (by omega)
   have d3 : okDiv 8 = true:=okDiv_of (k:=20) (by omega) (by omega) (by omega) (by omega)
   refine ⟨(((n2.fdiv 64 * 69621 + n2).fmod 4294967231).fdiv 8).fmod m,t,?_,(fmod_rng hm).1,(fmod_rng hm).2,⟨g1,g2⟩,hc⟩
   · simp [p1,e18,hb,d1,m0,l1,k1,hn1,p2,hn2,k2,d2,d3]
     simp at hn2
     simp [hn2,k2,d3,m0]
theorem draw_ev {G : Gam} {cs : Nat → D} {ns : List Int} {m : Int} {t : Tw} {n : Nat} (hm : 0 < m) (hm2 : m < 1048576) (h : rm (n + 1) t) :
  ∃ v t',retD (evSs G cs drawB [.val (.scr ns),.val .tok,.val (.int m),.un,.un,.un] t) = .ok (.int v) t' ∧ 0 ≤ v ∧ v < m ∧ rm n t':=by
 obtain ⟨⟨g1,g2⟩,g3⟩:=h
 have G' : goodT { t with count:=t.count + 1 }:=⟨by show 0 ≤ t.count + 1;omega,by show t.rests.length ≤ (t.count + 1).toNat;omega⟩
 have c' : t.count + 1 + n ≤ 900000:=by omega
 have r' : t.rests.length < (t.count + 1).toNat:=by omega
 cases ns with
 | nil=>
  obtain ⟨v,t',e,q⟩:=draw_tail (G:=G) (cs:=cs) (sc:=.scr []) (at_:=0) (rest:=(lkT t.rests 0).getD 0) (t:={ t with count:=t.count + 1 }) hm hm2 G' c' r'
  refine ⟨v,t',?_,q⟩
  rw [← e]
  unfold drawB
  rw [x_evSs_cons]
  simp [truD]
 | cons a as=>
  have q:=fmod_rng (i:=t.count + 1) (m:=((a :: as).length : Int)) (by simp)
  generalize hk : (t.count + 1).fmod ((a :: as).length : Int) = k at q
  obtain ⟨w,ew⟩ : ∃ w,L2.atI (a :: as) k = some w:=by
   unfold L2.atI L2.ixN
   rw [if_pos q.1,if_pos q.2]
   exact ⟨_,List.getElem?_eq_getElem (by omega)⟩
  obtain ⟨v,t',e,q2⟩:=draw_tail (G:=G) (cs:=cs) (sc:=.scr (a :: as)) (at_:=k) (rest:=(lkT t.rests k).getD w) (t:={ t with count:=t.count + 1 }) hm hm2 G' c' r'
  refine ⟨v,t',?_,q2⟩
  rw [← e]
  unfold drawB
  have nz : ((a :: as).length : Int) ≠ 0:=by simp;omega
  rw [x_evSs_cons]
  simp only [List.length_cons,Int.natCast_add,Int.natCast_one] at hk nz
  simp [truD,blt1,lenD,hk,ixD,ew,nz]
end Fm
namespace Fm
open PySem
theorem loopF_ix {f : D → Rho → Tw → Res (Fl × Rho)} (I : Nat → Rho → Tw → Prop) : ∀ (xs : List D) (r : Rho) (t : Tw) (n : Nat),I (n + xs.length) r t → (∀ d ∈ xs,∀ n r t,I (n + 1) r t → ∃ r' t',f d r t = .ok (.nx,r') t' ∧ I n r' t') → ∃ r' t',loopF f xs r t = .ok (.nx,r') t' ∧ I n r' t'
 | [],r,t,n,h,_=>⟨r,t,rfl,h⟩
 | d :: ds,r,t,n,h,hf=>by
  obtain ⟨r1,t1,e,h1⟩:=hf d (List.mem_cons_self ..) (n + ds.length) r t (by rw [List.length_cons] at h;exact h)
  obtain ⟨r2,t2,e2,h2⟩:=loopF_ix I ds r1 t1 n h1 fun d' m=>hf d' (List.mem_cons_of_mem _ m)
  exact ⟨r2,t2,by rw [loopF,e];exact e2,h2⟩
theorem seq_nx {G : Gam} {cs : Nat → D} {s : S} {q : Ss} {r r1 : Rho} {t t1 : Tw} (h : evS G cs s r t = .ok (.nx,r1) t1) : evSs G cs (.cons s q) r t = evSs G cs q r1 t1:=by
 rw [x_evSs_cons,x_consE,h]
 rfl
theorem x_nef (a b c d : Int) : neOp (.tup [.int a,.int b]) (.tup [.int c,.int d]) = some (.bl (!decide (a = c ∧ b = d))):=by
 simp [neOp,okEq,lay,dep,D.py,pys,PyData.canLay0,PyData.canLayAll0,PyData.depth,PyData.depthAll,eqD,PyData.eqv,PyData.eqvAll]
 by_cases h : a = c <;> by_cases h2 : b = d <;> simp [h,h2]
theorem keysI_map : ∀ {kvs : List (Key × D)} {ns : List Int},kvs.map (·.1) = ns.map Sum.inl → keysI kvs = some ns
 | [],[],_=>rfl
 | [],_ :: _,h=>by cases h
 | _ :: _,[],h=>by cases h
 | (k,d) :: kvs,n :: ns,h=>by
  simp only [List.map_cons,List.cons.injEq] at h
  obtain ⟨rfl,h2⟩:=h
  simp [keysI,keysI_map h2]
theorem for_ev {G : Gam} {cs : Nat → D} {tg : Tg} {it : I} {b : Ss} {r : Rho} {t t1 : Tw} {xs : List D} (hi : evI G cs it r t = .ok xs t1) : evS G cs (.for tg it b) r t = loopF (fun d r t=>match setT tg d r with
  | some r1=>evSs G cs b r1 t
  | none=>.bad) xs r t1:=by
 rw [evS_for]
 unfold forE
 rw [hi]
 rfl
end Fm
namespace Lw
open PySem PySem.Spec PyProof.Rows L2 Fm
def b_greatest_1 : Ss:=(.cons (.par [0,1] (.cons (.var 1) (.cons (.bin .Mod (.var 0) (.var 1)) .nil))) .nil)
def i_greatest : Nat:=0
def b_greatest : Ss:=(.cons (.par [0,1] (.cons (.blt .abs (.var 0)) (.cons (.blt .abs (.var 1)) .nil))) (.cons (.while (.cmp .Gt (.var 1) (.cst (.int 0))) b_greatest_1) (.cons (.ret (.var 0)) .nil)))
def f_greatest : Fd:=⟨["one", "other"],["one", "other"],b_greatest,false⟩
def i_frac : Nat:=1
def b_frac : Ss:=(.cons (.asg (.name 2) (.ite (.cmp .Gt (.var 1) (.cst (.int 0))) (.call 0 (.cons (.var 0) (.cons (.var 1) .nil)) .nil) (.neg (.call 0 (.cons (.var 0) (.cons (.var 1) .nil)) .nil)))) (.cons (.ret (.tup (.cons (.bin .FloorDiv (.var 0) (.var 2)) (.cons (.bin .FloorDiv (.var 1) (.var 2)) .nil)))) .nil))
def f_frac : Fd:=⟨["top", "bottom"],["top", "bottom", "shared"],b_frac,false⟩
def i_frac_plus : Nat:=2
def b_frac_plus : Ss:=(.cons (.ret (.call 1 (.cons (.bin .Add (.bin .Mult (.ix (.var 0) (.cst (.int 0))) (.ix (.var 1) (.cst (.int 1)))) (.bin .Mult (.ix (.var 1) (.cst (.int 0))) (.ix (.var 0) (.cst (.int 1))))) (.cons (.bin .Mult (.ix (.var 0) (.cst (.int 1))) (.ix (.var 1) (.cst (.int 1)))) .nil)) .nil)) .nil)
def f_frac_plus : Fd:=⟨["one", "other"],["one", "other"],b_frac_plus,false⟩
def i_frac_times : Nat:=3
def b_frac_times : Ss:=(.cons (.ret (.call 1 (.cons (.bin .Mult (.ix (.var 0) (.cst (.int 0))) (.ix (.var 1) (.cst (.int 0)))) (.cons (.bin .Mult (.ix (.var 0) (.cst (.int 1))) (.ix (.var 1) (.cst (.int 1)))) .nil)) .nil)) .nil)
def f_frac_times : Fd:=⟨["one", "other"],["one", "other"],b_frac_times,false⟩
def b_whole_root_1 : Ss:=(.cons (.aug 2 .Mult (.cst (.int 2))) .nil)
def b_whole_root_2 : Ss:=(.cons (.asg (.name 3) (.bin .FloorDiv (.bin .Add (.var 1) (.var 2)) (.cst (.int 2)))) (.cons (.ite (.cmp .LtE (.bin .Mult (.var 3) (.var 3)) (.var 0)) (.cons (.asg (.name 1) (.var 3)) .nil) (.cons (.asg (.name 2) (.var 3)) .nil)) .nil))
def i_whole_root : Nat:=4
def b_whole_root : Ss:=(.cons (.asg (.tup (.cons (.name 1) (.cons (.name 2) .nil))) (.tup (.cons (.cst (.int 0)) (.cons (.cst (.int 1)) .nil)))) (.cons (.while (.cmp .LtE (.bin .Mult (.var 2) (.var 2)) (.var 0)) b_whole_root_1) (.cons (.while (.cmp .Gt (.bin .Sub (.var 2) (.var 1)) (.cst (.int 1))) b_whole_root_2) (.cons (.ret (.var 1)) .nil))))
def f_whole_root : Fd:=⟨["number"],["number", "low", "high", "middle"],b_whole_root,false⟩
def b_gathered_1 : Ss:=(.cons (.put 1 (.var 2) (.call 2 (.cons (.get (.bor 1) (.var 2) (.glob 0)) (.cons (.var 3) .nil)) .nil)) .nil)
def i_gathered : Nat:=5
def b_gathered : Ss:=(.cons (.new 1 (.dsp [])) (.cons (.for (.tup (.cons (.name 2) (.cons (.name 3) .nil))) (.val (.var 0)) b_gathered_1) (.cons (.ret (.blt .tuple (.comp [("radicand",2)] (.tup (.cons (.var 2) (.cons (.dix (.bor 1) (.var 2)) .nil))) (.name 2) (.val (.blt .sorted (.bor 1))) (.some (.cmp .NotEq (.dix (.bor 1) (.var 2)) (.glob 0)))))) .nil)))
def f_gathered : Fd:=⟨["pairs"],["pairs", "found", "radicand", "fraction"],b_gathered,false⟩
def i_surd : Nat:=6
def b_surd : Ss:=(.cons (.ret (.call 3 (.cons (.lst (.cons (.tup (.cons (.cst (.int 1)) (.cons (.var 0) .nil))) .nil)) .nil) .nil)) .nil)
def f_surd : Fd:=⟨["fraction"],["fraction"],b_surd,false⟩
def i_added : Nat:=7
def b_added : Ss:=(.cons (.ret (.call 3 (.cons (.bin .Add (.var 0) (.var 1)) .nil) .nil)) .nil)
def f_added : Fd:=⟨["one", "other"],["one", "other"],b_added,false⟩
def i_scaled_by : Nat:=8
def b_scaled_by : Ss:=(.cons (.ret (.call 3 (.cons (.comp [("radicand",2),("part",3)] (.tup (.cons (.var 2) (.cons (.call 4 (.cons (.var 3) (.cons (.var 1) .nil)) .nil) .nil))) (.tup (.cons (.name 2) (.cons (.name 3) .nil))) (.val (.var 0)) .none) .nil) .nil)) .nil)
def f_scaled_by : Fd:=⟨["one", "fraction"],["one", "fraction", "radicand", "part"],b_scaled_by,false⟩
def i_opposite : Nat:=9
def b_opposite : Ss:=(.cons (.ret (.call 5 (.cons (.var 0) (.cons (.tup (.cons (.neg (.cst (.int 1))) (.cons (.cst (.int 1)) .nil))) .nil)) .nil)) .nil)
def f_opposite : Fd:=⟨["one"],["one"],b_opposite,false⟩
def b_multiplied_2 : Ss:=(.cons (.asg (.name 7) (.call 0 (.cons (.var 3) (.cons (.var 5) .nil)) .nil)) (.cons (.asg (.name 8) (.bin .Mult (.bin .FloorDiv (.var 3) (.var 7)) (.bin .FloorDiv (.var 5) (.var 7)))) (.cons (.app 2 (.tup (.cons (.var 8) (.cons (.call 4 (.cons (.call 4 (.cons (.var 4) (.cons (.var 6) .nil)) .nil) (.cons (.tup (.cons (.var 7) (.cons (.cst (.int 1)) .nil))) .nil)) .nil) .nil)))) .nil)))
def b_multiplied_1 : Ss:=(.cons (.for (.tup (.cons (.name 5) (.cons (.name 6) .nil))) (.val (.var 1)) b_multiplied_2) .nil)
def i_multiplied : Nat:=10
def b_multiplied : Ss:=(.cons (.new 2 (.lst .nil)) (.cons (.for (.tup (.cons (.name 3) (.cons (.name 4) .nil))) (.val (.var 0)) b_multiplied_1) (.cons (.frz 2) (.cons (.ret (.call 3 (.cons (.var 2) .nil) .nil)) .nil))))
def f_multiplied : Fd:=⟨["one", "other"],["one", "other", "found", "radicand", "part", "another", "more", "shared", "left"],b_multiplied,false⟩
def b_least_prime_1 : Ss:=(.cons (.aug 1 .Add (.cst (.int 1))) .nil)
def i_least_prime : Nat:=11
def b_least_prime : Ss:=(.cons (.asg (.name 1) (.cst (.int 2))) (.cons (.while (.cmp .NotEq (.bin .Mod (.var 0) (.var 1)) (.cst (.int 0))) b_least_prime_1) (.cons (.ret (.var 1)) .nil)))
def f_least_prime : Fd:=⟨["number"],["number", "divisor"],b_least_prime,false⟩
def i_parted : Nat:=12
def b_parted : Ss:=(.cons (.asg (.name 1) (.comp [("radicand",2),("part",3)] (.call 6 (.cons (.var 2) .nil) .nil) (.tup (.cons (.name 2) (.cons (.name 3) .nil))) (.val (.var 0)) (.some (.cmp .Gt (.var 2) (.cst (.int 1)))))) (.cons (.ite (.not (.var 1)) (.cons (.ret (.tup (.cons (.cst (.int 1)) (.cons (.var 0) (.cons (.tup .nil) .nil))))) .nil) .nil) (.cons (.asg (.name 4) (.ix (.var 1) (.cst (.int 0)))) (.cons (.asg (.name 5) (.comp [("radicand",2),("part",3)] (.tup (.cons (.var 2) (.cons (.var 3) .nil))) (.tup (.cons (.name 2) (.cons (.name 3) .nil))) (.val (.var 0)) (.some (.cmp .NotEq (.bin .Mod (.var 2) (.var 4)) (.cst (.int 0)))))) (.cons (.asg (.name 6) (.comp [("radicand",2),("part",3)] (.tup (.cons (.bin .FloorDiv (.var 2) (.var 4)) (.cons (.var 3) .nil))) (.tup (.cons (.name 2) (.cons (.name 3) .nil))) (.val (.var 0)) (.some (.cmp .Eq (.bin .Mod (.var 2) (.var 4)) (.cst (.int 0)))))) (.cons (.ret (.tup (.cons (.var 4) (.cons (.call 3 (.cons (.var 5) .nil) .nil) (.cons (.call 3 (.cons (.var 6) .nil) .nil) .nil))))) .nil))))))
def f_parted : Fd:=⟨["one"],["one", "primes", "radicand", "part", "prime", "bare", "others"],b_parted,false⟩
def i_norm_of : Nat:=13
def b_norm_of : Ss:=(.cons (.ret (.call 7 (.cons (.call 8 (.cons (.var 1) (.cons (.var 1) .nil)) .nil) (.cons (.call 5 (.cons (.call 8 (.cons (.var 2) (.cons (.var 2) .nil)) .nil) (.cons (.tup (.cons (.neg (.var 0)) (.cons (.cst (.int 1)) .nil))) .nil)) .nil) .nil)) .nil)) .nil)
def f_norm_of : Fd:=⟨["prime", "bare", "others"],["prime", "bare", "others"],b_norm_of,false⟩
def i_sign : Nat:=14
def b_sign : Ss:=(.cons (.ite (.cmp .Eq (.var 0) (.tup .nil)) (.cons (.ret (.cst (.int 0))) .nil) .nil) (.cons (.asg (.tup (.cons (.name 1) (.cons (.name 2) (.cons (.name 3) .nil)))) (.call 9 (.cons (.var 0) .nil) .nil)) (.cons (.ite (.cmp .Eq (.var 1) (.cst (.int 1))) (.cons (.ret (.ite (.cmp .Gt (.ix (.ix (.ix (.var 0) (.cst (.int 0))) (.cst (.int 1))) (.cst (.int 0))) (.cst (.int 0))) (.cst (.int 1)) (.neg (.cst (.int 1))))) .nil) .nil) (.cons (.par [4,5] (.cons (.call 10 (.cons (.var 2) .nil) .nil) (.cons (.call 10 (.cons (.var 3) .nil) .nil) .nil))) (.cons (.ite (.cmp .In (.var 5) (.tup (.cons (.cst (.int 0)) (.cons (.var 4) .nil)))) (.cons (.ret (.var 4)) .nil) .nil) (.cons (.ret (.ite (.cmp .Eq (.var 4) (.cst (.int 0))) (.var 5) (.bin .Mult (.var 4) (.call 10 (.cons (.call 11 (.cons (.var 1) (.cons (.var 2) (.cons (.var 3) .nil))) .nil) .nil) .nil)))) .nil))))))
def f_sign : Fd:=⟨["one"],["one", "prime", "bare", "others", "first", "second"],b_sign,false⟩
def i_below : Nat:=15
def b_below : Ss:=(.cons (.ret (.cmp .Lt (.call 10 (.cons (.call 7 (.cons (.var 0) (.cons (.call 12 (.cons (.var 1) .nil) .nil) .nil)) .nil) .nil) .nil) (.cst (.int 0)))) .nil)
def f_below : Fd:=⟨["one", "other"],["one", "other"],b_below,false⟩
def b_floor_1 : Ss:=(.cons (.aug 1 .Add (.bin .FloorDiv (.bin .Mult (.ix (.var 3) (.cst (.int 0))) (.call 13 (.cons (.bin .Mult (.bin .Mult (.var 2) (.glob 1)) (.glob 1)) .nil) .nil)) (.bin .Mult (.ix (.var 3) (.cst (.int 1))) (.glob 1)))) .nil)
def wc_floor_2 : E:=(.call 14 (.cons (.var 0) (.cons (.call 15 (.cons (.tup (.cons (.var 1) (.cons (.cst (.int 1)) .nil))) .nil) .nil) .nil)) .nil)
def b_floor_2 : Ss:=(.cons (.aug 1 .Sub (.cst (.int 1))) .nil)
def wc_floor_3 : E:=(.not (.call 14 (.cons (.var 0) (.cons (.call 15 (.cons (.tup (.cons (.bin .Add (.var 1) (.cst (.int 1))) (.cons (.cst (.int 1)) .nil))) .nil) .nil) .nil)) .nil))
def b_floor_3 : Ss:=(.cons (.aug 1 .Add (.cst (.int 1))) .nil)
def i_floor : Nat:=16
def b_floor : Ss:=(.cons (.asg (.name 1) (.cst (.int 0))) (.cons (.for (.tup (.cons (.name 2) (.cons (.name 3) .nil))) (.val (.var 0)) b_floor_1) (.cons (.while wc_floor_2 b_floor_2) (.cons (.while wc_floor_3 b_floor_3) (.cons (.ret (.var 1)) .nil)))))
def f_floor : Fd:=⟨["one"],["one", "guess", "radicand", "part"],b_floor,false⟩
def b_figures_1 : Ss:=(.cons (.aug 2 .Mult (.cst (.int 10))) .nil)
def i_figures : Nat:=17
def b_figures : Ss:=(.cons (.asg (.name 2) (.cst (.int 1))) (.cons (.for (.name 3) (.rng1 (.var 1)) b_figures_1) (.cons (.ret (.call 16 (.cons (.call 5 (.cons (.var 0) (.cons (.tup (.cons (.var 2) (.cons (.cst (.int 1)) .nil))) .nil)) .nil) .nil) .nil)) .nil)))
def f_figures : Fd:=⟨["one", "places"],["one", "places", "times", "turn"],b_figures,false⟩
def i__law_draw : Nat:=18
def b__law_draw : Ss:=(.cons (.tcnt 1 (.bin .Add (.tcount 1) (.cst (.int 1)))) (.cons (.asg (.name 3) (.ite (.var 0) (.bin .Mod (.tcount 1) (.blt .len (.var 0))) (.cst (.int 0)))) (.cons (.asg (.name 4) (.tget 1 (.var 3) (.ite (.var 0) (.ix (.var 0) (.var 3)) (.cst (.int 0))))) (.cons (.ite (.cmp .GtE (.var 4) (.bin .Pow (.cst (.int 10)) (.cst (.int 18)))) (.cons (.trst 1 (.var 3) (.bin .FloorDiv (.var 4) (.var 2))) (.cons (.ret (.bin .Mod (.var 4) (.var 2))) .nil)) .nil) (.cons (.asg (.name 5) (.bin .Mod (.bin .Add (.var 4) (.bin .Mult (.cst (.int 104729)) (.tcount 1))) (.cst (.int 4294967291)))) (.cons (.asg (.name 5) (.bin .Mod (.bin .Pow (.var 5) (.cst (.int 5))) (.cst (.int 4294967279)))) (.cons (.ret (.bin .Mod (.bin .FloorDiv (.bin .Mod (.bin .Add (.bin .Mult (.bin .FloorDiv (.var 5) (.cst (.int 64))) (.cst (.int 69621))) (.var 5)) (.cst (.int 4294967231))) (.cst (.int 8))) (.var 2))) .nil)))))))
def f__law_draw : Fd:=⟨["script", "town", "many"],["script", "town", "many", "at", "rest", "number"],b__law_draw,false⟩
def b__law_frac_1 : Ss:=(.cons (.par [2,3] (.cons (.var 3) (.cons (.bin .Mod (.var 2) (.var 3)) .nil))) .nil)
def i__law_frac : Nat:=19
def b__law_frac : Ss:=(.cons (.par [2,3] (.cons (.blt .abs (.var 0)) (.cons (.blt .abs (.var 1)) .nil))) (.cons (.while (.cmp .Gt (.var 3) (.cst (.int 0))) b__law_frac_1) (.cons (.asg (.name 2) (.ite (.cmp .Gt (.var 1) (.cst (.int 0))) (.var 2) (.bin .Sub (.cst (.int 0)) (.var 2)))) (.cons (.ret (.tup (.cons (.bin .FloorDiv (.var 0) (.var 2)) (.cons (.bin .FloorDiv (.var 1) (.var 2)) .nil)))) .nil))))
def f__law_frac : Fd:=⟨["top", "bottom"],["top", "bottom", "one", "other_here"],b__law_frac,false⟩
def i__law_a_frac : Nat:=20
def b__law_a_frac : Ss:=(.cons (.ret (.call 17 (.cons (.bin .Sub (.call 18 (.cons (.var 0) (.cons (.var 1) (.cons (.bin .Add (.bin .Mult (.cst (.int 2)) (.var 2)) (.cst (.int 1))) .nil))) .nil) (.var 2)) (.cons (.bin .Add (.cst (.int 1)) (.call 18 (.cons (.var 0) (.cons (.var 1) (.cons (.cst (.int 3)) .nil))) .nil)) .nil)) .nil)) .nil)
def f__law_a_frac : Fd:=⟨["script", "town", "size"],["script", "town", "size"],b__law_a_frac,false⟩
def b__law_root_1 : Ss:=(.cons (.asg (.name 1) (.var 2)) (.cons (.asg (.name 2) (.bin .FloorDiv (.bin .Add (.var 1) (.bin .FloorDiv (.var 0) (.var 1))) (.cst (.int 2)))) .nil))
def i__law_root : Nat:=21
def b__law_root : Ss:=(.cons (.asg (.name 1) (.bin .Add (.var 0) (.cst (.int 1)))) (.cons (.asg (.name 2) (.bin .FloorDiv (.bin .Add (.var 1) (.cst (.int 1))) (.cst (.int 2)))) (.cons (.while (.cmp .Lt (.var 2) (.var 1)) b__law_root_1) (.cons (.ret (.var 1)) .nil))))
def f__law_root : Fd:=⟨["number"],["number", "found", "more"],b__law_root,false⟩
def i__law_near : Nat:=22
def b__law_near : Ss:=(.cons (.asg (.name 1) (.blt .int (.bin .Add (.cst (.str "1")) (.bin .Mult (.cst (.str "0")) (.cst (.int 40)))))) (.cons (.ret (.blt .sum (.comp [("radicand",2),("part",3)] (.bin .FloorDiv (.bin .Mult (.ix (.var 3) (.cst (.int 0))) (.call 19 (.cons (.bin .Mult (.bin .Mult (.var 2) (.var 1)) (.var 1)) .nil) .nil)) (.ix (.var 3) (.cst (.int 1)))) (.tup (.cons (.name 2) (.cons (.name 3) .nil))) (.val (.var 0)) .none))) .nil))
def f__law_near : Fd:=⟨["one"],["one", "scale", "radicand", "part"],b__law_near,false⟩
def b__law_a_surd_1 : Ss:=(.cons (.asg (.name 5) (.call 20 (.cons (.var 0) (.cons (.var 1) (.cons (.cst (.int 5)) .nil))) .nil)) (.cons (.ite (.cmp .NotEq (.ix (.var 5) (.cst (.int 0))) (.cst (.int 0))) (.cons (.put 3 (.ix (.lst (.cons (.cst (.int 1)) (.cons (.cst (.int 2)) (.cons (.cst (.int 3)) (.cons (.cst (.int 5)) (.cons (.cst (.int 6)) (.cons (.cst (.int 7)) (.cons (.cst (.int 10)) (.cons (.cst (.int 30)) .nil))))))))) (.call 18 (.cons (.var 0) (.cons (.var 1) (.cons (.cst (.int 8)) .nil))) .nil)) (.var 5)) .nil) .nil) .nil))
def i__law_a_surd : Nat:=23
def b__law_a_surd : Ss:=(.cons (.new 3 (.dsp [])) (.cons (.for (.name 4) (.rng1 (.call 18 (.cons (.var 0) (.cons (.var 1) (.cons (.bin .Add (.var 2) (.cst (.int 1))) .nil))) .nil)) b__law_a_surd_1) (.cons (.ret (.blt .tuple (.comp [("radicand",6)] (.tup (.cons (.var 6) (.cons (.dix (.bor 3) (.var 6)) .nil))) (.name 6) (.val (.blt .sorted (.bor 3))) .none))) .nil)))
def f__law_a_surd : Fd:=⟨["script", "town", "most"],["script", "town", "most", "found", "k", "part", "radicand"],b__law_a_surd,false⟩
def i__law_is : Nat:=24
def b__law_is : Ss:=(.cons (.ret (.and (.isa (.var 0) .bool) (.cmp .Eq (.var 0) (.var 1)))) .nil)
def f__law_is : Fd:=⟨["told", "due"],["told", "due"],b__law_is,false⟩
def i__law_sign_of : Nat:=25
def b__law_sign_of : Ss:=(.cons (.ite (.cmp .Lt (.blt .abs (.var 0)) (.cst (.int 1000000))) (.cons (.ret (.cst (.int 0))) .nil) .nil) (.cons (.ret (.ite (.cmp .Gt (.var 0) (.cst (.int 0))) (.cst (.int 1)) (.neg (.cst (.int 1))))) .nil))
def f__law_sign_of : Fd:=⟨["number"],["number"],b__law_sign_of,false⟩
def b_law_1 : Ss:=(.cons (.par [3,4] (.cons (.call 21 (.cons (.var 0) (.cons (.var 1) (.cons (.cst (.int 4)) .nil))) .nil) (.cons (.call 21 (.cons (.var 0) (.cons (.var 1) (.cons (.cst (.int 3)) .nil))) .nil) .nil))) (.cons (.ite (.cmp .Eq (.call 18 (.cons (.var 0) (.cons (.var 1) (.cons (.cst (.int 3)) .nil))) .nil) (.cst (.int 0))) (.cons (.asg (.name 3) (.call 7 (.cons (.var 3) (.cons (.call 12 (.cons (.call 15 (.cons (.tup (.cons (.call 16 (.cons (.var 3) .nil) .nil) (.cons (.cst (.int 1)) .nil))) .nil) .nil) .nil) .nil) .nil)) .nil)) (.cons (.asg (.name 3) (.call 8 (.cons (.var 3) (.cons (.var 3) .nil)) .nil)) .nil)) .nil) (.cons (.par [5,6] (.cons (.call 22 (.cons (.var 3) .nil) .nil) (.cons (.call 22 (.cons (.var 4) .nil) .nil) .nil))) (.cons (.ite (.or (.cmp .NotEq (.call 10 (.cons (.var 3) .nil) .nil) (.call 23 (.cons (.var 5) .nil) .nil)) (.cmp .NotEq (.call 10 (.cons (.call 7 (.cons (.var 3) (.cons (.call 12 (.cons (.var 3) .nil) .nil) .nil)) .nil) .nil) .nil) (.cst (.int 0)))) (.cons (.ret (.cst (.bl false))) .nil) .nil) (.cons (.ite (.not (.call 24 (.cons (.call 25 (.cons (.var 3) .nil) (.cons (.var 4) .nil)) (.cons (.cmp .Lt (.call 23 (.cons (.bin .Sub (.var 5) (.var 6)) .nil) .nil) (.cst (.int 0))) .nil)) .nil)) (.cons (.ret (.cst (.bl false))) .nil) .nil) (.cons (.asg (.name 7) (.call 18 (.cons (.var 0) (.cons (.var 1) (.cons (.cst (.int 6)) .nil))) .nil)) (.cons (.asg (.name 8) (.blt .int (.bin .Add (.cst (.str "1")) (.bin .Mult (.cst (.str "0")) (.bin .Sub (.cst (.int 40)) (.var 7)))))) (.cons (.asg (.name 9) (.bin .FloorDiv (.bin .Add (.var 5) (.cst (.int 1000000))) (.var 8))) (.cons (.ite (.or (.cmp .NotEq (.call 26 (.cons (.var 3) (.cons (.var 7) .nil)) .nil) (.var 9)) (.and (.cmp .Eq (.var 7) (.cst (.int 0))) (.cmp .NotEq (.call 16 (.cons (.var 3) .nil) .nil) (.var 9)))) (.cons (.ret (.cst (.bl false))) .nil) .nil) (.cons (.ite (.cmp .NotEq (.call 16 (.cons (.var 3) .nil) .nil) (.call 27 (.cons (.var 3) .nil) (.cons (.cst (.int 0)) .nil))) (.cons (.ret (.cst (.bl false))) .nil) .nil) .nil))))))))))
def b_law : Ss:=(.cons (.for (.name 2) (.rng1 (.cst (.int 4))) b_law_1) (.cons (.ret (.and (.cmp .Eq (.call 16 (.cons (.tup .nil) .nil) .nil) (.cst (.int 0))) (.and (.cmp .Eq (.call 26 (.cons (.call 15 (.cons (.tup (.cons (.neg (.cst (.int 1))) (.cons (.cst (.int 3)) .nil))) .nil) .nil) (.cons (.cst (.int 2)) .nil)) .nil) (.neg (.cst (.int 34)))) (.cmp .Eq (.call 10 (.cons (.tup .nil) .nil) .nil) (.cst (.int 0)))))) .nil))
def n_law : List Str:=["script", "town", "k", "one", "two", "first", "second", "places_here", "unit", "due"]
def s0 : Sh:=⟨"greatest",2,[],[],0⟩
def s1 : Sh:=⟨"frac",2,[],[],1⟩
def s2 : Sh:=⟨"frac_plus",2,[],[],2⟩
def s3 : Sh:=⟨"gathered",1,[],[],5⟩
def s4 : Sh:=⟨"frac_times",2,[],[],3⟩
def s5 : Sh:=⟨"scaled_by",2,[],[],8⟩
def s6 : Sh:=⟨"least_prime",1,[],[],11⟩
def s7 : Sh:=⟨"added",2,[],[],7⟩
def s8 : Sh:=⟨"multiplied",2,[],[],10⟩
def s9 : Sh:=⟨"parted",1,[],[],12⟩
def s10 : Sh:=⟨"sign",1,[],[],14⟩
def s11 : Sh:=⟨"norm_of",3,[],[],13⟩
def s12 : Sh:=⟨"opposite",1,[],[],9⟩
def s13 : Sh:=⟨"whole_root",1,[],[],4⟩
def s14 : Sh:=⟨"below",2,[],[],15⟩
def s15 : Sh:=⟨"surd",1,[],[],6⟩
def s16 : Sh:=⟨"floor",1,[],[],16⟩
def s17 : Sh:=⟨"_law_frac",2,[],[],19⟩
def s18 : Sh:=⟨"_law_draw",3,[],[],18⟩
def s19 : Sh:=⟨"_law_root",1,[],[],21⟩
def s20 : Sh:=⟨"_law_a_frac",3,[],[],20⟩
def s21 : Sh:=⟨"_law_a_surd",3,[],[],23⟩
def s22 : Sh:=⟨"_law_near",1,[],[],22⟩
def s23 : Sh:=⟨"_law_sign_of",1,[],[],25⟩
def s24 : Sh:=⟨"_law_is",2,[],[],24⟩
def s25 : Sh:=⟨"below",1,["other"],[],15⟩
def s26 : Sh:=⟨"figures",2,[],[],17⟩
def s27 : Sh:=⟨"figures",1,["places"],[],17⟩
def shs : List Sh:=[s0,s1,s2,s3,s4,s5,s6,s7,s8,s9,s10,s11,s12,s13,s14,s15,s16,s17,s18,s19,s20,s21,s22,s23,s24,s25,s26,s27]
def fs : List Fd:=[f_greatest,f_frac,f_frac_plus,f_frac_times,f_whole_root,f_gathered,f_surd,f_added,f_scaled_by,f_opposite,f_multiplied,f_least_prime,f_parted,f_norm_of,f_sign,f_below,f_floor,f_figures,f__law_draw,f__law_frac,f__law_a_frac,f__law_root,f__law_near,f__law_a_surd,f__law_is,f__law_sign_of]
abbrev tb : Tb:=⟨shs,cst.map (·.1),exs,hd⟩
abbrev p : Pg:=⟨tb,fs.map .df,csOf cst⟩
theorem ob_eq (s : PySem.W.SharedT) : ob s = hk.obs s.abs:=He.obsX_eq (HandSHeadRun.getT_eq s)
theorem chk : okDefs tb lks fs fn = true:=by decide +kernel
theorem chkL : okLaw tb n_law b_law d_law d__law_begun = true:=by decide +kernel
theorem hear : hd = true → HearIs fn exs d_law 0:=fun z=>by cases z
theorem bn0 {K : PySem.W.Frag} {mg : Str → Option Value} {fd : FuncData} (F : FunD K d_greatest.name d_greatest.qual d_greatest.params d_greatest.body d_greatest.scope (d_greatest.dvs K) (d_greatest.kws K) (He.fAd K d_greatest.at_) fd) (g : mg "greatest" = some (.ref (He.fAd K d_greatest.at_))) : Bnd K mg s0 (He.fAd K d_greatest.at_) fd ["one", "other"]:=by
 exact ⟨g,F.kp,rfl,fun _=>⟨[],.nil,FunD.bindsN (ps:=["one", "other"]) F fun _ _ _ _ _ _ us hl=>match us,hl with | [_,_],_=>rfl⟩,fun z=>absurd rfl z⟩
theorem bn1 {K : PySem.W.Frag} {mg : Str → Option Value} {fd : FuncData} (F : FunD K d_frac.name d_frac.qual d_frac.params d_frac.body d_frac.scope (d_frac.dvs K) (d_frac.kws K) (He.fAd K d_frac.at_) fd) (g : mg "frac" = some (.ref (He.fAd K d_frac.at_))) : Bnd K mg s1 (He.fAd K d_frac.at_) fd ["top", "bottom"]:=by
 exact ⟨g,F.kp,rfl,fun _=>⟨[],.nil,FunD.bindsN (ps:=["top", "bottom"]) F fun _ _ _ _ _ _ us hl=>match us,hl with | [_,_],_=>rfl⟩,fun z=>absurd rfl z⟩
theorem bn2 {K : PySem.W.Frag} {mg : Str → Option Value} {fd : FuncData} (F : FunD K d_frac_plus.name d_frac_plus.qual d_frac_plus.params d_frac_plus.body d_frac_plus.scope (d_frac_plus.dvs K) (d_frac_plus.kws K) (He.fAd K d_frac_plus.at_) fd) (g : mg "frac_plus" = some (.ref (He.fAd K d_frac_plus.at_))) : Bnd K mg s2 (He.fAd K d_frac_plus.at_) fd ["one", "other"]:=by
 exact ⟨g,F.kp,rfl,fun _=>⟨[],.nil,FunD.bindsN (ps:=["one", "other"]) F fun _ _ _ _ _ _ us hl=>match us,hl with | [_,_],_=>rfl⟩,fun z=>absurd rfl z⟩
theorem bn3 {K : PySem.W.Frag} {mg : Str → Option Value} {fd : FuncData} (F : FunD K d_gathered.name d_gathered.qual d_gathered.params d_gathered.body d_gathered.scope (d_gathered.dvs K) (d_gathered.kws K) (He.fAd K d_gathered.at_) fd) (g : mg "gathered" = some (.ref (He.fAd K d_gathered.at_))) : Bnd K mg s3 (He.fAd K d_gathered.at_) fd ["pairs"]:=by
 exact ⟨g,F.kp,rfl,fun _=>⟨[],.nil,FunD.bindsN (ps:=["pairs"]) F fun _ _ _ _ _ _ us hl=>match us,hl with | [_],_=>rfl⟩,fun z=>absurd rfl z⟩
theorem bn4 {K : PySem.W.Frag} {mg : Str → Option Value} {fd : FuncData} (F : FunD K d_frac_times.name d_frac_times.qual d_frac_times.params d_frac_times.body d_frac_times.scope (d_frac_times.dvs K) (d_frac_times.kws K) (He.fAd K d_frac_times.at_) fd) (g : mg "frac_times" = some (.ref (He.fAd K d_frac_times.at_))) : Bnd K mg s4 (He.fAd K d_frac_times.at_) fd ["one", "other"]:=by
 exact ⟨g,F.kp,rfl,fun _=>⟨[],.nil,FunD.bindsN (ps:=["one", "other"]) F fun _ _ _ _ _ _ us hl=>match us,hl with | [_,_],_=>rfl⟩,fun z=>absurd rfl z⟩
theorem bn5 {K : PySem.W.Frag} {mg : Str → Option Value} {fd : FuncData} (F : FunD K d_scaled_by.name d_scaled_by.qual d_scaled_by.params d_scaled_by.body d_scaled_by.scope (d_scaled_by.dvs K) (d_scaled_by.kws K) (He.fAd K d_scaled_by.at_) fd) (g : mg "scaled_by" = some (.ref (He.fAd K d_scaled_by.at_))) : Bnd K mg s5 (He.fAd K d_scaled_by.at_) fd ["one", "fraction"]:=by
 exact ⟨g,F.kp,rfl,fun _=>⟨[],.nil,FunD.bindsN (ps:=["one", "fraction"]) F fun _ _ _ _ _ _ us hl=>match us,hl with | [_,_],_=>rfl⟩,fun z=>absurd rfl z⟩
theorem bn6 {K : PySem.W.Frag} {mg : Str → Option Value} {fd : FuncData} (F : FunD K d_least_prime.name d_least_prime.qual d_least_prime.params d_least_prime.body d_least_prime.scope (d_least_prime.dvs K) (d_least_prime.kws K) (He.fAd K d_least_prime.at_) fd) (g : mg "least_prime" = some (.ref (He.fAd K d_least_prime.at_))) : Bnd K mg s6 (He.fAd K d_least_prime.at_) fd ["number"]:=by
 exact ⟨g,F.kp,rfl,fun _=>⟨[],.nil,FunD.bindsN (ps:=["number"]) F fun _ _ _ _ _ _ us hl=>match us,hl with | [_],_=>rfl⟩,fun z=>absurd rfl z⟩
theorem bn7 {K : PySem.W.Frag} {mg : Str → Option Value} {fd : FuncData} (F : FunD K d_added.name d_added.qual d_added.params d_added.body d_added.scope (d_added.dvs K) (d_added.kws K) (He.fAd K d_added.at_) fd) (g : mg "added" = some (.ref (He.fAd K d_added.at_))) : Bnd K mg s7 (He.fAd K d_added.at_) fd ["one", "other"]:=by
 exact ⟨g,F.kp,rfl,fun _=>⟨[],.nil,FunD.bindsN (ps:=["one", "other"]) F fun _ _ _ _ _ _ us hl=>match us,hl with | [_,_],_=>rfl⟩,fun z=>absurd rfl z⟩
theorem bn8 {K : PySem.W.Frag} {mg : Str → Option Value} {fd : FuncData} (F : FunD K d_multiplied.name d_multiplied.qual d_multiplied.params d_multiplied.body d_multiplied.scope (d_multiplied.dvs K) (d_multiplied.kws K) (He.fAd K d_multiplied.at_) fd) (g : mg "multiplied" = some (.ref (He.fAd K d_multiplied.at_))) : Bnd K mg s8 (He.fAd K d_multiplied.at_) fd ["one", "other"]:=by
 exact ⟨g,F.kp,rfl,fun _=>⟨[],.nil,FunD.bindsN (ps:=["one", "other"]) F fun _ _ _ _ _ _ us hl=>match us,hl with | [_,_],_=>rfl⟩,fun z=>absurd rfl z⟩
theorem bn9 {K : PySem.W.Frag} {mg : Str → Option Value} {fd : FuncData} (F : FunD K d_parted.name d_parted.qual d_parted.params d_parted.body d_parted.scope (d_parted.dvs K) (d_parted.kws K) (He.fAd K d_parted.at_) fd) (g : mg "parted" = some (.ref (He.fAd K d_parted.at_))) : Bnd K mg s9 (He.fAd K d_parted.at_) fd ["one"]:=by
 exact ⟨g,F.kp,rfl,fun _=>⟨[],.nil,FunD.bindsN (ps:=["one"]) F fun _ _ _ _ _ _ us hl=>match us,hl with | [_],_=>rfl⟩,fun z=>absurd rfl z⟩
theorem bn10 {K : PySem.W.Frag} {mg : Str → Option Value} {fd : FuncData} (F : FunD K d_sign.name d_sign.qual d_sign.params d_sign.body d_sign.scope (d_sign.dvs K) (d_sign.kws K) (He.fAd K d_sign.at_) fd) (g : mg "sign" = some (.ref (He.fAd K d_sign.at_))) : Bnd K mg s10 (He.fAd K d_sign.at_) fd ["one"]:=by
 exact ⟨g,F.kp,rfl,fun _=>⟨[],.nil,FunD.bindsN (ps:=["one"]) F fun _ _ _ _ _ _ us hl=>match us,hl with | [_],_=>rfl⟩,fun z=>absurd rfl z⟩
theorem bn11 {K : PySem.W.Frag} {mg : Str → Option Value} {fd : FuncData} (F : FunD K d_norm_of.name d_norm_of.qual d_norm_of.params d_norm_of.body d_norm_of.scope (d_norm_of.dvs K) (d_norm_of.kws K) (He.fAd K d_norm_of.at_) fd) (g : mg "norm_of" = some (.ref (He.fAd K d_norm_of.at_))) : Bnd K mg s11 (He.fAd K d_norm_of.at_) fd ["prime", "bare", "others"]:=by
 exact ⟨g,F.kp,rfl,fun _=>⟨[],.nil,FunD.bindsN (ps:=["prime", "bare", "others"]) F fun _ _ _ _ _ _ us hl=>match us,hl with | [_,_,_],_=>rfl⟩,fun z=>absurd rfl z⟩
theorem bn12 {K : PySem.W.Frag} {mg : Str → Option Value} {fd : FuncData} (F : FunD K d_opposite.name d_opposite.qual d_opposite.params d_opposite.body d_opposite.scope (d_opposite.dvs K) (d_opposite.kws K) (He.fAd K d_opposite.at_) fd) (g : mg "opposite" = some (.ref (He.fAd K d_opposite.at_))) : Bnd K mg s12 (He.fAd K d_opposite.at_) fd ["one"]:=by
 exact ⟨g,F.kp,rfl,fun _=>⟨[],.nil,FunD.bindsN (ps:=["one"]) F fun _ _ _ _ _ _ us hl=>match us,hl with | [_],_=>rfl⟩,fun z=>absurd rfl z⟩
theorem bn13 {K : PySem.W.Frag} {mg : Str → Option Value} {fd : FuncData} (F : FunD K d_whole_root.name d_whole_root.qual d_whole_root.params d_whole_root.body d_whole_root.scope (d_whole_root.dvs K) (d_whole_root.kws K) (He.fAd K d_whole_root.at_) fd) (g : mg "whole_root" = some (.ref (He.fAd K d_whole_root.at_))) : Bnd K mg s13 (He.fAd K d_whole_root.at_) fd ["number"]:=by
 exact ⟨g,F.kp,rfl,fun _=>⟨[],.nil,FunD.bindsN (ps:=["number"]) F fun _ _ _ _ _ _ us hl=>match us,hl with | [_],_=>rfl⟩,fun z=>absurd rfl z⟩
theorem bn14 {K : PySem.W.Frag} {mg : Str → Option Value} {fd : FuncData} (F : FunD K d_below.name d_below.qual d_below.params d_below.body d_below.scope (d_below.dvs K) (d_below.kws K) (He.fAd K d_below.at_) fd) (g : mg "below" = some (.ref (He.fAd K d_below.at_))) : Bnd K mg s14 (He.fAd K d_below.at_) fd ["one", "other"]:=by
 exact ⟨g,F.kp,rfl,fun _=>⟨[],.nil,FunD.bindsN (ps:=["one", "other"]) F fun _ _ _ _ _ _ us hl=>match us,hl with | [_,_],_=>rfl⟩,fun z=>absurd rfl z⟩
theorem bn15 {K : PySem.W.Frag} {mg : Str → Option Value} {fd : FuncData} (F : FunD K d_surd.name d_surd.qual d_surd.params d_surd.body d_surd.scope (d_surd.dvs K) (d_surd.kws K) (He.fAd K d_surd.at_) fd) (g : mg "surd" = some (.ref (He.fAd K d_surd.at_))) : Bnd K mg s15 (He.fAd K d_surd.at_) fd ["fraction"]:=by
 exact ⟨g,F.kp,rfl,fun _=>⟨[],.nil,FunD.bindsN (ps:=["fraction"]) F fun _ _ _ _ _ _ us hl=>match us,hl with | [_],_=>rfl⟩,fun z=>absurd rfl z⟩
theorem bn16 {K : PySem.W.Frag} {mg : Str → Option Value} {fd : FuncData} (F : FunD K d_floor.name d_floor.qual d_floor.params d_floor.body d_floor.scope (d_floor.dvs K) (d_floor.kws K) (He.fAd K d_floor.at_) fd) (g : mg "floor" = some (.ref (He.fAd K d_floor.at_))) : Bnd K mg s16 (He.fAd K d_floor.at_) fd ["one"]:=by
 exact ⟨g,F.kp,rfl,fun _=>⟨[],.nil,FunD.bindsN (ps:=["one"]) F fun _ _ _ _ _ _ us hl=>match us,hl with | [_],_=>rfl⟩,fun z=>absurd rfl z⟩
theorem bn17 {K : PySem.W.Frag} {mg : Str → Option Value} {fd : FuncData} (F : FunD K d__law_frac.name d__law_frac.qual d__law_frac.params d__law_frac.body d__law_frac.scope (d__law_frac.dvs K) (d__law_frac.kws K) (He.fAd K d__law_frac.at_) fd) (g : mg "_law_frac" = some (.ref (He.fAd K d__law_frac.at_))) : Bnd K mg s17 (He.fAd K d__law_frac.at_) fd ["top", "bottom"]:=by
 exact ⟨g,F.kp,rfl,fun _=>⟨[],.nil,FunD.bindsN (ps:=["top", "bottom"]) F fun _ _ _ _ _ _ us hl=>match us,hl with | [_,_],_=>rfl⟩,fun z=>absurd rfl z⟩
theorem bn18 {K : PySem.W.Frag} {mg : Str → Option Value} {fd : FuncData} (F : FunD K d__law_draw.name d__law_draw.qual d__law_draw.params d__law_draw.body d__law_draw.scope (d__law_draw.dvs K) (d__law_draw.kws K) (He.fAd K d__law_draw.at_) fd) (g : mg "_law_draw" = some (.ref (He.fAd K d__law_draw.at_))) : Bnd K mg s18 (He.fAd K d__law_draw.at_) fd ["script", "town", "many"]:=by
 exact ⟨g,F.kp,rfl,fun _=>⟨[],.nil,FunD.bindsN (ps:=["script", "town", "many"]) F fun _ _ _ _ _ _ us hl=>match us,hl with | [_,_,_],_=>rfl⟩,fun z=>absurd rfl z⟩
theorem bn19 {K : PySem.W.Frag} {mg : Str → Option Value} {fd : FuncData} (F : FunD K d__law_root.name d__law_root.qual d__law_root.params d__law_root.body d__law_root.scope (d__law_root.dvs K) (d__law_root.kws K) (He.fAd K d__law_root.at_) fd) (g : mg "_law_root" = some (.ref (He.fAd K d__law_root.at_))) : Bnd K mg s19 (He.fAd K d__law_root.at_) fd ["number"]:=by
 exact ⟨g,F.kp,rfl,fun _=>⟨[],.nil,FunD.bindsN (ps:=["number"]) F fun _ _ _ _ _ _ us hl=>match us,hl with | [_],_=>rfl⟩,fun z=>absurd rfl z⟩
theorem bn20 {K : PySem.W.Frag} {mg : Str → Option Value} {fd : FuncData} (F : FunD K d__law_a_frac.name d__law_a_frac.qual d__law_a_frac.params d__law_a_frac.body d__law_a_frac.scope (d__law_a_frac.dvs K) (d__law_a_frac.kws K) (He.fAd K d__law_a_frac.at_) fd) (g : mg "_law_a_frac" = some (.ref (He.fAd K d__law_a_frac.at_))) : Bnd K mg s20 (He.fAd K d__law_a_frac.at_) fd ["script", "town", "size"]:=by
 exact ⟨g,F.kp,rfl,fun _=>⟨[],.nil,FunD.bindsN (ps:=["script", "town", "size"]) F fun _ _ _ _ _ _ us hl=>match us,hl with | [_,_,_],_=>rfl⟩,fun z=>absurd rfl z⟩
theorem bn21 {K : PySem.W.Frag} {mg : Str → Option Value} {fd : FuncData} (F : FunD K d__law_a_surd.name d__law_a_surd.qual d__law_a_surd.params d__law_a_surd.body d__law_a_surd.scope (d__law_a_surd.dvs K) (d__law_a_surd.kws K) (He.fAd K d__law_a_surd.at_) fd) (g : mg "_law_a_surd" = some (.ref (He.fAd K d__law_a_surd.at_))) : Bnd K mg s21 (He.fAd K d__law_a_surd.at_) fd ["script", "town", "most"]:=by
 exact ⟨g,F.kp,rfl,fun _=>⟨[],.nil,FunD.bindsN (ps:=["script", "town", "most"]) F fun _ _ _ _ _ _ us hl=>match us,hl with | [_,_,_],_=>rfl⟩,fun z=>absurd rfl z⟩
theorem bn22 {K : PySem.W.Frag} {mg : Str → Option Value} {fd : FuncData} (F : FunD K d__law_near.name d__law_near.qual d__law_near.params d__law_near.body d__law_near.scope (d__law_near.dvs K) (d__law_near.kws K) (He.fAd K d__law_near.at_) fd) (g : mg "_law_near" = some (.ref (He.fAd K d__law_near.at_))) : Bnd K mg s22 (He.fAd K d__law_near.at_) fd ["one"]:=by
 exact ⟨g,F.kp,rfl,fun _=>⟨[],.nil,FunD.bindsN (ps:=["one"]) F fun _ _ _ _ _ _ us hl=>match us,hl with | [_],_=>rfl⟩,fun z=>absurd rfl z⟩
theorem bn23 {K : PySem.W.Frag} {mg : Str → Option Value} {fd : FuncData} (F : FunD K d__law_sign_of.name d__law_sign_of.qual d__law_sign_of.params d__law_sign_of.body d__law_sign_of.scope (d__law_sign_of.dvs K) (d__law_sign_of.kws K) (He.fAd K d__law_sign_of.at_) fd) (g : mg "_law_sign_of" = some (.ref (He.fAd K d__law_sign_of.at_))) : Bnd K mg s23 (He.fAd K d__law_sign_of.at_) fd ["number"]:=by
 exact ⟨g,F.kp,rfl,fun _=>⟨[],.nil,FunD.bindsN (ps:=["number"]) F fun _ _ _ _ _ _ us hl=>match us,hl with | [_],_=>rfl⟩,fun z=>absurd rfl z⟩
theorem bn24 {K : PySem.W.Frag} {mg : Str → Option Value} {fd : FuncData} (F : FunD K d__law_is.name d__law_is.qual d__law_is.params d__law_is.body d__law_is.scope (d__law_is.dvs K) (d__law_is.kws K) (He.fAd K d__law_is.at_) fd) (g : mg "_law_is" = some (.ref (He.fAd K d__law_is.at_))) : Bnd K mg s24 (He.fAd K d__law_is.at_) fd ["told", "due"]:=by
 exact ⟨g,F.kp,rfl,fun _=>⟨[],.nil,FunD.bindsN (ps:=["told", "due"]) F fun _ _ _ _ _ _ us hl=>match us,hl with | [_,_],_=>rfl⟩,fun z=>absurd rfl z⟩
theorem bn25 {K : PySem.W.Frag} {mg : Str → Option Value} {fd : FuncData} (F : FunD K d_below.name d_below.qual d_below.params d_below.body d_below.scope (d_below.dvs K) (d_below.kws K) (He.fAd K d_below.at_) fd) (g : mg "below" = some (.ref (He.fAd K d_below.at_))) : Bnd K mg s25 (He.fAd K d_below.at_) fd ["one", "other"]:=by
 exact ⟨g,F.kp,rfl,fun z=>absurd z (by decide),fun _=>⟨_,kbindsP (ps:=["one", "other"]) F 1 ["other"] fun _ _ _ _ _ _ us ws h1 h2=>match us,ws,h1,h2 with | [_],[_],_,_=>rfl⟩⟩
theorem bn26 {K : PySem.W.Frag} {mg : Str → Option Value} {fd : FuncData} (F : FunD K d_figures.name d_figures.qual d_figures.params d_figures.body d_figures.scope (d_figures.dvs K) (d_figures.kws K) (He.fAd K d_figures.at_) fd) (g : mg "figures" = some (.ref (He.fAd K d_figures.at_))) : Bnd K mg s26 (He.fAd K d_figures.at_) fd ["one", "places"]:=by
 exact ⟨g,F.kp,rfl,fun _=>⟨[],.nil,FunD.bindsN (ps:=["one", "places"]) F fun _ _ _ _ _ _ us hl=>match us,hl with | [_,_],_=>rfl⟩,fun z=>absurd rfl z⟩
theorem bn27 {K : PySem.W.Frag} {mg : Str → Option Value} {fd : FuncData} (F : FunD K d_figures.name d_figures.qual d_figures.params d_figures.body d_figures.scope (d_figures.dvs K) (d_figures.kws K) (He.fAd K d_figures.at_) fd) (g : mg "figures" = some (.ref (He.fAd K d_figures.at_))) : Bnd K mg s27 (He.fAd K d_figures.at_) fd ["one", "places"]:=by
 exact ⟨g,F.kp,rfl,fun z=>absurd z (by decide),fun _=>⟨_,kbindsP (ps:=["one", "places"]) F 1 ["places"] fun _ _ _ _ _ _ us ws h1 h2=>match us,ws,h1,h2 with | [_],[_],_,_=>rfl⟩⟩
@[simp] theorem g0 {ns : List Int} {k : Nat} (xs ys : List D) (t : Tw) : (gam p ns k).f 0 0 xs ys t = callF p ns k i_greatest (xs ++ ys ++ []) t:=gam_at (sh:=s0) rfl xs ys t
@[simp] theorem g1 {ns : List Int} {k : Nat} (xs ys : List D) (t : Tw) : (gam p ns k).f 0 1 xs ys t = callF p ns k i_frac (xs ++ ys ++ []) t:=gam_at (sh:=s1) rfl xs ys t
@[simp] theorem g2 {ns : List Int} {k : Nat} (xs ys : List D) (t : Tw) : (gam p ns k).f 0 2 xs ys t = callF p ns k i_frac_plus (xs ++ ys ++ []) t:=gam_at (sh:=s2) rfl xs ys t
@[simp] theorem g3 {ns : List Int} {k : Nat} (xs ys : List D) (t : Tw) : (gam p ns k).f 0 3 xs ys t = callF p ns k i_gathered (xs ++ ys ++ []) t:=gam_at (sh:=s3) rfl xs ys t
@[simp] theorem g4 {ns : List Int} {k : Nat} (xs ys : List D) (t : Tw) : (gam p ns k).f 0 4 xs ys t = callF p ns k i_frac_times (xs ++ ys ++ []) t:=gam_at (sh:=s4) rfl xs ys t
@[simp] theorem g5 {ns : List Int} {k : Nat} (xs ys : List D) (t : Tw) : (gam p ns k).f 0 5 xs ys t = callF p ns k i_scaled_by (xs ++ ys ++ []) t:=gam_at (sh:=s5) rfl xs ys t
@[simp] theorem g6 {ns : List Int} {k : Nat} (xs ys : List D) (t : Tw) : (gam p ns k).f 0 6 xs ys t = callF p ns k i_least_prime (xs ++ ys ++ []) t:=gam_at (sh:=s6) rfl xs ys t
@[simp] theorem g7 {ns : List Int} {k : Nat} (xs ys : List D) (t : Tw) : (gam p ns k).f 0 7 xs ys t = callF p ns k i_added (xs ++ ys ++ []) t:=gam_at (sh:=s7) rfl xs ys t
@[simp] theorem g8 {ns : List Int} {k : Nat} (xs ys : List D) (t : Tw) : (gam p ns k).f 0 8 xs ys t = callF p ns k i_multiplied (xs ++ ys ++ []) t:=gam_at (sh:=s8) rfl xs ys t
@[simp] theorem g9 {ns : List Int} {k : Nat} (xs ys : List D) (t : Tw) : (gam p ns k).f 0 9 xs ys t = callF p ns k i_parted (xs ++ ys ++ []) t:=gam_at (sh:=s9) rfl xs ys t
@[simp] theorem g10 {ns : List Int} {k : Nat} (xs ys : List D) (t : Tw) : (gam p ns k).f 0 10 xs ys t = callF p ns k i_sign (xs ++ ys ++ []) t:=gam_at (sh:=s10) rfl xs ys t
@[simp] theorem g11 {ns : List Int} {k : Nat} (xs ys : List D) (t : Tw) : (gam p ns k).f 0 11 xs ys t = callF p ns k i_norm_of (xs ++ ys ++ []) t:=gam_at (sh:=s11) rfl xs ys t
@[simp] theorem g12 {ns : List Int} {k : Nat} (xs ys : List D) (t : Tw) : (gam p ns k).f 0 12 xs ys t = callF p ns k i_opposite (xs ++ ys ++ []) t:=gam_at (sh:=s12) rfl xs ys t
@[simp] theorem g13 {ns : List Int} {k : Nat} (xs ys : List D) (t : Tw) : (gam p ns k).f 0 13 xs ys t = callF p ns k i_whole_root (xs ++ ys ++ []) t:=gam_at (sh:=s13) rfl xs ys t
@[simp] theorem g14 {ns : List Int} {k : Nat} (xs ys : List D) (t : Tw) : (gam p ns k).f 0 14 xs ys t = callF p ns k i_below (xs ++ ys ++ []) t:=gam_at (sh:=s14) rfl xs ys t
@[simp] theorem g15 {ns : List Int} {k : Nat} (xs ys : List D) (t : Tw) : (gam p ns k).f 0 15 xs ys t = callF p ns k i_surd (xs ++ ys ++ []) t:=gam_at (sh:=s15) rfl xs ys t
@[simp] theorem g16 {ns : List Int} {k : Nat} (xs ys : List D) (t : Tw) : (gam p ns k).f 0 16 xs ys t = callF p ns k i_floor (xs ++ ys ++ []) t:=gam_at (sh:=s16) rfl xs ys t
@[simp] theorem g17 {ns : List Int} {k : Nat} (xs ys : List D) (t : Tw) : (gam p ns k).f 0 17 xs ys t = callF p ns k i__law_frac (xs ++ ys ++ []) t:=gam_at (sh:=s17) rfl xs ys t
@[simp] theorem g18 {ns : List Int} {k : Nat} (xs ys : List D) (t : Tw) : (gam p ns k).f 0 18 xs ys t = callF p ns k i__law_draw (xs ++ ys ++ []) t:=gam_at (sh:=s18) rfl xs ys t
@[simp] theorem g19 {ns : List Int} {k : Nat} (xs ys : List D) (t : Tw) : (gam p ns k).f 0 19 xs ys t = callF p ns k i__law_root (xs ++ ys ++ []) t:=gam_at (sh:=s19) rfl xs ys t
@[simp] theorem g20 {ns : List Int} {k : Nat} (xs ys : List D) (t : Tw) : (gam p ns k).f 0 20 xs ys t = callF p ns k i__law_a_frac (xs ++ ys ++ []) t:=gam_at (sh:=s20) rfl xs ys t
@[simp] theorem g21 {ns : List Int} {k : Nat} (xs ys : List D) (t : Tw) : (gam p ns k).f 0 21 xs ys t = callF p ns k i__law_a_surd (xs ++ ys ++ []) t:=gam_at (sh:=s21) rfl xs ys t
@[simp] theorem g22 {ns : List Int} {k : Nat} (xs ys : List D) (t : Tw) : (gam p ns k).f 0 22 xs ys t = callF p ns k i__law_near (xs ++ ys ++ []) t:=gam_at (sh:=s22) rfl xs ys t
@[simp] theorem g23 {ns : List Int} {k : Nat} (xs ys : List D) (t : Tw) : (gam p ns k).f 0 23 xs ys t = callF p ns k i__law_sign_of (xs ++ ys ++ []) t:=gam_at (sh:=s23) rfl xs ys t
@[simp] theorem g24 {ns : List Int} {k : Nat} (xs ys : List D) (t : Tw) : (gam p ns k).f 0 24 xs ys t = callF p ns k i__law_is (xs ++ ys ++ []) t:=gam_at (sh:=s24) rfl xs ys t
@[simp] theorem g25 {ns : List Int} {k : Nat} (xs ys : List D) (t : Tw) : (gam p ns k).f 0 25 xs ys t = callF p ns k i_below (xs ++ ys ++ []) t:=gam_at (sh:=s25) rfl xs ys t
@[simp] theorem g26 {ns : List Int} {k : Nat} (xs ys : List D) (t : Tw) : (gam p ns k).f 0 26 xs ys t = callF p ns k i_figures (xs ++ ys ++ []) t:=gam_at (sh:=s26) rfl xs ys t
@[simp] theorem g27 {ns : List Int} {k : Nat} (xs ys : List D) (t : Tw) : (gam p ns k).f 0 27 xs ys t = callF p ns k i_figures (xs ++ ys ++ []) t:=gam_at (sh:=s27) rfl xs ys t
theorem u_greatest {ns : List Int} {k : Nat} (ds : List D) (t : Tw) : callF p ns (k + 1) i_greatest ds t = retD (evSs (gam p ns k) (csOf cst) b_greatest (startR ["one", "other"] ds) t):=callF_df (i:=0) (f:=f_greatest) rfl ds t
theorem u_frac {ns : List Int} {k : Nat} (ds : List D) (t : Tw) : callF p ns (k + 1) i_frac ds t = retD (evSs (gam p ns k) (csOf cst) b_frac (startR ["top", "bottom", "shared"] ds) t):=callF_df (i:=1) (f:=f_frac) rfl ds t
theorem u_frac_plus {ns : List Int} {k : Nat} (ds : List D) (t : Tw) : callF p ns (k + 1) i_frac_plus ds t = retD (evSs (gam p ns k) (csOf cst) b_frac_plus (startR ["one", "other"] ds) t):=callF_df (i:=2) (f:=f_frac_plus) rfl ds t
theorem u_frac_times {ns : List Int} {k : Nat} (ds : List D) (t : Tw) : callF p ns (k + 1) i_frac_times ds t = retD (evSs (gam p ns k) (csOf cst) b_frac_times (startR ["one", "other"] ds) t):=callF_df (i:=3) (f:=f_frac_times) rfl ds t
theorem u_whole_root {ns : List Int} {k : Nat} (ds : List D) (t : Tw) : callF p ns (k + 1) i_whole_root ds t = retD (evSs (gam p ns k) (csOf cst) b_whole_root (startR ["number", "low", "high", "middle"] ds) t):=callF_df (i:=4) (f:=f_whole_root) rfl ds t
theorem u_gathered {ns : List Int} {k : Nat} (ds : List D) (t : Tw) : callF p ns (k + 1) i_gathered ds t = retD (evSs (gam p ns k) (csOf cst) b_gathered (startR ["pairs", "found", "radicand", "fraction"] ds) t):=callF_df (i:=5) (f:=f_gathered) rfl ds t
theorem u_surd {ns : List Int} {k : Nat} (ds : List D) (t : Tw) : callF p ns (k + 1) i_surd ds t = retD (evSs (gam p ns k) (csOf cst) b_surd (startR ["fraction"] ds) t):=callF_df (i:=6) (f:=f_surd) rfl ds t
theorem u_added {ns : List Int} {k : Nat} (ds : List D) (t : Tw) : callF p ns (k + 1) i_added ds t = retD (evSs (gam p ns k) (csOf cst) b_added (startR ["one", "other"] ds) t):=callF_df (i:=7) (f:=f_added) rfl ds t
theorem u_scaled_by {ns : List Int} {k : Nat} (ds : List D) (t : Tw) : callF p ns (k + 1) i_scaled_by ds t = retD (evSs (gam p ns k) (csOf cst) b_scaled_by (startR ["one", "fraction", "radicand", "part"] ds) t):=callF_df (i:=8) (f:=f_scaled_by) rfl ds t
theorem u_opposite {ns : List Int} {k : Nat} (ds : List D) (t : Tw) : callF p ns (k + 1) i_opposite ds t = retD (evSs (gam p ns k) (csOf cst) b_opposite (startR ["one"] ds) t):=callF_df (i:=9) (f:=f_opposite) rfl ds t
theorem u_multiplied {ns : List Int} {k : Nat} (ds : List D) (t : Tw) : callF p ns (k + 1) i_multiplied ds t = retD (evSs (gam p ns k) (csOf cst) b_multiplied (startR ["one", "other", "found", "radicand", "part", "another", "more", "shared", "left"] ds) t):=callF_df (i:=10) (f:=f_multiplied) rfl ds t
theorem u_least_prime {ns : List Int} {k : Nat} (ds : List D) (t : Tw) : callF p ns (k + 1) i_least_prime ds t = retD (evSs (gam p ns k) (csOf cst) b_least_prime (startR ["number", "divisor"] ds) t):=callF_df (i:=11) (f:=f_least_prime) rfl ds t
theorem u_parted {ns : List Int} {k : Nat} (ds : List D) (t : Tw) : callF p ns (k + 1) i_parted ds t = retD (evSs (gam p ns k) (csOf cst) b_parted (startR ["one", "primes", "radicand", "part", "prime", "bare", "others"] ds) t):=callF_df (i:=12) (f:=f_parted) rfl ds t
theorem u_norm_of {ns : List Int} {k : Nat} (ds : List D) (t : Tw) : callF p ns (k + 1) i_norm_of ds t = retD (evSs (gam p ns k) (csOf cst) b_norm_of (startR ["prime", "bare", "others"] ds) t):=callF_df (i:=13) (f:=f_norm_of) rfl ds t
theorem u_sign {ns : List Int} {k : Nat} (ds : List D) (t : Tw) : callF p ns (k + 1) i_sign ds t = retD (evSs (gam p ns k) (csOf cst) b_sign (startR ["one", "prime", "bare", "others", "first", "second"] ds) t):=callF_df (i:=14) (f:=f_sign) rfl ds t
theorem u_below {ns : List Int} {k : Nat} (ds : List D) (t : Tw) : callF p ns (k + 1) i_below ds t = retD (evSs (gam p ns k) (csOf cst) b_below (startR ["one", "other"] ds) t):=callF_df (i:=15) (f:=f_below) rfl ds t
theorem u_floor {ns : List Int} {k : Nat} (ds : List D) (t : Tw) : callF p ns (k + 1) i_floor ds t = retD (evSs (gam p ns k) (csOf cst) b_floor (startR ["one", "guess", "radicand", "part"] ds) t):=callF_df (i:=16) (f:=f_floor) rfl ds t
theorem u_figures {ns : List Int} {k : Nat} (ds : List D) (t : Tw) : callF p ns (k + 1) i_figures ds t = retD (evSs (gam p ns k) (csOf cst) b_figures (startR ["one", "places", "times", "turn"] ds) t):=callF_df (i:=17) (f:=f_figures) rfl ds t
theorem u__law_draw {ns : List Int} {k : Nat} (ds : List D) (t : Tw) : callF p ns (k + 1) i__law_draw ds t = retD (evSs (gam p ns k) (csOf cst) b__law_draw (startR ["script", "town", "many", "at", "rest", "number"] ds) t):=callF_df (i:=18) (f:=f__law_draw) rfl ds t
theorem u__law_frac {ns : List Int} {k : Nat} (ds : List D) (t : Tw) : callF p ns (k + 1) i__law_frac ds t = retD (evSs (gam p ns k) (csOf cst) b__law_frac (startR ["top", "bottom", "one", "other_here"] ds) t):=callF_df (i:=19) (f:=f__law_frac) rfl ds t
theorem u__law_a_frac {ns : List Int} {k : Nat} (ds : List D) (t : Tw) : callF p ns (k + 1) i__law_a_frac ds t = retD (evSs (gam p ns k) (csOf cst) b__law_a_frac (startR ["script", "town", "size"] ds) t):=callF_df (i:=20) (f:=f__law_a_frac) rfl ds t
theorem u__law_root {ns : List Int} {k : Nat} (ds : List D) (t : Tw) : callF p ns (k + 1) i__law_root ds t = retD (evSs (gam p ns k) (csOf cst) b__law_root (startR ["number", "found", "more"] ds) t):=callF_df (i:=21) (f:=f__law_root) rfl ds t
theorem u__law_near {ns : List Int} {k : Nat} (ds : List D) (t : Tw) : callF p ns (k + 1) i__law_near ds t = retD (evSs (gam p ns k) (csOf cst) b__law_near (startR ["one", "scale", "radicand", "part"] ds) t):=callF_df (i:=22) (f:=f__law_near) rfl ds t
theorem u__law_a_surd {ns : List Int} {k : Nat} (ds : List D) (t : Tw) : callF p ns (k + 1) i__law_a_surd ds t = retD (evSs (gam p ns k) (csOf cst) b__law_a_surd (startR ["script", "town", "most", "found", "k", "part", "radicand"] ds) t):=callF_df (i:=23) (f:=f__law_a_surd) rfl ds t
theorem u__law_is {ns : List Int} {k : Nat} (ds : List D) (t : Tw) : callF p ns (k + 1) i__law_is ds t = retD (evSs (gam p ns k) (csOf cst) b__law_is (startR ["told", "due"] ds) t):=callF_df (i:=24) (f:=f__law_is) rfl ds t
theorem u__law_sign_of {ns : List Int} {k : Nat} (ds : List D) (t : Tw) : callF p ns (k + 1) i__law_sign_of ds t = retD (evSs (gam p ns k) (csOf cst) b__law_sign_of (startR ["number"] ds) t):=callF_df (i:=25) (f:=f__law_sign_of) rfl ds t
@[simp] theorem c_NOUGHT : csOf cst 0 = (D.tup [(D.int 0),(D.int 1)]):=rfl
@[simp] theorem c_FINE : csOf cst 1 = (D.int 16777216):=rfl
theorem so : ShOk p fn:=by
 refine ⟨fun K mg ffd hf hg j sh e=>?_⟩
 match j,e with
 | 0,e=>
  cases e
  exact ⟨.df f_greatest,rfl,bn0 (hf 0 d_greatest rfl) (hg 0 d_greatest rfl)⟩
 | 1,e=>
  cases e
  exact ⟨.df f_frac,rfl,bn1 (hf 1 d_frac rfl) (hg 1 d_frac rfl)⟩
 | 2,e=>
  cases e
  exact ⟨.df f_frac_plus,rfl,bn2 (hf 2 d_frac_plus rfl) (hg 2 d_frac_plus rfl)⟩
 | 3,e=>
  cases e
  exact ⟨.df f_gathered,rfl,bn3 (hf 5 d_gathered rfl) (hg 5 d_gathered rfl)⟩
 | 4,e=>
  cases e
  exact ⟨.df f_frac_times,rfl,bn4 (hf 3 d_frac_times rfl) (hg 3 d_frac_times rfl)⟩
 | 5,e=>
  cases e
  exact ⟨.df f_scaled_by,rfl,bn5 (hf 8 d_scaled_by rfl) (hg 8 d_scaled_by rfl)⟩
 | 6,e=>
  cases e
  exact ⟨.df f_least_prime,rfl,bn6 (hf 11 d_least_prime rfl) (hg 11 d_least_prime rfl)⟩
 | 7,e=>
  cases e
  exact ⟨.df f_added,rfl,bn7 (hf 7 d_added rfl) (hg 7 d_added rfl)⟩
 | 8,e=>
  cases e
  exact ⟨.df f_multiplied,rfl,bn8 (hf 10 d_multiplied rfl) (hg 10 d_multiplied rfl)⟩
 | 9,e=>
  cases e
  exact ⟨.df f_parted,rfl,bn9 (hf 12 d_parted rfl) (hg 12 d_parted rfl)⟩
 | 10,e=>
  cases e
  exact ⟨.df f_sign,rfl,bn10 (hf 14 d_sign rfl) (hg 14 d_sign rfl)⟩
 | 11,e=>
  cases e
  exact ⟨.df f_norm_of,rfl,bn11 (hf 13 d_norm_of rfl) (hg 13 d_norm_of rfl)⟩
 | 12,e=>
  cases e
  exact ⟨.df f_opposite,rfl,bn12 (hf 9 d_opposite rfl) (hg 9 d_opposite rfl)⟩
 | 13,e=>
  cases e
  exact ⟨.df f_whole_root,rfl,bn13 (hf 4 d_whole_root rfl) (hg 4 d_whole_root rfl)⟩
 | 14,e=>
  cases e
  exact ⟨.df f_below,rfl,bn14 (hf 15 d_below rfl) (hg 15 d_below rfl)⟩
 | 15,e=>
  cases e
  exact ⟨.df f_surd,rfl,bn15 (hf 6 d_surd rfl) (hg 6 d_surd rfl)⟩
 | 16,e=>
  cases e
  exact ⟨.df f_floor,rfl,bn16 (hf 16 d_floor rfl) (hg 16 d_floor rfl)⟩
 | 17,e=>
  cases e
  exact ⟨.df f__law_frac,rfl,bn17 (hf 19 d__law_frac rfl) (hg 19 d__law_frac rfl)⟩
 | 18,e=>
  cases e
  exact ⟨.df f__law_draw,rfl,bn18 (hf 18 d__law_draw rfl) (hg 18 d__law_draw rfl)⟩
 | 19,e=>
  cases e
  exact ⟨.df f__law_root,rfl,bn19 (hf 21 d__law_root rfl) (hg 21 d__law_root rfl)⟩
 | 20,e=>
  cases e
  exact ⟨.df f__law_a_frac,rfl,bn20 (hf 20 d__law_a_frac rfl) (hg 20 d__law_a_frac rfl)⟩
 | 21,e=>
  cases e
  exact ⟨.df f__law_a_surd,rfl,bn21 (hf 23 d__law_a_surd rfl) (hg 23 d__law_a_surd rfl)⟩
 | 22,e=>
  cases e
  exact ⟨.df f__law_near,rfl,bn22 (hf 22 d__law_near rfl) (hg 22 d__law_near rfl)⟩
 | 23,e=>
  cases e
  exact ⟨.df f__law_sign_of,rfl,bn23 (hf 25 d__law_sign_of rfl) (hg 25 d__law_sign_of rfl)⟩
 | 24,e=>
  cases e
  exact ⟨.df f__law_is,rfl,bn24 (hf 24 d__law_is rfl) (hg 24 d__law_is rfl)⟩
 | 25,e=>
  cases e
  exact ⟨.df f_below,rfl,bn25 (hf 15 d_below rfl) (hg 15 d_below rfl)⟩
 | 26,e=>
  cases e
  exact ⟨.df f_figures,rfl,bn26 (hf 17 d_figures rfl) (hg 17 d_figures rfl)⟩
 | 27,e=>
  cases e
  exact ⟨.df f_figures,rfl,bn27 (hf 17 d_figures rfl) (hg 17 d_figures rfl)⟩
 | n + 28,e=>simp [shs] at e
theorem fin (k : Nat) (hk1 : 1 ≤ k) (hk2 : k + 33 + 1 ≤ 230) (hev : ∀ ns : List Int,ns.length ≤ 63 → (∀ z ∈ ns,Builtin.Int.intBits z ≤ 1048576) → ∃ r t,evSs (gam p ns k) (csOf cst) b_law (startL n_law ns) ⟨0,[]⟩ = .ok (.ret (.bl true),r) t) : PySem.Challenge.rw_formclear_k06_signs_of_surds.Holds:=by
 open PySem PySem.W PySem.Calls in
 w_on;o_law
 refine HandSHeadRun.head_any (r:=R) (q:=view R.prog [32]) (H:=hk) (ob:=ob) (M:=4000) (loose:=loose) (d:=HandSHeadRun.topDef R.prog 32) (kwd:=[]) ob_eq
  (by kernel_rfl) (fun s=>by kernel_rfl) run (by kernel_rfl) (by kernel_rfl) (by kernel_rfl) (by rfl) (by first | assumption | decide +kernel) (by decide +kernel) ⟨rfl,rfl,rfl,rfl,rfl,by decide +kernel⟩ ?hw ?hc
 case hw=>w_witness2
 case hc=>
  refine walk_py (l:=PySem.Challenge.rw_formclear_k06_signs_of_surds) (n:=63) (k:=k + 33 + 1) (x:="script") (CX:=fun w=>CX (PySem.Challenge.rw_formclear_k06_signs_of_surds).prog w) rfl (by decide) (by kernel_rfl) (by kernel_rfl) ((show Room 230 callerA from ⟨rfl,by decide,by decide⟩).mono hk2) ?F (fun w H s e s' z=>cx_no z)
  intro w mg f h Y G hmg0
  obtain ⟨K,KX,c⟩:=Y
  have hmg : mg ("law" : PySem.Str) = some (.ref f):=by
   have e : (HandSHeadRun.topDef R.prog 32).name = ("law" : PySem.Str):=by kernel_rfl
   rw [← e]
   exact hmg0
  exact ⟨K,KX,lawAt KX G c chk so (iL:=27) (iB:=26) (dL:=d_law) (dB:=d__law_begun) rfl rfl hear rfl (d0:=fn.headD d_law) rfl chkL hmg (fun _ _ _ _ _ _ us hl=>match us,hl with | [_],_=>rfl) (fun _ _ _ _ _ _ us hl=>match us,hl with | [],_=>rfl) hk1 hev⟩
end Lw
namespace Lw
open PySem Fm
section
variable {ns : List Int} {t : Tw} {k : Nat}
theorem up1 (h : 1 ≤ k) : ∃ j,k = j + 1:=⟨k - 1,by omega⟩
theorem gcd_mod (a b : Int) : Int.gcd b (a % b) = Int.gcd a b:=by
 have h:=Int.gcd_add_mul_left_right b (a % b) (a / b)
 rw [Int.emod_add_mul_ediv] at h
 rw [← h,Int.gcd_comm]
theorem gr_loop {c : Rho → Tw → Res D} {f : Rho → Tw → Res (Fl × Rho)} (mk : Int → Int → Rho) (hc : ∀ a b : Int,c (mk a b) t = .ok (.bl (decide (0 < b))) t)
  (hf : ∀ a b : Int,0 < b → f (mk a b) t = .ok (.nx,mk b (a.fmod b)) t) :
  ∀ (n : Nat) (a b : Int),0 ≤ a → 0 ≤ b → b.toNat ≤ n → loopW c f (mk a b) t = .ok (.nx,mk (Int.gcd a b) 0) t:=by
 intro n
 induction n with
 | zero=>
  intro a b ha hb hn
  obtain rfl : b = 0:=by omega
  rw [loopW_eq,hc]
  have : (a.natAbs : Int) = a:=by omega
  simp [this]
 | succ n ih=>
  intro a b ha hb hn
  rw [loopW_eq,hc]
  by_cases h : 0 < b
  · simp [h,hf a b h]
    have h1:=fmod_rng (i:=a) h
    rw [ih b (a.fmod b) hb h1.1 (by omega)]
    have : Int.gcd b (a.fmod b) = Int.gcd a b:=by
     rw [Int.fmod_eq_emod_of_nonneg a hb]
     exact gcd_mod a b
    rw [this]
  · obtain rfl : b = 0:=by omega
    have : (a.natAbs : Int) = a:=by omega
    simp [this]
theorem abs_ite (a : Int) : (if a < 0 then -a else a) = (a.natAbs : Int):=by
 split <;> omega
theorem e_greatest (hk : 1 ≤ k) (a b : Int) : callF p ns k i_greatest [.int a,.int b] t = .ok (.int (Int.gcd a b)) t:=by
 obtain ⟨k,rfl⟩:=up1 hk
 rw [u_greatest]
 simp [b_greatest,abs_ite]
 have hl:=gr_loop (t:=t) (c:=ev (gam p ns k) (csOf cst) (.cmp .Gt (.var 1) (.cst (.int 0)))) (f:=evSs (gam p ns k) (csOf cst) b_greatest_1) (fun a b=>[.val (.int a),.val (.int b)]) (fun a b=>by simp) (fun a b h=>by
  have : b ≠ 0:=by omega
  simp [b_greatest_1,this]) b.natAbs a.natAbs b.natAbs (by omega) (by omega) (by omega)
 rw [hl]
 simp [Int.gcd]
mutual
def gd : D → Bool
 | .non=>true
 | .bl _=>true
 | .int _=>true
 | .str x=>PyData.strOk x && decide (x.length ≤ 1000)
 | .tup xs=>decide (xs.length ≤ 1000) && gds xs
 | .lst xs=>decide (xs.length ≤ 1000) && gds xs
 | _=>false
def gds : List D → Bool
 | []=>true
 | x :: xs=>gd x && gds xs
end
mutual
theorem gd_lay : ∀ {x : D},gd x = true → lay x = true
 | .non,_=>by simp [lay,D.py,PyData.canLay0]
 | .bl _,_=>by simp [lay,D.py,PyData.canLay0]
 | .int _,_=>by simp [lay,D.py,PyData.canLay0]
 | .str x,h=>by
  simp [gd] at h
  simp [lay,D.py,PyData.canLay0,h.1]
 | .tup xs,h=>by
  simp only [gd,Bool.and_eq_true] at h
  have:=gds_lay h.2
  simp [lay,D.py,PyData.canLay0,this]
 | .lst xs,h=>by
  simp only [gd,Bool.and_eq_true] at h
  have:=gds_lay h.2
  simp [lay,D.py,PyData.canLay0,this]
 | .dct _,h=>by simp [gd] at h
 | .tok,h=>by simp [gd] at h
 | .scr _,h=>by simp [gd] at h
 | .exc _,h=>by simp [gd] at h
 | .dcn _,h=>by simp [gd] at h
theorem gds_lay : ∀ {xs : List D},gds xs = true → PyData.canLayAll0 (pys xs) = true
 | [],_=>by simp [pys,PyData.canLayAll0]
 | x :: xs,h=>by
  simp only [gds,Bool.and_eq_true] at h
  have h1:=gd_lay h.1
  have h2:=gds_lay h.2
  unfold lay at h1
  simp [pys,PyData.canLayAll0,h1,h2]
end
theorem gds_of : ∀ {ps : List D},(∀ x ∈ ps,gd x = true) → gds ps = true
 | [],_=>rfl
 | x :: ps,h=>by
  simp only [gds,Bool.and_eq_true]
  exact ⟨h x List.mem_cons_self,gds_of fun y hy=>h y (List.mem_cons_of_mem _ hy)⟩
@[simp] theorem at0 {α : Type} (x : α) (xs : List α) : L2.atI (x :: xs) 0 = some x:=by
 simp [L2.atI,L2.ixN]
@[simp] theorem at1 {α : Type} (x y : α) (xs : List α) : L2.atI (x :: y :: xs) 1 = some y:=by
 unfold L2.atI L2.ixN
 rw [if_pos (by omega),if_pos (by simp only [List.length_cons];omega)]
 rfl
variable {sc : List Int} {n : Nat}
theorem e_draw (hk : 1 ≤ k) (m : Int) (hm : 0 < m) (hm2 : m < 1048576) (h : rm (n + 1) t) : ∃ v t',callF p ns k i__law_draw [.scr sc,.tok,.int m] t = .ok (.int v) t' ∧ 0 ≤ v ∧ v < m ∧ rm n t':=by
 obtain ⟨k,rfl⟩:=up1 hk
 obtain ⟨v,t',e,q⟩:=draw_ev (G:=gam p ns k) (cs:=csOf cst) (ns:=sc) hm hm2 h
 refine ⟨v,t',?_,q⟩
 rw [u__law_draw]
 exact e
abbrev fr (a b : Int) : D:=.tup [.int a,.int b]
theorem e_frac (hk : 1 ≤ k) (a b : Int) (hb : 1 ≤ b) (hb2 : b < 2 ^ 8999) : callF p ns k i__law_frac [.int a,.int b] t = .ok (fr (a / Int.gcd a b) (b / Int.gcd a b)) t:=by
 obtain ⟨k,rfl⟩:=up1 hk
 have hg : 0 < Int.gcd a b:=Int.gcd_pos_of_ne_zero_right a (by omega)
 have hgb : (Int.gcd a b : Int) ≤ b:=Int.le_of_dvd (by omega) (Int.gcd_dvd_right _ _)
 rw [u__law_frac]
 have hl:=gr_loop (t:=t) (c:=ev (gam p ns k) (csOf cst) (.cmp .Gt (.var 3) (.cst (.int 0)))) (f:=evSs (gam p ns k) (csOf cst) b__law_frac_1) (fun x y=>[.val (.int a),.val (.int b),.val (.int x),.val (.int y)]) (fun a b=>by simp) (fun a b h=>by
  have : b ≠ 0:=by omega
  simp [b__law_frac_1,this]) b.natAbs a.natAbs b.natAbs (by omega) (by omega) (by omega)
 have hgg : Int.gcd (a.natAbs : Int) (b.natAbs : Int) = Int.gcd a b:=by simp [Int.gcd]
 rw [hgg] at hl
 have hd : okDiv (Int.gcd a b : Int) = true:=okDiv_of (k:=8999) (by omega) (by
  have : ((Int.gcd a b : Int).natAbs : Int) < ((2 ^ 8999 : Nat) : Int):=by
   rw [Int.natAbs_natCast]
   exact Int.lt_of_le_of_lt hgb (by simpa using hb2)
  exact_mod_cast this) (by omega) (by omega)
 have h0 : 0 < b:=by omega
 simp only [b__law_frac,x_startR,x_evSs_cons,x_consE]
 simp [abs_ite,hl,h0,hd,Int.fdiv_eq_ediv_of_nonneg]
structure SmF (s x y : Int) : Prop where
 g : Int.gcd x y = 1
 lo : 1 ≤ y
 hi : y ≤ 3
 num : -s ≤ x ∧ x ≤ s
theorem smF_of {s a b : Int} (ha : -s ≤ a ∧ a ≤ s) (hb : 1 ≤ b ∧ b ≤ 3) : SmF s (a / Int.gcd a b) (b / Int.gcd a b):=by
 have hg : 0 < Int.gcd a b:=Int.gcd_pos_of_ne_zero_right a (by omega)
 have hg' : (0 : Int) < Int.gcd a b:=by omega
 have hgb : (Int.gcd a b : Int) ≤ b:=Int.le_of_dvd (by omega) (Int.gcd_dvd_right _ _)
 obtain ⟨q,hq⟩:=Int.gcd_dvd_left a b
 have e : a / Int.gcd a b = q:=by
  have : a = q * (Int.gcd a b : Int):=by rw [Int.mul_comm];exact hq
  calc a / (Int.gcd a b : Int) = (q * (Int.gcd a b : Int)) / (Int.gcd a b : Int):=by rw [← this]
    _ = q:=Int.mul_ediv_cancel _ (by omega)
 refine ⟨Int.gcd_ediv_gcd_ediv_gcd hg,Int.le_ediv_of_mul_le (by omega) (by omega),?_,?_⟩
 · have:=Int.ediv_le_self (a:=b) (Int.gcd a b : Int) (by omega)
   omega
 · rw [e]
   have hq : a = (Int.gcd a b : Int) * q:=hq
   generalize (Int.gcd a b : Int) = g at *
   constructor
   · by_cases h : q < 0
     · have : g * q ≤ 1 * q:=Int.mul_le_mul_of_nonpos_right (by omega) (by omega)
       omega
     · omega
   · by_cases h : 0 < q
     · have : 1 * q ≤ g * q:=Int.mul_le_mul_of_nonneg_right (by omega) (by omega)
       omega
     · omega
theorem e_a_frac (hk : 2 ≤ k) (s : Int) (hs : 0 ≤ s ∧ s ≤ 1000) (h : rm (n + 2) t) : ∃ x y t',callF p ns k i__law_a_frac [.scr sc,.tok,.int s] t = .ok (fr x y) t' ∧ SmF s x y ∧ rm n t':=by
 obtain ⟨k,rfl⟩:=up1 (show 1 ≤ k by omega)
 have hk : 1 ≤ k:=by omega
 obtain ⟨v,t1,e1,a1,b1,h1⟩:=e_draw (ns:=ns) (sc:=sc) hk (2 * s + 1) (by omega) (by omega) (show rm (n + 1 + 1) t from h)
 obtain ⟨u,t2,e2,a2,b2,h2⟩:=e_draw (ns:=ns) (sc:=sc) hk 3 (by omega) (by omega) h1
 have e3:=e_frac (ns:=ns) (t:=t2) hk (v - s) (1 + u) (by omega) (by
  have : (1 + u : Int) < 2 ^ 3:=by omega
  exact Int.lt_of_lt_of_le this (by exact_mod_cast Nat.pow_le_pow_right (n:=2) (by omega) (show 3 ≤ 8999 by omega)))
 refine ⟨_,_,t2,?_,smF_of (s:=s) (a:=v - s) (b:=1 + u) (by omega) (by omega),h2⟩
 have om : okMul 2 s = true:=okMul_of (k:=2) (l:=10) (by decide) (by omega) (by omega) (by omega) (by omega)
 rw [u__law_a_frac]
 simp [b__law_a_frac,om,e1,e2,e3]
end
end Lw
namespace Lw
open PySem Fm
section
variable {ns : List Int} {t : Tw} {k : Nat}
def qd (q : Rat) : D:=.tup [.int q.num,.int (q.den : Int)]
theorem gd_qd (q : Rat) : gd (qd q) = true:=by simp [qd,gd,gds]
def qs (n : Nat) (q : Rat) : Prop:=q.num.natAbs < 2 ^ n ∧ q.den < 2 ^ n
theorem qs.le {n m : Nat} {q : Rat} (h : qs n q) (l : n ≤ m) : qs m q:=⟨Nat.lt_of_lt_of_le h.1 (Nat.pow_le_pow_right (by omega) l),Nat.lt_of_lt_of_le h.2 (Nat.pow_le_pow_right (by omega) l)⟩
theorem natAbs_lt_mul {a b : Int} {n m : Nat} (h1 : a.natAbs < 2 ^ n) (h2 : b.natAbs < 2 ^ m) : (a * b).natAbs < 2 ^ (n + m):=by
 rw [Int.natAbs_mul,Nat.pow_add]
 exact Nat.mul_lt_mul'' h1 h2
theorem qd_divInt {a b : Int} (hb : b ≠ 0) : qd (Rat.divInt a b) = .tup [.int (b.sign * a / (Int.gcd a b)),.int (b.sign * b / (Int.gcd a b))]:=by
 have h1:=Rat.num_divInt a b
 have h2:=Rat.den_divInt a b
 rw [if_neg hb] at h2
 unfold qd
 rw [h1,h2,Int.gcd_comm]
 congr 3
 rw [show b.sign * b = (b.natAbs : Int) by rcases Int.lt_trichotomy b 0 with h | h | h <;> simp [Int.sign_eq_neg_one_of_neg,Int.sign_eq_one_of_pos,h] <;> omega]
 simp
theorem fdiv_gcd {a : Int} {g : Nat} (h : (g : Int) ∣ a) : a.fdiv g = a / (g : Int):=Int.fdiv_eq_ediv_of_nonneg _ (by omega)
theorem fdiv_neg_gcd {a : Int} {g : Nat} (h : (g : Int) ∣ a) : a.fdiv (-(g : Int)) = -a / (g : Int):=by
 obtain ⟨c,rfl⟩:=h
 by_cases z : (g : Int) = 0
 · rw [z];simp
 · have h1 : (g : Int) * c = (-c) * (-(g : Int)):=by grind
   have h2 : -((g : Int) * c) = (-c) * g:=by grind
   rw [h2,Int.mul_ediv_cancel _ z,h1,Int.mul_fdiv_cancel _ (by omega)]
theorem qs.okm {n m : Nat} {a b : Int} (h1 : a.natAbs < 2 ^ n) (h2 : b.natAbs < 2 ^ m) (h : n + m ≤ 133999998) : okMul a b = true:=
 okMul_of (k:=n + 1) (l:=m + 1) (Nat.lt_trans h1 (Nat.pow_lt_pow_right (by omega) (by omega))) (Nat.lt_trans h2 (Nat.pow_lt_pow_right (by omega) (by omega))) (by omega) (by omega) (by omega)
theorem qs.dn {n : Nat} {q : Rat} (h : qs n q) : ((q.den : Int)).natAbs < 2 ^ n:=by simpa using h.2
theorem add_divInt (p q : Rat) : p + q = Rat.divInt (p.num * q.den + q.num * p.den) (p.den * q.den):=by
 have : (p.den * q.den : Int) = ((p.den * q.den : Nat) : Int):=by simp
 rw [this,Rat.divInt_ofNat]
 exact Rat.add_def' p q
theorem mul_divInt (p q : Rat) : p * q = Rat.divInt (p.num * q.num) (p.den * q.den):=by
 have : (p.den * q.den : Int) = ((p.den * q.den : Nat) : Int):=by simp
 rw [this,Rat.divInt_ofNat]
 exact Rat.mul_def' p q
theorem dd_ne (p q : Rat) : (p.den : Int) * (q.den : Int) ≠ 0:=by
 have h1:=p.den_pos
 have h2:=q.den_pos
 have:=Int.mul_pos (show (0 : Int) < p.den by omega) (show (0 : Int) < q.den by omega)
 omega
end
end Lw
namespace Lw
open PySem Fm
section
variable {ns : List Int} {t : Tw} {k : Nat}
theorem gcd_ok2 {a b : Int} (hb : b ≠ 0) : okDiv (Int.gcd a b : Int) = true ∧ okDiv (-(Int.gcd a b : Int)) = true:=by
 have hg : 0 < Int.gcd a b:=Int.gcd_pos_of_ne_zero_right a hb
 exact ⟨okDiv_ne (by omega),okDiv_ne (by omega)⟩
theorem z_frac (hk : 2 ≤ k) {a b : Int} (hb : b ≠ 0) : callF p ns k i_frac [.int a,.int b] t = .ok (qd (Rat.divInt a b)) t:=by
 obtain ⟨k,rfl⟩:=up1 (show 1 ≤ k by omega)
 obtain ⟨d1,d2⟩:=gcd_ok2 (a:=a) hb
 have e:=e_greatest (ns:=ns) (t:=t) (show 1 ≤ k by omega) a b
 rw [u_frac,qd_divInt hb]
 by_cases h0 : 0 < b
 · simp [b_frac,e,h0,d1,fdiv_gcd (Int.gcd_dvd_left a b),fdiv_gcd (Int.gcd_dvd_right a b),Int.sign_eq_one_of_pos h0]
 · have : b.sign = -1:=Int.sign_eq_neg_one_of_neg (by omega)
   simp [b_frac,e,h0,d2,fdiv_neg_gcd (Int.gcd_dvd_left a b),fdiv_neg_gcd (Int.gcd_dvd_right a b),this]
theorem z_plus (hk : 3 ≤ k) {p q : Rat} {n m : Nat} (h1 : qs n p) (h2 : qs m q) (h : n + m ≤ 90000000) : callF Lw.p ns k i_frac_plus [qd p,qd q] t = .ok (qd (p + q)) t:=by
 obtain ⟨k,rfl⟩:=up1 (show 1 ≤ k by omega)
 have e:=z_frac (ns:=ns) (t:=t) (show 2 ≤ k by omega) (a:=p.num * q.den + q.num * p.den) (dd_ne p q)
 have o1:=qs.okm h1.1 h2.dn (by omega)
 have o2:=qs.okm h2.1 h1.dn (by omega)
 have o3:=qs.okm h1.dn h2.dn (by omega)
 rw [u_frac_plus,add_divInt]
 simp [b_frac_plus,qd,o1,o2,o3,e]
theorem z_times (hk : 3 ≤ k) {p q : Rat} {n m : Nat} (h1 : qs n p) (h2 : qs m q) (h : n + m ≤ 90000000) : callF Lw.p ns k i_frac_times [qd p,qd q] t = .ok (qd (p * q)) t:=by
 obtain ⟨k,rfl⟩:=up1 (show 1 ≤ k by omega)
 have e:=z_frac (ns:=ns) (t:=t) (show 2 ≤ k by omega) (a:=p.num * q.num) (dd_ne p q)
 have o1:=qs.okm h1.1 h2.1 (by omega)
 have o3:=qs.okm h1.dn h2.dn (by omega)
 rw [u_frac_times,mul_divInt]
 simp [b_frac_times,qd,o1,o3,e]
end
end Lw
namespace Lw
open PySem Fm
section
variable {ns : List Int} {t : Tw} {k : Nat}
noncomputable def lq (ns : List Int) (k : Nat) (tg : Tg) (b : Ss) : D → Rho → Tw → Res (Fl × Rho):=fun d r t=>match setT tg d r with
 | some r1=>evSs (gam p ns k) (csOf cst) b r1 t
 | none=>.bad
theorem for_lq {tg : Tg} {it : I} {b : Ss} {r : Rho} {t1 : Tw} {xs : List D} (hi : evI (gam p ns k) (csOf cst) it r t = .ok xs t1) : evS (gam p ns k) (csOf cst) (.for tg it b) r t = loopF (lq ns k tg b) xs r t1:=for_ev hi
theorem lq_eq {tg : Tg} {b : Ss} {d : D} {r r1 : Rho} (h : setT tg d r = some r1) : lq ns k tg b d r t = evSs (gam p ns k) (csOf cst) b r1 t:=by
 unfold lq;rw [h]
theorem while_t {c : Rho → Tw → Res D} {f : Rho → Tw → Res (Fl × Rho)} {r r1 : Rho} {t1 t2 : Tw} (hc : c r t = .ok (.bl true) t1) (hf : f r t1 = .ok (.nx,r1) t2) : loopW c f r t = loopW c f r1 t2:=by
 rw [loopW_eq,hc]
 simp [hf]
theorem while_f {c : Rho → Tw → Res D} {f : Rho → Tw → Res (Fl × Rho)} {r : Rho} {t1 : Tw} (hc : c r t = .ok (.bl false) t1) : loopW c f r t = .ok (.nx,r) t1:=by
 rw [loopW_eq,hc]
 simp
theorem okL {n : Nat} (h : n ≤ 1000000) : okLen n = true:=by
 simp only [okLen,decide_eq_true_eq];omega
variable {G : Gam} {cs : Nat → D}
theorem cmapL {α : Type} {f : D → Tw → Res (Option D)} (enc g : α → D) : ∀ ys : List α,(∀ a ∈ ys,f (enc a) t = .ok (some (g a)) t) → compL f (ys.map enc) t = .ok (ys.map g) t
 | [],_=>rfl
 | a :: ys,h=>by
  rw [List.map_cons,compL,h a List.mem_cons_self]
  simp only
  rw [cmapL enc g ys fun b hb=>h b (List.mem_cons_of_mem _ hb)]
  rfl
theorem cmapB {α : Type} {own : List (Str × Nat)} {elt : E} {tg : Tg} {it : I} {cd : O} {r : Rho} {ys : List α} (enc g : α → D) (hi : evI G cs it r t = .ok (ys.map enc) t) (hl : ys.length ≤ 1000000) (h : ∀ a ∈ ys,turnE tg (own.map (·.2)) (evO G cs cd) (ev G cs elt) r (enc a) t = .ok (some (g a)) t) : ev G cs (.comp own elt tg it cd) r t = .ok (.lst (ys.map g)) t:=by
 rw [ev_comp]
 unfold compE
 rw [hi,Res.bind_ok,if_pos (okL (by simpa using hl)),cmapL enc g ys h]
 rfl
theorem cfiltL {α : Type} {f : D → Tw → Res (Option D)} (enc : α → D) (c : α → Bool) (g : α → D) : ∀ ys : List α,(∀ a ∈ ys,f (enc a) t = .ok (if c a then some (g a) else none) t) → compL f (ys.map enc) t = .ok ((ys.filter c).map g) t
 | [],_=>rfl
 | a :: ys,h=>by
  rw [List.map_cons,compL,h a List.mem_cons_self]
  simp only
  rw [cfiltL enc c g ys fun b hb=>h b (List.mem_cons_of_mem _ hb),List.filter_cons]
  cases c a <;> rfl
theorem cfiltB {α : Type} {own : List (Str × Nat)} {elt : E} {tg : Tg} {it : I} {cd : O} {r : Rho} {ys : List α} (enc : α → D) (c : α → Bool) (g : α → D) (hi : evI G cs it r t = .ok (ys.map enc) t) (hl : ys.length ≤ 1000000) (h : ∀ a ∈ ys,turnE tg (own.map (·.2)) (evO G cs cd) (ev G cs elt) r (enc a) t = .ok (if c a then some (g a) else none) t) : ev G cs (.comp own elt tg it cd) r t = .ok (.lst ((ys.filter c).map g)) t:=by
 rw [ev_comp]
 unfold compE
 rw [hi,Res.bind_ok,if_pos (okL (by simpa using hl)),cfiltL enc c g ys h]
 rfl
end
theorem qn (q : Rat) : neOp (qd q) (.tup [.int 0,.int 1]) = some (.bl (decide (q ≠ 0))):=by
 unfold qd
 rw [x_nef]
 congr 2
 rw [Bool.eq_iff_iff]
 simp only [Bool.not_eq_true',decide_eq_false_iff_not,decide_eq_true_eq,ne_eq]
 refine not_congr ⟨fun ⟨a,b⟩=>Rat.num_eq_zero.mp a,fun h=>?_⟩
 subst h
 exact ⟨rfl,rfl⟩
end Lw
namespace Su
def sqf (n : Nat) : Prop:=1 ≤ n ∧ ∀ d,d * d ∣ n → d = 1
theorem sqf_one : sqf 1:=⟨by omega,fun d h=>by
 have h:=Nat.le_of_dvd (by omega) h
 have : d = 0 ∨ d = 1 ∨ 2 ≤ d:=by omega
 rcases this with rfl | rfl | h2
 · rename_i q;simp at q
 · rfl
 · have:=Nat.mul_le_mul h2 h2;omega⟩
theorem sqf_dvd {a b : Nat} (h : sqf b) (d : a ∣ b) : sqf a:=by
 refine ⟨?_,fun e he=>h.2 e (Nat.dvd_trans he d)⟩
 have:=h.1
 exact Nat.pos_of_dvd_of_pos d this
theorem sq_dvd_left {u v d : Nat} (c : Nat.Coprime d v) (h : d * d ∣ u * v) : d * d ∣ u:=
 Nat.Coprime.dvd_of_dvd_mul_right (Nat.Coprime.mul_left c c) h
theorem sqf_mul {u v : Nat} (hu : sqf u) (hv : sqf v) (c : Nat.Coprime u v) : sqf (u * v):=by
 refine ⟨Nat.mul_pos hu.1 hv.1,fun d h=>?_⟩
 have hd : d ∣ u * v:=Nat.dvd_trans (Nat.dvd_mul_left d d) h
 have e : d = Nat.gcd d u * Nat.gcd d v:=by
  rw [← Nat.Coprime.gcd_mul d c,Nat.gcd_eq_left hd]
 have hx : Nat.gcd d u = 1:=by
  refine hu.2 _ (sq_dvd_left (v:=v) ?_ ?_)
  · exact Nat.Coprime.coprime_dvd_left (Nat.gcd_dvd_right d u) c
  · exact Nat.dvd_trans (Nat.mul_dvd_mul (Nat.gcd_dvd_left d u) (Nat.gcd_dvd_left d u)) h
 have hy : Nat.gcd d v = 1:=by
  refine hv.2 _ (sq_dvd_left (v:=u) ?_ ?_)
  · exact Nat.Coprime.coprime_dvd_left (Nat.gcd_dvd_right d v) c.symm
  · rw [Nat.mul_comm v u];exact Nat.dvd_trans (Nat.mul_dvd_mul (Nat.gcd_dvd_left d v) (Nat.gcd_dvd_left d v)) h
 rw [e,hx,hy]
theorem sqf_cop {a b : Nat} (h : sqf (a * b)) : Nat.Coprime a b:=h.2 _ (Nat.mul_dvd_mul (Nat.gcd_dvd_left a b) (Nat.gcd_dvd_right a b))
theorem parts_one {s1 s2 d1 d2 : Nat} (h1 : sqf d1) (h2 : sqf d2) (e : s1 * s1 * d1 = s2 * s2 * d2) (p : 0 < s1) : s1 = s2 ∧ d1 = d2:=by
 have p2 : 0 < s2:=by
  rcases Nat.eq_zero_or_pos s2 with z | z
  · subst z
    have:=Nat.mul_pos (Nat.mul_pos p p) h1.1
    simp at e;omega
  · exact z
 have g0 : 0 < Nat.gcd s1 s2:=Nat.gcd_pos_of_pos_left _ p
 obtain ⟨a,ha⟩:=Nat.gcd_dvd_left s1 s2
 obtain ⟨b,hb⟩:=Nat.gcd_dvd_right s1 s2
 have cop : Nat.Coprime a b:=by
  have:=Nat.coprime_div_gcd_div_gcd g0
  have ea : s1 / Nat.gcd s1 s2 = a:=by
   conv=>lhs;lhs;rw [ha]
   exact Nat.mul_div_cancel_left a g0
  have eb : s2 / Nat.gcd s1 s2 = b:=by
   conv=>lhs;lhs;rw [hb]
   exact Nat.mul_div_cancel_left b g0
  rw [ea,eb] at this
  exact this
 generalize Nat.gcd s1 s2 = g at *
 have e2 : a * a * d1 = b * b * d2:=by
  rw [ha,hb] at e
  have : g * g * (a * a * d1) = g * g * (b * b * d2):=by
   calc g * g * (a * a * d1) = g * a * (g * a) * d1:=by grind
     _ = g * b * (g * b) * d2:=e
     _ = _:=by grind
  exact Nat.eq_of_mul_eq_mul_left (Nat.mul_pos g0 g0) this
 have a1 : a = 1:=by
  refine h2.2 a ?_
  have : a * a ∣ d2 * (b * b):=⟨d1,by rw [Nat.mul_comm d2];exact e2.symm⟩
  exact sq_dvd_left (v:=b * b) (Nat.Coprime.mul_right cop cop) this
 have b1 : b = 1:=by
  refine h1.2 b ?_
  have : b * b ∣ d1 * (a * a):=⟨d2,by rw [Nat.mul_comm d1];exact e2⟩
  exact sq_dvd_left (v:=a * a) (Nat.Coprime.mul_right cop.symm cop.symm) this
 subst a1 b1
 simp at e2
 exact ⟨by rw [ha,hb],e2⟩
theorem parts_ex : ∀ (n : Nat),0 < n → ∃ s d,n = s * s * d ∧ sqf d ∧ 0 < s:=by
 intro n
 induction n using Nat.strongRecOn with
 | _ n ih=>
  intro hn
  by_cases h : sqf n
  · exact ⟨1,n,by simp,h,by omega⟩
  · have : ∃ d,d * d ∣ n ∧ d ≠ 1:=by
     refine Classical.byContradiction fun z=>h ⟨hn,fun d hd=>?_⟩
     exact Classical.byContradiction fun q=>z ⟨d,hd,q⟩
    obtain ⟨d,⟨m,hm⟩,hd⟩:=this
    have d2 : 2 ≤ d:=by
     rcases Nat.eq_zero_or_pos d with z | z
     · subst z;simp at hm;omega
     · omega
    have m0 : 0 < m:=by
     rcases Nat.eq_zero_or_pos m with z | z
     · subst z;simp at hm;omega
     · exact z
    have lt : m < n:=by
     have:=Nat.mul_le_mul d2 d2
     have:=Nat.mul_le_mul_right m this
     omega
    obtain ⟨s,e,h1,h2,h3⟩:=ih m lt m0
    exact ⟨d * s,e,by rw [hm,h1];grind,h2,Nat.mul_pos (by omega) h3⟩
open Classical in
noncomputable def rt (n : Nat) : Nat:=if h : 0 < n then (parts_ex n h).choose else 0
open Classical in
noncomputable def lf (n : Nat) : Nat:=if h : 0 < n then (parts_ex n h).choose_spec.choose else 1
theorem rl (n : Nat) : n = rt n * rt n * lf n ∧ sqf (lf n):=by
 unfold rt lf
 by_cases h : 0 < n
 · rw [dif_pos h,dif_pos h]
   obtain ⟨h1,h2,h3⟩:=(parts_ex n h).choose_spec.choose_spec
   exact ⟨h1,h2⟩
 · rw [dif_neg h,dif_neg h]
   exact ⟨by omega,sqf_one⟩
theorem rt_pos {n : Nat} (h : 0 < n) : 0 < rt n:=by
 rcases Nat.eq_zero_or_pos (rt n) with z | z
 · have:=(rl n).1
   rw [z] at this
   omega
 · exact z
theorem rl_of {n s d : Nat} (e : n = s * s * d) (hd : sqf d) (hs : 0 < s) : rt n = s ∧ lf n = d:=by
 have h:=rl n
 have h0 : 0 < n:=by rw [e];exact Nat.mul_pos (Nat.mul_pos hs hs) hd.1
 exact parts_one h.2 hd (by rw [← h.1,← e]) (rt_pos h0)
theorem rl_sqf {d : Nat} (hd : sqf d) : rt d = 1 ∧ lf d = d:=rl_of (by omega) hd (by omega)
theorem rt_zero : rt 0 = 0:=by simp [rt]
theorem lf_pos (n : Nat) : 0 < lf n:=(rl n).2.1
theorem rl_mul (a b : Nat) : rt (a * b) = rt a * rt (lf a * b) ∧ (0 < a → lf (a * b) = lf (lf a * b)):=by
 rcases Nat.eq_zero_or_pos a with rfl | ha
 · refine ⟨?_,fun z=>by omega⟩
   rw [Nat.zero_mul,rt_zero,Nat.zero_mul]
 rcases Nat.eq_zero_or_pos b with rfl | hb
 · simp [rt_zero]
 have h1:=rl a
 have h2:=rl (lf a * b)
 have hp : 0 < rt (lf a * b):=rt_pos (Nat.mul_pos (lf_pos a) hb)
 have e : a * b = (rt a * rt (lf a * b)) * (rt a * rt (lf a * b)) * lf (lf a * b):=by
  calc a * b = rt a * rt a * (lf a * b):=by
        conv=>lhs;lhs;rw [h1.1]
        grind
    _ = rt a * rt a * (rt (lf a * b) * rt (lf a * b) * lf (lf a * b)):=by rw [← h2.1]
    _ = _:=by grind
 have:=rl_of e h2.2 (Nat.mul_pos (rt_pos ha) hp)
 exact ⟨this.1,fun _=>this.2⟩
abbrev L:=List (Nat × Rat)
def lin (F : Nat → Rat) : L → Rat
 | []=>0
 | (a,p) :: x=>p * F a + lin F x
noncomputable def tr (f : Nat → Rat) (a : Nat) : Rat:=(rt a : Rat) * f (lf a)
noncomputable def co (x : L) (d : Nat) : Rat:=lin (tr fun e=>if e = d then 1 else 0) x
theorem lin_app (F : Nat → Rat) (x y : L) : lin F (x ++ y) = lin F x + lin F y:=by
 induction x with
 | nil=>simp [lin,Rat.zero_add]
 | cons t x ih=>simp only [List.cons_append,lin,ih];grind
def neg (x : L) : L:=x.map fun t=>(t.1,-t.2)
theorem lin_neg (F : Nat → Rat) (x : L) : lin F (neg x) = - lin F x:=by
 induction x with
 | nil=>simp [lin,neg]
 | cons t x ih=>simp only [neg,List.map_cons,lin] at ih ⊢;rw [ih];grind
def mul1 (a : Nat) (p : Rat) (x : L) : L:=x.map fun t=>(a * t.1,p * t.2)
def mul : L → L → L
 | [],_=>[]
 | (a,p) :: x,y=>mul1 a p y ++ mul x y
theorem lin_mul1 (F : Nat → Rat) (a : Nat) (p : Rat) (x : L) : lin F (mul1 a p x) = p * lin (fun b=>F (a * b)) x:=by
 induction x with
 | nil=>simp [lin,mul1]
 | cons t x ih=>simp only [mul1,List.map_cons,lin] at ih ⊢;rw [ih];grind
theorem lin_mul (F : Nat → Rat) (x y : L) : lin F (mul x y) = lin (fun a=>lin (fun b=>F (a * b)) y) x:=by
 induction x with
 | nil=>simp [lin,mul]
 | cons t x ih=>simp only [mul,lin_app,lin_mul1,lin,ih]
theorem lin_congr {F G : Nat → Rat} {x : L} (h : ∀ t ∈ x,F t.1 = G t.1) : lin F x = lin G x:=by
 induction x with
 | nil=>rfl
 | cons t x ih=>
  simp only [lin]
  rw [h t List.mem_cons_self,ih fun s hs=>h s (List.mem_cons_of_mem _ hs)]
theorem lin_add (F G : Nat → Rat) (x : L) : lin (fun a=>F a + G a) x = lin F x + lin G x:=by
 induction x with
 | nil=>simp [lin,Rat.zero_add]
 | cons t x ih=>simp only [lin,ih];grind
theorem lin_smul (c : Rat) (F : Nat → Rat) (x : L) : lin (fun a=>c * F a) x = c * lin F x:=by
 induction x with
 | nil=>simp [lin]
 | cons t x ih=>simp only [lin,ih];grind
theorem lin_zero (x : L) : lin (fun _=>0) x = 0:=by
 induction x with
 | nil=>rfl
 | cons t x ih=>simp only [lin,ih];grind
theorem lin_swap (F : Nat → Nat → Rat) (x y : L) : lin (fun a=>lin (fun b=>F a b) y) x = lin (fun b=>lin (fun a=>F a b) x) y:=by
 induction x with
 | nil=>simp only [lin];rw [lin_zero]
 | cons t x ih=>
  simp only [lin]
  rw [ih,lin_add,lin_smul]
theorem lin_split (F : Nat → Rat) (q : Nat × Rat → Bool) (x : L) : lin F x = lin F (x.filter q) + lin F (x.filter fun t=>!q t):=by
 induction x with
 | nil=>simp [lin,Rat.zero_add]
 | cons t x ih=>
  cases h : q t with
  | true=>simp only [List.filter_cons,h,lin,ih];simp;simp only [lin];grind
  | false=>simp only [List.filter_cons,h,lin,ih];simp;simp only [lin];grind
theorem lin_of_co (f : Nat → Rat) : ∀ (n : Nat) (x : L),x.length ≤ n → (∀ d,co x d = 0) → lin (tr f) x = 0:=by
 intro n
 induction n with
 | zero=>intro x h _;cases x with | nil=>rfl | cons t x=>simp at h
 | succ n ih=>
  intro x h hc
  cases x with
  | nil=>rfl
  | cons t x=>
   have key : ∀ (g : Nat → Rat) (y : L),lin (tr g) (y.filter fun s=>decide (lf s.1 = lf t.1)) = g (lf t.1) * co y (lf t.1):=by
    intro g y
    induction y with
    | nil=>simp [lin,co]
    | cons s y ihy=>
     simp only [List.filter_cons]
     by_cases e : lf s.1 = lf t.1
     · rw [if_pos (by simpa using e)]
       simp only [lin,co,ihy] at ihy ⊢
       simp only [tr,e,if_true]
       grind
     · rw [if_neg (by simpa using e),ihy]
       simp only [co,lin,tr,e,if_false]
       grind
   rw [lin_split (tr f) (fun s=>decide (lf s.1 = lf t.1)) (t :: x),key,hc,Rat.mul_zero,Rat.zero_add]
   refine ih _ ?_ fun d=>?_
   · have e : (t :: x).filter (fun s=>!decide (lf s.1 = lf t.1)) = x.filter (fun s=>!decide (lf s.1 = lf t.1)):=by
      rw [List.filter_cons,if_neg (by simp)]
     rw [e]
     have:=List.length_filter_le (fun s=>!decide (lf s.1 = lf t.1)) x
     simp only [List.length_cons] at h
     omega
   · have h2:=lin_split (tr fun e=>if e = d then 1 else 0) (fun s=>decide (lf s.1 = lf t.1)) (t :: x)
     rw [key,hc,Rat.mul_zero,Rat.zero_add] at h2
     exact h2.symm.trans (hc d)
theorem lin_eq {x y : L} (h : ∀ d,co x d = co y d) (f : Nat → Rat) : lin (tr f) x = lin (tr f) y:=by
 have:=lin_of_co f _ (x ++ neg y) (Nat.le_refl _) fun d=>by
  have:=h d
  simp only [co,lin_app,lin_neg] at this ⊢
  grind
 rw [lin_app,lin_neg] at this
 grind
end Su
namespace Su
theorem tr_mul (g : Nat → Rat) (a b : Nat) : tr g (a * b) = (rt a : Rat) * tr g (lf a * b):=by
 rcases Nat.eq_zero_or_pos a with rfl | ha
 · simp only [Nat.zero_mul,tr,rt_zero];simp
 · obtain ⟨h1,h2⟩:=rl_mul a b
   simp only [tr,h1,h2 ha]
   simp;grind
theorem lin_tr_mul (g : Nat → Rat) (x y : L) : lin (tr g) (mul x y) = lin (tr fun e=>lin (fun b=>tr g (e * b)) y) x:=by
 rw [lin_mul]
 refine lin_congr fun t _=>?_
 rw [show (fun b=>tr g (t.1 * b)) = fun b=>(rt t.1 : Rat) * tr g (lf t.1 * b) from funext fun b=>tr_mul g t.1 b,lin_smul]
 rfl
theorem lin_mul_comm (F : Nat → Rat) (x y : L) : lin F (mul x y) = lin F (mul y x):=by
 rw [lin_mul,lin_mul,lin_swap]
 refine lin_congr fun t _=>lin_congr fun s _=>?_
 rw [Nat.mul_comm]
def eqv (x y : L) : Prop:=∀ d,co x d = co y d
instance st : Setoid L:=⟨eqv,fun _ _=>rfl,fun h d=>(h d).symm,fun h1 h2 d=>(h1 d).trans (h2 d)⟩
def R : Type:=Quotient st
def cl (x : L) : R:=Quotient.mk st x
theorem cl_eq {x y : L} : cl x = cl y ↔ ∀ d,co x d = co y d:=⟨fun h=>Quotient.exact h,fun h=>Quotient.sound (s:=st) h⟩
theorem cl_of {x y : L} (h : ∀ F,lin F x = lin F y) : cl x = cl y:=cl_eq.mpr fun d=>h _
theorem cl_ex (u : R) : ∃ x,u = cl x:=by
 induction u using Quotient.inductionOn with
 | h x=>exact ⟨x,rfl⟩
theorem add_ok {x x' y y' : L} (h1 : eqv x x') (h2 : eqv y y') : eqv (x ++ y) (x' ++ y'):=fun d=>by
 have a:=h1 d
 have b:=h2 d
 simp only [co,lin_app] at *
 rw [a,b]
theorem neg_ok {x x' : L} (h1 : eqv x x') : eqv (neg x) (neg x'):=fun d=>by
 have a:=h1 d
 simp only [co,lin_neg] at *
 rw [a]
theorem mul_okl {x x' : L} (h1 : eqv x x') (y : L) : eqv (mul x y) (mul x' y):=fun d=>by
 simp only [co]
 rw [lin_tr_mul,lin_tr_mul]
 exact lin_eq h1 _
theorem mul_ok {x x' y y' : L} (h1 : eqv x x') (h2 : eqv y y') : eqv (mul x y) (mul x' y'):=fun d=>
 (mul_okl h1 y d).trans (by
  simp only [co]
  rw [lin_mul_comm,lin_mul_comm _ x' y']
  exact mul_okl h2 x' d)
instance : Add R:=⟨fun u v=>Quotient.liftOn₂ u v (fun x y=>cl (x ++ y)) fun _ _ _ _ h1 h2=>Quotient.sound (s:=st) (add_ok h1 h2)⟩
instance : Mul R:=⟨fun u v=>Quotient.liftOn₂ u v (fun x y=>cl (mul x y)) fun _ _ _ _ h1 h2=>Quotient.sound (s:=st) (mul_ok h1 h2)⟩
instance : Neg R:=⟨fun u=>Quotient.liftOn u (fun x=>cl (neg x)) fun _ _ h1=>Quotient.sound (s:=st) (neg_ok h1)⟩
instance : Sub R:=⟨fun u v=>u + -v⟩
def rat (q : Rat) : R:=cl [(1,q)]
instance : NatCast R:=⟨fun n=>rat n⟩
instance : IntCast R:=⟨fun n=>rat n⟩
instance (n : Nat) : OfNat R n:=⟨rat n⟩
instance : SMul Nat R:=⟨fun n u=>rat n * u⟩
instance : SMul Int R:=⟨fun n u=>rat n * u⟩
def npow (u : R) : Nat → R
 | 0=>1
 | n + 1=>npow u n * u
instance : HPow R Nat R:=⟨npow⟩
theorem rat_zero : rat 0 = cl []:=cl_of fun F=>by simp [lin];grind
theorem rat_add (p q : Rat) : rat p + rat q = rat (p + q):=cl_of fun F=>by simp only [lin,List.cons_append,List.nil_append];grind
theorem rat_neg (p : Rat) : -rat p = rat (-p):=rfl
theorem rat_mul (p q : Rat) : rat p * rat q = rat (p * q):=rfl
theorem lin_mul_app (F : Nat → Rat) (x y z : L) : lin F (mul x (y ++ z)) = lin F (mul x y ++ mul x z):=by
 rw [lin_mul,lin_app,lin_mul,lin_mul,← lin_add]
 refine lin_congr fun t _=>?_
 rw [lin_app]
theorem mulOne (u : R) : u * rat 1 = u:=by
 obtain ⟨x,rfl⟩:=cl_ex u
 refine cl_of fun F=>?_
 rw [lin_mul]
 refine lin_congr fun t _=>?_
 simp [lin,Rat.one_mul];grind
theorem mulComm (u v : R) : u * v = v * u:=by
 obtain ⟨x,rfl⟩:=cl_ex u
 obtain ⟨y,rfl⟩:=cl_ex v
 exact cl_of fun F=>lin_mul_comm F x y
theorem addZero (u : R) : u + rat 0 = u:=by
 obtain ⟨x,rfl⟩:=cl_ex u
 rw [rat_zero]
 exact cl_of fun F=>by simp only [lin_app,lin];grind
instance : Lean.Grind.CommRing R where
 add_zero:=addZero
 add_comm u v:=by
  obtain ⟨x,rfl⟩:=cl_ex u
  obtain ⟨y,rfl⟩:=cl_ex v
  exact cl_of fun F=>by rw [lin_app,lin_app];grind
 add_assoc u v w:=by
  obtain ⟨x,rfl⟩:=cl_ex u
  obtain ⟨y,rfl⟩:=cl_ex v
  obtain ⟨z,rfl⟩:=cl_ex w
  exact cl_of fun F=>by simp only [lin_app];grind
 mul_assoc u v w:=by
  obtain ⟨x,rfl⟩:=cl_ex u
  obtain ⟨y,rfl⟩:=cl_ex v
  obtain ⟨z,rfl⟩:=cl_ex w
  refine cl_of fun F=>?_
  simp only [lin_mul]
  refine lin_congr fun t _=>lin_congr fun s _=>lin_congr fun r _=>?_
  rw [Nat.mul_assoc]
 mul_one:=mulOne
 one_mul u:=(mulComm _ _).trans (mulOne u)
 left_distrib u v w:=by
  obtain ⟨x,rfl⟩:=cl_ex u
  obtain ⟨y,rfl⟩:=cl_ex v
  obtain ⟨z,rfl⟩:=cl_ex w
  exact cl_of fun F=>lin_mul_app F x y z
 right_distrib u v w:=by
  obtain ⟨x,rfl⟩:=cl_ex u
  obtain ⟨y,rfl⟩:=cl_ex v
  obtain ⟨z,rfl⟩:=cl_ex w
  refine cl_of fun F=>?_
  rw [lin_mul,lin_app,lin_app,lin_mul,lin_mul]
 zero_mul u:=by
  obtain ⟨x,rfl⟩:=cl_ex u
  show rat 0 * _ = rat 0
  rw [rat_zero]
  rfl
 mul_zero u:=by
  rw [mulComm]
  obtain ⟨x,rfl⟩:=cl_ex u
  show rat 0 * _ = rat 0
  rw [rat_zero]
  rfl
 pow_zero u:=rfl
 pow_succ u n:=rfl
 ofNat_succ n:=by
  show rat ((n + 1 : Nat) : Rat) = rat n + rat 1
  rw [rat_add]
  simp
 ofNat_eq_natCast n:=rfl
 nsmul_eq_natCast_mul n u:=rfl
 neg_add_cancel u:=by
  obtain ⟨x,rfl⟩:=cl_ex u
  show cl (neg x) + cl x = rat 0
  rw [rat_zero]
  exact cl_of fun F=>by rw [lin_app,lin_neg];simp only [lin];grind
 sub_eq_add_neg u v:=rfl
 neg_zsmul i u:=by
  show rat ((-i : Int) : Rat) * u = -(rat i * u)
  obtain ⟨x,rfl⟩:=cl_ex u
  refine cl_of fun F=>?_
  rw [lin_neg]
  simp only [lin_mul,lin]
  simp;grind
 zsmul_natCast_eq_nsmul n u:=rfl
 intCast_ofNat n:=rfl
 intCast_neg i:=by
  show rat ((-i : Int) : Rat) = -rat i
  rw [rat_neg];simp
 mul_comm:=mulComm
example (a b c : R) : a * (b + c) - c * a = b * a:=by grind
def sr (n : Nat) : R:=cl [(n,1)]
theorem sr_mul (a b : Nat) : sr a * sr b = sr (a * b):=by
 show cl [(a * b,(1 : Rat) * 1)] = _
 rw [Rat.mul_one];rfl
theorem sr_one : sr 1 = 1:=rfl
theorem sr_sq (a s : Nat) : sr (s * s * a) = rat s * sr a:=by
 refine cl_eq.mpr fun d=>?_
 simp only [co,mul,mul1,lin,List.map_cons,List.map_nil,List.append_nil,Nat.one_mul]
 rcases Nat.eq_zero_or_pos s with rfl | hs
 · simp [tr,rt_zero]
 have e : tr (fun e=>if e = d then (1 : Rat) else 0) (s * s * a) = (s : Rat) * tr (fun e=>if e = d then (1 : Rat) else 0) a:=by
  rw [tr_mul]
  have:=rl_of (n:=s * s) (s:=s) (d:=1) (by omega) sqf_one hs
  rw [this.1,this.2,Nat.one_mul]
 rw [e]
 grind
theorem sr_self (a : Nat) : sr a * sr a = (a : Nat):=by
 rw [sr_mul,show a * a = a * a * 1 by omega,sr_sq,sr_one,show rat (a : Nat) * 1 = rat (a : Nat) from mulOne _]
 rfl
theorem cl_cons (a : Nat) (p : Rat) (x : L) : cl ((a,p) :: x) = rat p * sr a + cl x:=by
 refine cl_of fun F=>?_
 rw [lin_app]
 simp only [lin,mul,mul1,List.map_cons,List.map_nil,List.append_nil,Nat.one_mul]
 grind
theorem cl_nil : cl [] = 0:=rat_zero.symm
end Su
namespace Su
theorem rat_inj {p q : Rat} (h : rat p = rat q) : p = q:=by
 have:=cl_eq.mp h 1
 have e:=rl_sqf sqf_one
 simp only [co,lin,tr,e.1,e.2,if_true] at this
 simp [Rat.mul_one] at this
 grind
theorem rat_one : rat 1 = 1:=rfl
theorem rat_nat (n : Nat) : rat (n : Rat) = ((n : Nat) : R):=rfl
theorem rat_inv {q : Rat} (h : q ≠ 0) : rat q * rat q⁻¹ = 1:=by
 rw [rat_mul,Rat.mul_inv_cancel _ h];rfl
def pr (p : Nat) : Prop:=2 ≤ p ∧ ∀ e,e ∣ p → e = 1 ∨ e = p
theorem pr_ex : ∀ (m : Nat),2 ≤ m → ∃ p,pr p ∧ p ∣ m:=by
 intro m
 induction m using Nat.strongRecOn with
 | _ m ih=>
  intro h
  by_cases hp : pr m
  · exact ⟨m,hp,Nat.dvd_refl m⟩
  · have : ∃ e,e ∣ m ∧ e ≠ 1 ∧ e ≠ m:=by
     refine Classical.byContradiction fun z=>hp ⟨h,fun e he=>?_⟩
     refine Classical.byContradiction fun q=>z ⟨e,he,fun e1=>q (.inl e1),fun e2=>q (.inr e2)⟩
    obtain ⟨e,h1,h2,h3⟩:=this
    have h4:=Nat.le_of_dvd (by omega) h1
    have h5:=Nat.pos_of_dvd_of_pos h1 (by omega)
    obtain ⟨p,hp,hd⟩:=ih e (by omega) (by omega)
    exact ⟨p,hp,Nat.dvd_trans hd h1⟩
theorem pr_cop {p a : Nat} (hp : pr p) (h : ¬ p ∣ a) : Nat.Coprime p a:=by
 rcases hp.2 _ (Nat.gcd_dvd_left p a) with e | e
 · exact e
 · exact absurd (e ▸ Nat.gcd_dvd_right p a) h
def In (m : Nat) (u : R) : Prop:=∃ x : L,u = cl x ∧ ∀ t ∈ x,t.1 ∣ m
section
variable {m : Nat} {u v : R}
theorem In.add (h1 : In m u) (h2 : In m v) : In m (u + v):=by
 obtain ⟨x,rfl,hx⟩:=h1
 obtain ⟨y,rfl,hy⟩:=h2
 refine ⟨x ++ y,rfl,fun t ht=>?_⟩
 rcases List.mem_append.mp ht with h | h
 · exact hx t h
 · exact hy t h
theorem In.rat (q : Rat) : In m (rat q):=⟨[(1,q)],rfl,fun t ht=>by simp at ht;subst ht;exact Nat.one_dvd m⟩
theorem In.sr {a : Nat} (h : a ∣ m) : In m (sr a):=⟨[(a,1)],rfl,fun t ht=>by simp at ht;subst ht;exact h⟩
theorem In.smul (q : Rat) (h : In m u) : In m (Su.rat q * u):=by
 obtain ⟨x,rfl,hx⟩:=h
 refine ⟨mul1 1 q x,by show cl (mul1 1 q x ++ []) = _;rw [List.append_nil],fun t ht=>?_⟩
 obtain ⟨s,hs,rfl⟩:=List.mem_map.mp ht
 rw [Nat.one_mul]
 exact hx s hs
theorem In.zero : In m 0:=In.rat 0
theorem In.one : In m 1:=In.rat 1
theorem In.neg (h : In m u) : In m (-u):=by
 have:=In.smul (-1) h
 have e : Su.rat (-1) * u = -u:=by
  rw [← rat_neg]
  show -(1 : R) * u = _
  grind
 rwa [e] at this
theorem sr_pair (a b : Nat) (ha : 0 < a) : Su.sr a * Su.sr b = Su.rat (Nat.gcd a b : Nat) * Su.sr (a / Nat.gcd a b * (b / Nat.gcd a b)):=by
 rw [sr_mul,← sr_sq]
 congr 1
 have h1:=Nat.div_mul_cancel (Nat.gcd_dvd_left a b)
 have h2:=Nat.div_mul_cancel (Nat.gcd_dvd_right a b)
 generalize Nat.gcd a b = g at *
 generalize a / g = c at *
 generalize b / g = d at *
 rw [← h1,← h2]
 grind
theorem pair_dvd {a b : Nat} (h0 : 0 < a) (h1 : a ∣ m) (h2 : b ∣ m) : a / Nat.gcd a b * (b / Nat.gcd a b) ∣ m:=
 Nat.Coprime.mul_dvd_of_dvd_of_dvd (Nat.coprime_div_gcd_div_gcd (Nat.gcd_pos_of_pos_left _ h0)) (Nat.dvd_trans (Nat.div_dvd_of_dvd (Nat.gcd_dvd_left a b)) h1) (Nat.dvd_trans (Nat.div_dvd_of_dvd (Nat.gcd_dvd_right a b)) h2)
theorem In.srmul (hm : 0 < m) {a : Nat} (ha : a ∣ m) (h : In m u) : In m (Su.sr a * u):=by
 obtain ⟨x,rfl,hx⟩:=h
 induction x with
 | nil=>rw [cl_nil,Lean.Grind.Semiring.mul_zero];exact .zero
 | cons t x ih=>
  obtain ⟨b,q⟩:=t
  have h1:=ih fun s hs=>hx s (List.mem_cons_of_mem _ hs)
  have hb:=hx (b,q) List.mem_cons_self
  have a0:=Nat.pos_of_dvd_of_pos ha hm
  have e : Su.sr a * cl ((b,q) :: x) = Su.rat q * (Su.rat (Nat.gcd a b : Nat) * Su.sr (a / Nat.gcd a b * (b / Nat.gcd a b))) + Su.sr a * cl x:=by
   rw [cl_cons,← sr_pair a b a0]
   grind
  rw [e]
  exact ((In.sr (pair_dvd a0 ha hb)).smul _ |>.smul _).add h1
theorem In.mul (hm : 0 < m) (h1 : In m u) (h2 : In m v) : In m (u * v):=by
 obtain ⟨x,rfl,hx⟩:=h1
 induction x with
 | nil=>rw [cl_nil,Lean.Grind.Semiring.zero_mul];exact .zero
 | cons t x ih=>
  obtain ⟨b,q⟩:=t
  have h1:=ih fun s hs=>hx s (List.mem_cons_of_mem _ hs)
  have e : cl ((b,q) :: x) * v = Su.rat q * (Su.sr b * v) + cl x * v:=by
   rw [cl_cons]
   grind
  rw [e]
  exact ((h2.srmul hm (hx (b,q) List.mem_cons_self)).smul q).add h1
theorem In.le {m' : Nat} (h : In m u) (d : m ∣ m') : In m' u:=by
 obtain ⟨x,rfl,hx⟩:=h
 exact ⟨x,rfl,fun t ht=>Nat.dvd_trans (hx t ht) d⟩
theorem In.split {p : Nat} (hp : pr p) (h : In (p * m) u) : ∃ a b,In m a ∧ In m b ∧ u = a + b * Su.sr p:=by
 obtain ⟨x,rfl,hx⟩:=h
 induction x with
 | nil=>exact ⟨0,0,.zero,.zero,by rw [cl_nil];grind⟩
 | cons t x ih=>
  obtain ⟨c,q⟩:=t
  obtain ⟨a,b,ha,hb,e⟩:=ih fun s hs=>hx s (List.mem_cons_of_mem _ hs)
  have hc:=hx (c,q) List.mem_cons_self
  by_cases h : p ∣ c
  · obtain ⟨d,rfl⟩:=h
    have hd : d ∣ m:=Nat.dvd_of_mul_dvd_mul_left (by have:=hp.1;omega) hc
    refine ⟨a,Su.rat q * Su.sr d + b,ha,((In.sr hd).smul q).add hb,?_⟩
    rw [cl_cons,e,← sr_mul]
    grind
  · have hd : c ∣ m:=Nat.Coprime.dvd_of_dvd_mul_left (pr_cop hp h).symm hc
    refine ⟨Su.rat q * Su.sr c + a,b,((In.sr hd).smul q).add ha,hb,?_⟩
    rw [cl_cons,e]
    grind
theorem co_none {x : L} {d : Nat} (h : ∀ t ∈ x,lf t.1 ≠ d) : co x d = 0:=by
 have : co x d = lin (fun _=>0) x:=lin_congr fun t ht=>by
  simp [tr,h t ht]
 rw [this,lin_zero]
theorem rat_cancel {q : Rat} (h : q ≠ 0) (e : Su.rat q * u = 0) : u = 0:=by
 have : Su.rat q⁻¹ * (Su.rat q * u) = 0:=by rw [e];grind
 have h2:=rat_inv h
 have : u = (Su.rat q * Su.rat q⁻¹) * u:=by rw [h2];grind
 grind
theorem In.indep {p : Nat} (hp : pr p) (hm : sqf (p * m)) (h1 : In m u) (h2 : In m v) (e : u + v * Su.sr p = 0) : u = 0 ∧ v = 0:=by
 obtain ⟨x,rfl,hx⟩:=h1
 obtain ⟨y,rfl,hy⟩:=h2
 have cop:=sqf_cop hm
 have key : ∀ d,co x d = 0:=by
  intro d
  have h3 : cl (x ++ Su.mul y [(p,1)]) = cl []:=by rw [cl_nil];exact e
  have h4:=cl_eq.mp h3 d
  have h5 : co (x ++ Su.mul y [(p,1)]) d = co x d + co (Su.mul y [(p,1)]) d:=lin_app _ _ _
  have h6 : co [] d = 0:=rfl
  rw [h5,h6] at h4
  by_cases hd : p ∣ d
  · refine co_none fun t ht=>?_
    have hs:=sqf_dvd hm (Nat.dvd_trans (hx t ht) (Nat.dvd_mul_left m p))
    rw [(rl_sqf hs).2]
    intro e1
    have : p ∣ m:=Nat.dvd_trans hd (e1 ▸ hx t ht)
    have g : Nat.gcd p m = p:=Nat.gcd_eq_left this
    have c1 : Nat.gcd p m = 1:=cop
    have:=hp.1
    omega
  · have : co (Su.mul y [(p,1)]) d = 0:=by
     have eq : ∀ z : L,(∀ t ∈ z,t.1 ∣ m) → co (Su.mul z [(p,1)]) d = 0:=by
      intro z
      induction z with
      | nil=>intro _;rfl
      | cons t z ih=>
       intro hz
       have h7 : co (Su.mul (t :: z) [(p,1)]) d = co (mul1 t.1 t.2 [(p,1)]) d + co (Su.mul z [(p,1)]) d:=lin_app _ _ _
       rw [h7,ih fun s hs=>hz s (List.mem_cons_of_mem _ hs)]
       have : co (mul1 t.1 t.2 [(p,1)]) d = 0:=co_none fun s hs=>by
        simp only [mul1,List.map_cons,List.map_nil,List.mem_singleton] at hs
        subst hs
        have h8:=hz t List.mem_cons_self
        have hs:=sqf_dvd hm (show t.1 * p ∣ p * m by rw [Nat.mul_comm];exact Nat.mul_dvd_mul_left p h8)
        show lf (t.1 * p) ≠ d
        rw [(rl_sqf hs).2]
        rintro rfl
        exact hd (Nat.dvd_mul_left p t.1)
       rw [this];grind
     exact eq y hy
    rw [this] at h4
    grind
 have hu : cl x = 0:=by rw [← cl_nil];exact cl_eq.mpr key
 refine ⟨hu,?_⟩
 rw [hu] at e
 have : Su.rat (p : Nat) * cl y = 0:=by
  have h3:=sr_self p
  have : cl y * Su.sr p * Su.sr p = 0:=by grind
  rw [rat_nat,← h3]
  grind
 refine rat_cancel ?_ this
 have:=hp.1
 intro z
 have z : ((p : Int) : Rat) = ((0 : Int) : Rat):=by simpa using z
 rw [Rat.intCast_inj] at z
 omega
end
theorem rat_den (q : Rat) : q * (q.den : Rat) = q.num:=by
 have h1 : (q.num : Rat) / (q.den : Rat) = q:=by
  have:=Rat.num_divInt_den q
  rw [Rat.divInt_eq_div,Rat.intCast_natCast] at this
  exact this
 have h2 : (q.den : Rat) ≠ 0:=by
  intro z
  have z : ((q.den : Int) : Rat) = ((0 : Int) : Rat):=by simpa using z
  rw [Rat.intCast_inj] at z
  have:=q.den_pos
  omega
 have h3:=Rat.mul_inv_cancel _ h2
 rw [Rat.div_def] at h1
 grind
theorem no_sq {q : Rat} {d : Nat} (hd : sqf d) (h1 : d ≠ 1) (h : q * q = (d : Nat)) : False:=by
 have e : q.num * q.num = (d : Int) * ((q.den : Int) * (q.den : Int)):=by
  have h3 : ((q.num * q.num : Int) : Rat) = (((d : Int) * ((q.den : Int) * (q.den : Int)) : Int) : Rat):=by
   have h2:=rat_den q
   simp only [Rat.intCast_mul,Rat.intCast_natCast]
   rw [← h,← h2]
   grind
  rwa [Rat.intCast_inj] at h3
 have e2 : q.num.natAbs * q.num.natAbs * 1 = q.den * q.den * d:=by
  have:=congrArg Int.natAbs e
  simp only [Int.natAbs_mul,Int.natAbs_natCast] at this
  rw [Nat.mul_one,this]
  grind
 have p0 : 0 < q.num.natAbs:=by
  rcases Nat.eq_zero_or_pos q.num.natAbs with z | z
  · rw [z] at e2
    have:=Nat.mul_pos (Nat.mul_pos q.den_pos q.den_pos) hd.1
    omega
  · exact z
 exact h1 (parts_one sqf_one hd e2 p0).2.symm
theorem In.base {u : R} (h : In 1 u) : ∃ q,u = Su.rat q:=by
 obtain ⟨x,rfl,hx⟩:=h
 induction x with
 | nil=>exact ⟨0,cl_nil⟩
 | cons t x ih=>
  obtain ⟨a,q⟩:=t
  obtain ⟨q2,e⟩:=ih fun s hs=>hx s (List.mem_cons_of_mem _ hs)
  have : a = 1:=Nat.eq_one_of_dvd_one (hx (a,q) List.mem_cons_self)
  subst this
  exact ⟨q + q2,by rw [cl_cons,e,sr_one,← rat_add];grind⟩
theorem mul_zero_or {u v : R} (h : ∀ u : R,u ≠ 0 → ∃ w,u * w = 1) (e : u * v = 0) : u = 0 ∨ v = 0:=by
 by_cases z : u = 0
 · exact .inl z
 · obtain ⟨w,hw⟩:=h u z
   refine .inr ?_
   have : v = (u * w) * v:=by rw [hw];grind
   have : v = w * (u * v):=by grind
   rw [this,e];grind
theorem one_ne_zero : (1 : R) ≠ 0:=fun h=>by
 have:=rat_inj h
 exact absurd this (by decide)
theorem field_at : ∀ (m : Nat),sqf m → (∀ u,In m u → u ≠ 0 → ∃ w,In m w ∧ u * w = 1) ∧ ∀ d,sqf d → d ≠ 1 → Nat.Coprime d m → ∀ u,In m u → u * u ≠ (d : Nat):=by
 intro m
 induction m using Nat.strongRecOn with
 | _ m ih=>
  intro hm
  by_cases h1 : m = 1
  · subst h1
    refine ⟨fun u hu h0=>?_,fun d hd hd1 _ u hu e=>?_⟩
    · obtain ⟨q,rfl⟩:=hu.base
      have : q ≠ 0:=fun z=>h0 (by rw [z];rfl)
      exact ⟨rat q⁻¹,.rat _,rat_inv this⟩
    · obtain ⟨q,rfl⟩:=hu.base
      have h2 : rat (q * q) = rat (d : Nat):=e
      exact no_sq hd hd1 (rat_inj h2)
  · obtain ⟨p,hp,m',rfl⟩:=pr_ex m (by have:=hm.1;omega)
    have p2:=hp.1
    have hm' : sqf m':=sqf_dvd hm (Nat.dvd_mul_left m' p)
    have lt : m' < p * m':=by
     have:=Nat.mul_le_mul_right m' p2
     have:=hm'.1
     omega
    obtain ⟨F,N⟩:=ih m' lt hm'
    have cop : Nat.Coprime p m':=sqf_cop hm
    have sp : sqf p:=sqf_dvd hm (Nat.dvd_mul_right p m')
    have dm : m' ∣ p * m':=Nat.dvd_mul_left m' p
    have dom : ∀ a b,In m' a → In m' b → a * b = 0 → a = 0 ∨ b = 0:=by
     intro a b ha hb e
     by_cases z : a = 0
     · exact .inl z
     · obtain ⟨w,_,hw⟩:=F a ha z
       refine .inr ?_
       have : b = (a * w) * b:=by rw [hw];grind
       have : b = w * (a * b):=by grind
       rw [this,e];grind
    have sp2 : sr p * sr p = (p : Nat):=sr_self p
    refine ⟨fun u hu h0=>?_,fun d hd hd1 hc u hu e=>?_⟩
    · obtain ⟨a,b,ha,hb,rfl⟩:=hu.split hp
      by_cases z : b = 0
      · subst z
        have e : a + 0 * sr p = a:=by grind
        rw [e] at h0 ⊢
        obtain ⟨w,h1,h2⟩:=F a ha h0
        exact ⟨w,h1.le dm,h2⟩
      · have nz : a * a - (p : Nat) * (b * b) ≠ 0:=by
         intro e
         obtain ⟨w,h1,h2⟩:=F b hb z
         refine N p sp (by omega) cop (a * w) (ha.mul hm'.1 h1) ?_
         have : a * w * (a * w) = (p : Nat) * (b * w) * (b * w):=by grind
         rw [this,h2];grind
        have inn : In m' (a * a - (p : Nat) * (b * b)):=by
         have : a * a - (p : Nat) * (b * b) = a * a + -(rat (p : Nat) * (b * b)):=by rw [rat_nat];grind
         rw [this]
         exact (ha.mul hm'.1 ha).add ((hb.mul hm'.1 hb).smul _).neg
        obtain ⟨w,h1,h2⟩:=F _ inn nz
        refine ⟨(a + -(b * sr p)) * w,?_,?_⟩
        · exact ((ha.le dm).add ((hb.le dm).mul hm.1 (.sr (Nat.dvd_mul_right p m'))).neg).mul hm.1 (h1.le dm)
        · have : (a + b * sr p) * ((a + -(b * sr p)) * w) = (a * a - (sr p * sr p) * (b * b)) * w:=by grind
          rw [this,sp2,h2]
    · obtain ⟨a,b,ha,hb,rfl⟩:=hu.split hp
      have e2 : (a * a + (p : Nat) * (b * b) + -(d : Nat)) + (2 * (a * b)) * sr p = 0:=by
       rw [← sp2,← e]
       grind
      have i1 : In m' (a * a + (p : Nat) * (b * b) + -(d : Nat)):=by
       rw [← rat_nat,← rat_nat]
       exact ((ha.mul hm'.1 ha).add ((hb.mul hm'.1 hb).smul _)).add (In.rat _).neg
      have i2 : In m' (2 * (a * b)):=(ha.mul hm'.1 hb).smul 2
      obtain ⟨e3,e4⟩:=In.indep hp hm i1 i2 e2
      have e5 : a * b = 0:=rat_cancel (q:=2) (by decide) e4
      have cdm : Nat.Coprime d m':=Nat.Coprime.coprime_dvd_right dm hc
      have cdp : Nat.Coprime d p:=Nat.Coprime.coprime_dvd_right (Nat.dvd_mul_right p m') hc
      rcases dom a b ha hb e5 with z | z
      · subst z
        refine N (p * d) (sqf_mul sp hd cdp.symm) ?_ (Nat.Coprime.mul_left cop cdm) ((p : Nat) * b) ?_ ?_
        · intro z
          have:=Nat.le_of_dvd (by omega) (z ▸ Nat.dvd_mul_right p d)
          omega
        · rw [← rat_nat];exact hb.smul _
        · have : ((p * d : Nat) : R) = (p : Nat) * (d : Nat):=by
           show rat ((p * d : Nat) : Rat) = rat p * rat d
           rw [rat_mul];simp
          rw [this]
          grind
      · subst z
        exact N d hd hd1 cdm a ha (by grind)
theorem sqf_lcm {a b : Nat} (ha : sqf a) (hb : sqf b) : ∃ m,sqf m ∧ a ∣ m ∧ b ∣ m:=by
 have h1:=Nat.div_mul_cancel (Nat.gcd_dvd_right a b)
 have hb' : sqf (b / Nat.gcd a b):=sqf_dvd hb (Nat.div_dvd_of_dvd (Nat.gcd_dvd_right a b))
 have hc : Nat.Coprime a (b / Nat.gcd a b):=by
  refine hb.2 _ ?_
  have d1 : Nat.gcd a (b / Nat.gcd a b) ∣ b / Nat.gcd a b:=Nat.gcd_dvd_right _ _
  have d2 : Nat.gcd a (b / Nat.gcd a b) ∣ Nat.gcd a b:=Nat.dvd_gcd (Nat.gcd_dvd_left _ _) (Nat.dvd_trans d1 (Nat.div_dvd_of_dvd (Nat.gcd_dvd_right a b)))
  conv=>rhs;rw [← h1]
  exact Nat.mul_dvd_mul d1 d2
 refine ⟨a * (b / Nat.gcd a b),sqf_mul ha hb' hc,Nat.dvd_mul_right _ _,?_⟩
 conv=>lhs;rw [← h1,Nat.mul_comm]
 exact Nat.mul_dvd_mul (Nat.gcd_dvd_left a b) (Nat.dvd_refl _)
theorem In.ex (u : R) : ∃ m,sqf m ∧ In m u:=by
 obtain ⟨x,rfl⟩:=cl_ex u
 induction x with
 | nil=>exact ⟨1,sqf_one,cl_nil ▸ .zero⟩
 | cons t x ih=>
  obtain ⟨a,q⟩:=t
  obtain ⟨m,hm,h⟩:=ih
  have ha:=rl a
  obtain ⟨m2,h1,h2,h3⟩:=sqf_lcm ha.2 hm
  refine ⟨m2,h1,?_⟩
  rw [cl_cons,ha.1,sr_sq]
  exact ((In.sr h2).smul _ |>.smul _).add (h.le h3)
theorem inv_ex (u : R) (h : u ≠ 0) : ∃ w,u * w = 1:=by
 obtain ⟨m,hm,hu⟩:=In.ex u
 obtain ⟨w,_,e⟩:=(field_at m hm).1 u hu h
 exact ⟨w,e⟩
open Classical in
noncomputable instance : Inv R:=⟨fun u=>if h : u ≠ 0 then (inv_ex u h).choose else 0⟩
open Classical in
theorem mul_inv' {u : R} (h : u ≠ 0) : u * u⁻¹ = 1:=by
 show u * (if h : u ≠ 0 then (inv_ex u h).choose else 0) = 1
 rw [dif_pos h]
 exact (inv_ex u h).choose_spec
noncomputable instance : Div R:=⟨fun u v=>u * v⁻¹⟩
noncomputable def zpw (u : R) : Int → R
 | .ofNat n=>npow u n
 | .negSucc n=>(npow u (n + 1))⁻¹
noncomputable instance : HPow R Int R:=⟨zpw⟩
open Classical in
theorem inv_zero' : (0 : R)⁻¹ = 0:=by
 show (if h : (0 : R) ≠ 0 then (inv_ex 0 h).choose else 0) = 0
 rw [dif_neg (by simp)]
theorem inv_one' : (1 : R)⁻¹ = 1:=by
 have:=mul_inv' one_ne_zero
 grind
theorem inv_inv' (u : R) : u⁻¹⁻¹ = u:=by
 by_cases h : u = 0
 · subst h;rw [inv_zero',inv_zero']
 · have h1:=mul_inv' h
   have h2 : u⁻¹ ≠ 0:=fun z=>one_ne_zero (by rw [← h1,z];grind)
   have h3:=mul_inv' h2
   grind
noncomputable instance : Lean.Grind.Field R where
 div_eq_mul_inv u v:=rfl
 zero_ne_one:=fun h=>one_ne_zero h.symm
 inv_zero:=inv_zero'
 mul_inv_cancel:=mul_inv'
 zpow_zero u:=rfl
 zpow_succ u n:=rfl
 zpow_neg u n:=by
  show zpw u (-n) = (zpw u n)⁻¹
  match n with
  | .ofNat 0=>exact inv_one'.symm
  | .ofNat (n + 1)=>rfl
  | .negSucc n=>
   show npow u (n + 1) = ((npow u (n + 1))⁻¹)⁻¹
   rw [inv_inv']
theorem dom {u v : R} (e : u * v = 0) : u = 0 ∨ v = 0:=mul_zero_or inv_ex e
example (a b : R) (h : a ≠ 0) (h2 : a * b = 1) : b = a⁻¹:=by grind
end Su
namespace Su
theorem mulle {a b c d : Rat} (h1 : a ≤ b) (h2 : c ≤ d) (h3 : 0 ≤ a) (h4 : 0 ≤ d) : a * c ≤ b * d:=by
 have e1 : a * c ≤ a * d:=Rat.mul_le_mul_of_nonneg_left h2 h3
 have e2 : a * d ≤ b * d:=Rat.mul_le_mul_of_nonneg_right h1 h4
 grind
theorem mulpos {a b : Rat} (h1 : 0 < a) (h2 : 0 < b) : 0 < a * b:=Rat.mul_pos h1 h2
theorem mulnn {a b : Rat} (h1 : 0 ≤ a) (h2 : 0 ≤ b) : 0 ≤ a * b:=Rat.mul_nonneg h1 h2
theorem sqlt {s t : Rat} (h : 0 ≤ s) (ht : 0 ≤ t) (h2 : s * s < t * t) : s < t:=by
 refine Classical.byContradiction fun z=>?_
 have:=mulle (a:=t) (b:=s) (c:=t) (d:=s) (by grind) (by grind) ht h
 grind
def nr (c a b : Rat) : Prop:=a ≤ b + c ∧ b ≤ a + c
def ab (p : Rat) : Rat:=if p < 0 then -p else p
theorem ab_nn (p : Rat) : 0 ≤ ab p:=by unfold ab;split <;> grind
theorem ab_le (p : Rat) : p ≤ ab p ∧ -p ≤ ab p:=by unfold ab;split <;> grind
theorem nr.smul {d s t : Rat} (p : Rat) (h : nr d s t) : nr (ab p * d) (p * s) (p * t):=by
 obtain ⟨h1,h2⟩:=h
 unfold ab
 split
 · have e1:=Rat.mul_le_mul_of_nonneg_left h1 (show 0 ≤ -p by grind)
   have e2:=Rat.mul_le_mul_of_nonneg_left h2 (show 0 ≤ -p by grind)
   constructor <;> grind
 · have e1:=Rat.mul_le_mul_of_nonneg_left h1 (show 0 ≤ p by grind)
   have e2:=Rat.mul_le_mul_of_nonneg_left h2 (show 0 ≤ p by grind)
   constructor <;> grind
def ht : L → Rat
 | []=>0
 | (a,p) :: x=>ab p * ((a : Rat) + 1) + ht x
theorem cast_nn (a : Nat) : (0 : Rat) ≤ (a : Rat):=by
 have : ((0 : Int) : Rat) ≤ ((a : Int) : Rat):=Rat.intCast_le_intCast.mpr (by omega)
 rwa [Rat.intCast_natCast] at this
theorem cast_le {a b : Nat} (h : a ≤ b) : (a : Rat) ≤ (b : Rat):=by
 have : ((a : Int) : Rat) ≤ ((b : Int) : Rat):=Rat.intCast_le_intCast.mpr (by omega)
 rwa [Rat.intCast_natCast,Rat.intCast_natCast] at this
theorem cast_lt {a b : Nat} (h : a < b) : (a : Rat) < (b : Rat):=by
 have : ((a : Int) : Rat) < ((b : Int) : Rat):=Rat.intCast_lt_intCast.mpr (by omega)
 rwa [Rat.intCast_natCast,Rat.intCast_natCast] at this
theorem ht_nn : ∀ x,0 ≤ ht x
 | []=>by simp [ht]
 | (a,p) :: x=>by
  have h1:=ht_nn x
  have h2:=mulnn (ab_nn p) (show (0 : Rat) ≤ (a : Rat) + 1 by have:=cast_nn a;grind)
  simp only [ht]
  grind
theorem lin_near {F G : Nat → Rat} {e : Rat} (h : ∀ a : Nat,nr (e * ((a : Rat) + 1)) (F a) (G a)) : ∀ x,nr (e * ht x) (lin F x) (lin G x)
 | []=>by simp only [lin,ht,nr];grind
 | (a,p) :: x=>by
  obtain ⟨h1,h2⟩:=lin_near h x
  obtain ⟨h3,h4⟩:=(h a).smul p
  simp only [lin,ht,nr]
  constructor <;> grind
structure Ap (ε : Rat) (g : Nat → Rat) : Prop where
 pos : 0 < ε
 one : ε ≤ 1
 nn : ∀ a,0 ≤ g a
 lo : ∀ a : Nat,g a * g a ≤ a
 hi : ∀ a : Nat,(a : Rat) < (g a + ε) * (g a + ε)
section
variable {ε : Rat} {g : Nat → Rat}
theorem Ap.le (h : Ap ε g) (a : Nat) : g a ≤ a:=by
 have h1:=h.lo a
 have h2:=h.nn a
 rcases Nat.eq_zero_or_pos a with rfl | ha
 · refine Classical.byContradiction fun z=>?_
   have : (0 : Rat) < g 0 * g 0:=mulpos (by simp at z;grind) (by simp at z;grind)
   simp at h1
   grind
 · refine Classical.byContradiction fun z=>?_
   have ha:=cast_le ha
   simp at ha
   have h3 : (a : Rat) < g a:=by grind
   have:=mulle (a:=(a : Rat)) (b:=g a) (c:=1) (d:=g a) (by grind) (by grind) (cast_nn a) h2
   have h4 : (a : Rat) * 1 < g a * g a:=by
    have e1:=Rat.mul_lt_mul_of_pos_right h3 (show 0 < g a by grind)
    have e2:=Rat.mul_le_mul_of_nonneg_left (show (1 : Rat) ≤ g a by grind) (cast_nn a)
    grind
   grind
theorem Ap.near (h : Ap ε g) {ε' : Rat} {g' : Nat → Rat} (h' : Ap ε' g') (a : Nat) : nr (ε + ε') (g a) (g' a):=by
 have p1:=h.pos
 have p2:=h'.pos
 have e1:=sqlt (h.nn a) (show 0 ≤ g' a + ε' by have:=h'.nn a;grind) (by have:=h.lo a;have:=h'.hi a;grind)
 have e2:=sqlt (h'.nn a) (show 0 ≤ g a + ε by have:=h.nn a;grind) (by have:=h'.lo a;have:=h.hi a;grind)
 constructor <;> grind
theorem rt_le (a : Nat) : rt a ≤ a:=by
 have h:=(rl a).1
 have h2:=lf_pos a
 rcases Nat.eq_zero_or_pos (rt a) with z | z
 · omega
 · have h3 : rt a * 1 ≤ rt a * (rt a * lf a):=Nat.mul_le_mul_left _ (Nat.mul_pos z h2)
   have h4 : rt a * (rt a * lf a) = rt a * rt a * lf a:=by rw [Nat.mul_assoc]
   omega
theorem Ap.tr (h : Ap ε g) (a : Nat) : nr (ε * ((a : Rat) + 1)) (g a) (tr g a):=by
 have p1:=h.pos
 have hc:=(rl a).1
 have hcR : (a : Rat) = (rt a : Rat) * (rt a : Rat) * (lf a : Rat):=by
  conv=>lhs;rw [hc]
  simp [Rat.natCast_mul]
 have r0:=cast_nn (rt a)
 have r1:=cast_le (rt_le a)
 have ge : 0 ≤ g a:=h.nn a
 have gl:=h.nn (lf a)
 have er : (rt a : Rat) * ε ≤ a * ε:=Rat.mul_le_mul_of_nonneg_right r1 (by grind)
 have ha:=mulnn (show (0 : Rat) ≤ ε by grind) (cast_nn a)
 constructor
 · rcases Nat.eq_zero_or_pos a with rfl | ha
   · have:=h.le 0
     simp [Su.tr,rt_zero] at *
     grind
   · have rp : (0 : Rat) < rt a:=by have:=cast_lt (rt_pos ha);simpa using this
     have : g a < (rt a : Rat) * (g (lf a) + ε):=by
      refine sqlt ge (mulnn r0 (by grind)) ?_
      have e1:=h.lo a
      have e2:=h.hi (lf a)
      have e3:=Rat.mul_lt_mul_of_pos_left e2 (mulpos rp rp)
      grind
     simp only [Su.tr]
     grind
 · have : (rt a : Rat) * g (lf a) < g a + ε:=by
    refine sqlt (mulnn r0 gl) (by grind) ?_
    have e1:=h.lo (lf a)
    have e2:=h.hi a
    have e3:=Rat.mul_le_mul_of_nonneg_left e1 (mulnn r0 r0)
    grind
   simp only [Su.tr]
   grind
theorem Ap.mul (h : Ap ε g) (a b : Nat) : nr (ε * ((a : Rat) + 1) * ((b : Rat) + 1)) (g (a * b)) (g a * g b):=by
 have p1:=h.pos
 have p2:=h.one
 have na:=h.nn a
 have nb:=h.nn b
 have nab:=h.nn (a * b)
 have la:=h.le a
 have lb:=h.le b
 have ca:=cast_nn a
 have cb:=cast_nn b
 have cab : ((a * b : Nat) : Rat) = (a : Rat) * b:=by simp
 have key : ε * g a + ε * g b + ε * ε ≤ ε * ((a : Rat) + 1) * ((b : Rat) + 1):=by
  have e1:=Rat.mul_le_mul_of_nonneg_left la (show 0 ≤ ε by grind)
  have e2:=Rat.mul_le_mul_of_nonneg_left lb (show 0 ≤ ε by grind)
  have e3:=Rat.mul_le_mul_of_nonneg_left p2 (show 0 ≤ ε by grind)
  have e4:=mulnn (show 0 ≤ ε by grind) (mulnn ca cb)
  grind
 have key2 : ε ≤ ε * ((a : Rat) + 1) * ((b : Rat) + 1):=by
  have e4:=mulnn (show 0 ≤ ε by grind) (mulnn ca cb)
  have e1:=mulnn (show 0 ≤ ε by grind) ca
  have e2:=mulnn (show 0 ≤ ε by grind) cb
  grind
 constructor
 · have : g (a * b) < (g a + ε) * (g b + ε):=by
    refine sqlt nab (mulnn (by grind) (by grind)) ?_
    have e1:=h.lo (a * b)
    rw [cab] at e1
    have e2:=h.hi a
    have e3:=h.hi b
    have q1 : 0 < (g a + ε) * (g a + ε):=mulpos (by grind) (by grind)
    have s1:=Rat.mul_lt_mul_of_pos_left e3 q1
    have s2:=Rat.mul_le_mul_of_nonneg_right (show (a : Rat) ≤ (g a + ε) * (g a + ε) by grind) cb
    grind
   grind
 · have : g a * g b < g (a * b) + ε:=by
    refine sqlt (mulnn na nb) (by grind) ?_
    have e2:=h.hi (a * b)
    rw [cab] at e2
    have e1:=h.lo a
    have e3:=h.lo b
    have:=mulle e1 e3 (mulnn na na) cb
    grind
   grind
theorem Ap.eqv (h : Ap ε g) {x y : L} (e : cl x = cl y) : nr (ε * (ht x + ht y)) (lin g x) (lin g y):=by
 have h1:=lin_near (fun a=>h.tr a) x
 have h2:=lin_near (fun a=>h.tr a) y
 have h3:=lin_eq (cl_eq.mp e) g
 obtain ⟨a1,a2⟩:=h1
 obtain ⟨b1,b2⟩:=h2
 constructor <;> grind
theorem Ap.prod (h : Ap ε g) (x y : L) : nr (ε * ht y * ht x) (lin g (Su.mul x y)) (lin g x * lin g y):=by
 have e : lin g x * lin g y = lin (fun a=>lin (fun b=>g a * g b) y) x:=by
  have : (fun a=>lin (fun b=>g a * g b) y) = fun a=>lin g y * g a:=funext fun a=>by rw [lin_smul];grind
  rw [this,lin_smul];grind
 rw [lin_mul,e]
 refine lin_near (fun a=>?_) x
 have:=lin_near (F:=fun b=>g (a * b)) (G:=fun b=>g a * g b) (e:=ε * ((a : Rat) + 1)) (fun b=>h.mul a b) y
 have e2 : ε * ((a : Rat) + 1) * ht y = ε * ht y * ((a : Rat) + 1):=by grind
 rw [e2] at this
 exact this
theorem Ap.bd (h : Ap ε g) : ∀ x,lin g x ≤ ht x ∧ -lin g x ≤ ht x
 | []=>by simp [lin,ht]
 | (a,p) :: x=>by
  obtain ⟨h1,h2⟩:=h.bd x
  have e:=h.le a
  have n:=h.nn a
  obtain ⟨a1,a2⟩:=ab_le p
  have a0:=ab_nn p
  have e1:=Rat.mul_le_mul_of_nonneg_left e a0
  have e2:=Rat.mul_le_mul_of_nonneg_right a1 n
  have e3:=Rat.mul_le_mul_of_nonneg_right a2 n
  simp only [lin,ht]
  constructor <;> grind
end
theorem fl_ex : ∀ n : Nat,∃ s,s * s ≤ n ∧ n < (s + 1) * (s + 1)
 | 0=>⟨0,by omega,by omega⟩
 | n + 1=>by
  obtain ⟨s,h1,h2⟩:=fl_ex n
  by_cases h : n + 1 < (s + 1) * (s + 1)
  · exact ⟨s,by omega,h⟩
  · refine ⟨s + 1,by omega,?_⟩
    have : (s + 1 + 1) * (s + 1 + 1) = (s + 1) * (s + 1) + 2 * (s + 1) + 1:=by grind
    omega
noncomputable def fl (n : Nat) : Nat:=(fl_ex n).choose
theorem fl_sq (n : Nat) : fl n * fl n ≤ n ∧ n < (fl n + 1) * (fl n + 1):=(fl_ex n).choose_spec
theorem ap_N {N : Nat} (hN : 0 < N) : Ap ((N : Rat)⁻¹) (fun a=>(fl (a * (N * N)) : Rat) * (N : Rat)⁻¹):=by
 have n0 : (0 : Rat) < N:=by have:=cast_lt hN;simpa using this
 have nz : (N : Rat) ≠ 0:=by grind
 have inv:=Rat.mul_inv_cancel _ nz
 have ip : 0 < (N : Rat)⁻¹:=Rat.inv_pos.mpr n0
 have sq : ∀ a : Nat,(a : Rat) = (a : Rat) * ((N : Rat) * N) * ((N : Rat)⁻¹ * (N : Rat)⁻¹):=fun a=>by grind
 refine ⟨ip,?_,fun a=>mulnn (cast_nn _) (by grind),fun a=>?_,fun a=>?_⟩
 · have h1:=cast_le hN
   simp at h1
   have:=Rat.mul_le_mul_of_nonneg_right h1 (show 0 ≤ (N : Rat)⁻¹ by grind)
   grind
 · have h:=cast_le (fl_sq (a * (N * N))).1
   simp only [Rat.natCast_mul] at h
   have:=Rat.mul_le_mul_of_nonneg_right h (mulnn (show 0 ≤ (N : Rat)⁻¹ by grind) (show 0 ≤ (N : Rat)⁻¹ by grind))
   have:=sq a
   grind
 · have h:=cast_lt (fl_sq (a * (N * N))).2
   simp only [Rat.natCast_mul,Rat.natCast_add] at h
   have e1 : ((1 : Nat) : Rat) = 1:=rfl
   rw [e1] at h
   have:=Rat.mul_lt_mul_of_pos_right h (mulpos ip ip)
   have:=sq a
   grind
theorem nat_ge (q : Rat) : ∃ n : Nat,q ≤ n:=by
 refine ⟨q.ceil.toNat,?_⟩
 have h1:=Rat.le_ceil (x:=q)
 have h2 : (q.ceil : Rat) ≤ ((q.ceil.toNat : Int) : Rat):=Rat.intCast_le_intCast.mpr (by omega)
 have h3 : ((q.ceil.toNat : Int) : Rat) = (q.ceil.toNat : Rat):=Rat.intCast_natCast _
 grind
theorem ap_ex {δ : Rat} (h : 0 < δ) : ∃ ε g,ε ≤ δ ∧ Ap ε g:=by
 obtain ⟨n,hn⟩:=nat_ge δ⁻¹
 have ip : 0 < δ⁻¹:=Rat.inv_pos.mpr h
 have n1 : 0 < n + 1:=by omega
 refine ⟨_,_,?_,ap_N n1⟩
 have h1:=Rat.mul_inv_cancel δ (by grind)
 have c1 : ((n + 1 : Nat) : Rat) = (n : Rat) + 1:=by simp
 have c0:=cast_nn n
 have h2:=Rat.mul_inv_cancel ((n + 1 : Nat) : Rat) (by grind)
 have i2 : 0 < (((n + 1 : Nat) : Rat))⁻¹:=Rat.inv_pos.mpr (by grind)
 generalize (((n + 1 : Nat) : Rat))⁻¹ = z at *
 have : δ⁻¹ ≤ ((n + 1 : Nat) : Rat):=by grind
 have e1:=Rat.mul_le_mul_of_nonneg_right this (mulnn (show 0 ≤ z by grind) (show 0 ≤ δ by grind))
 have e2 : δ⁻¹ * (z * δ) = z:=by grind
 have e3 : ((n + 1 : Nat) : Rat) * (z * δ) = δ:=by grind
 grind
end Su
namespace Su
def pos (u : R) : Prop:=∃ x δ e,u = cl x ∧ 0 < δ ∧ 0 < e ∧ ∀ ε g,Ap ε g → ε ≤ e → δ ≤ lin g x
theorem small {e0 c d : Rat} (h0 : 0 < e0) (hc : 0 ≤ c) (hd : 0 < d) : ∃ e,0 < e ∧ e ≤ e0 ∧ ∀ ε,0 < ε → ε ≤ e → ε * c ≤ d:=by
 have hc1 : 0 < c + 1:=by grind
 have inv:=Rat.mul_inv_cancel (c + 1) (by grind)
 have ip : 0 < (c + 1)⁻¹:=Rat.inv_pos.mpr hc1
 have dp:=mulpos hd ip
 have key : ∀ ε,0 < ε → ε ≤ d * (c + 1)⁻¹ → ε * c ≤ d:=by
  intro ε h1 h2
  have e1:=Rat.mul_le_mul_of_nonneg_right h2 (show 0 ≤ c + 1 by grind)
  have e2 : d * (c + 1)⁻¹ * (c + 1) = d:=by grind
  grind
 by_cases h : e0 ≤ d * (c + 1)⁻¹
 · exact ⟨e0,h0,by grind,fun ε h1 h2=>key ε h1 (by grind)⟩
 · exact ⟨d * (c + 1)⁻¹,dp,by grind,key⟩
theorem half {d : Rat} (h : 0 < d) : 0 < d * (1/2):=mulpos h (by grind)
theorem pos.rep {u : R} (h : pos u) {y : L} (e : u = cl y) : ∃ δ e,0 < δ ∧ 0 < e ∧ ∀ ε g,Ap ε g → ε ≤ e → δ ≤ lin g y:=by
 obtain ⟨x,δ,e0,rfl,hd,he,H⟩:=h
 obtain ⟨e1,h1,h2,h3⟩:=small he (show 0 ≤ ht x + ht y by have:=ht_nn x;have:=ht_nn y;grind) (half hd)
 refine ⟨δ * (1/2),e1,half hd,h1,fun ε g A l=>?_⟩
 have a:=H ε g A (by grind)
 have b:=(A.eqv e).1
 have c:=h3 ε A.pos l
 grind
theorem pos.add {u v : R} (h1 : pos u) (h2 : pos v) : pos (u + v):=by
 obtain ⟨x,d,e,rfl,hd,he,H⟩:=h1
 obtain ⟨y,d2,e2,rfl,hd2,he2,H2⟩:=h2
 by_cases q : e ≤ e2
 · refine ⟨x ++ y,d + d2,e,rfl,by grind,he,fun ε g A l=>?_⟩
   rw [lin_app]
   have:=H ε g A l
   have:=H2 ε g A (by grind)
   grind
 · refine ⟨x ++ y,d + d2,e2,rfl,by grind,he2,fun ε g A l=>?_⟩
   rw [lin_app]
   have:=H ε g A (by grind)
   have:=H2 ε g A (by grind)
   grind
theorem pos.mul {u v : R} (h1 : pos u) (h2 : pos v) : pos (u * v):=by
 obtain ⟨x,d,e,rfl,hd,he,H⟩:=h1
 obtain ⟨y,d2,e2,rfl,hd2,he2,H2⟩:=h2
 obtain ⟨e3,he3,l1,l2⟩ : ∃ e3,0 < e3 ∧ e3 ≤ e ∧ e3 ≤ e2:=by
  by_cases q : e ≤ e2
  · exact ⟨e,he,by grind,q⟩
  · exact ⟨e2,he2,by grind,by grind⟩
 have dd:=mulpos hd hd2
 obtain ⟨e4,h1,h2,h3⟩:=small he3 (mulnn (ht_nn y) (ht_nn x)) (half dd)
 refine ⟨Su.mul x y,d * d2 * (1/2),e4,rfl,half dd,h1,fun ε g A l=>?_⟩
 have a:=H ε g A (by grind)
 have b:=H2 ε g A (by grind)
 have c:=(A.prod x y).2
 have q:=h3 ε A.pos l
 have m:=mulle a b (by grind) (by grind)
 grind
theorem Ap.one1 {ε : Rat} {g : Nat → Rat} (A : Ap ε g) {a : Nat} (ha : 0 < a) : 1 - ε ≤ g a:=by
 have h:=A.hi a
 have p:=A.pos
 have n:=A.nn a
 have ha:=cast_le ha
 simp at ha
 refine Classical.byContradiction fun z=>?_
 have : (g a + ε) * (g a + ε) ≤ 1 * 1:=mulle (by grind) (by grind) (by grind) (by decide)
 grind
theorem pos_sr {a : Nat} (ha : 0 < a) : pos (sr a):=by
 refine ⟨[(a,1)],1/2,1/2,rfl,by grind,by grind,fun ε g A l=>?_⟩
 have:=A.one1 ha
 simp only [lin]
 grind
theorem pos_rat {q : Rat} (h : 0 < q) : pos (rat q):=by
 refine ⟨[(1,q)],q * (1/2),1/2,rfl,half h,by grind,fun ε g A l=>?_⟩
 have:=A.one1 (a:=1) (by omega)
 simp only [lin]
 have:=Rat.mul_le_mul_of_nonneg_left (show (1/2 : Rat) ≤ g 1 by grind) (show 0 ≤ q by grind)
 grind
theorem not_pos_zero : ¬ pos 0:=by
 intro h
 obtain ⟨d,e,hd,he,H⟩:=h.rep (y:=[]) cl_nil.symm
 obtain ⟨ε,g,l,A⟩:=ap_ex he
 have:=H ε g A l
 simp only [lin] at this
 grind
theorem pos_tri {u : R} (h : u ≠ 0) : pos u ∨ pos (-u):=by
 obtain ⟨x,rfl⟩:=cl_ex u
 obtain ⟨w,hw⟩:=inv_ex _ h
 obtain ⟨y,rfl⟩:=cl_ex w
 have e : cl (Su.mul x y) = cl [(1,1)]:=hw
 have hx:=ht_nn x
 have hy:=ht_nn y
 have h1:=ht_nn [(1,1)]
 have hm:=ht_nn (Su.mul x y)
 obtain ⟨e1,p1,q1,r1⟩:=small (e0:=1/4) (by grind) (show 0 ≤ ht y * ht x + (ht (Su.mul x y) + ht [(1,1)]) by have:=mulnn hy hx;grind) (d:=1/4) (by grind)
 have bp : 0 < ht y + 1:=by grind
 have ib : 0 < (ht y + 1)⁻¹:=Rat.inv_pos.mpr bp
 have iv:=Rat.mul_inv_cancel (ht y + 1) (by grind)
 have far : ∀ ε g,Ap ε g → ε ≤ e1 → (1/2) * (ht y + 1)⁻¹ ≤ lin g x ∨ (1/2) * (ht y + 1)⁻¹ ≤ -lin g x:=by
  intro ε g A l
  have a:=(A.prod x y).1
  have b:=(A.eqv e).2
  have c:=A.one1 (a:=1) (by omega)
  have d:=r1 ε A.pos l
  have f:=A.bd y
  have key : 1/2 ≤ lin g x * lin g y:=by simp only [lin] at b;grind
  by_cases s : 0 ≤ lin g x
  · refine .inl ?_
    have:=Rat.mul_le_mul_of_nonneg_left (show lin g y ≤ ht y + 1 by grind) s
    have:=Rat.mul_le_mul_of_nonneg_right (show 1/2 ≤ lin g x * (ht y + 1) by grind) (show 0 ≤ (ht y + 1)⁻¹ by grind)
    have : lin g x * (ht y + 1) * (ht y + 1)⁻¹ = lin g x:=by grind
    grind
  · refine .inr ?_
    have:=Rat.mul_le_mul_of_nonneg_left (show -lin g y ≤ ht y + 1 by grind) (show 0 ≤ -lin g x by grind)
    have:=Rat.mul_le_mul_of_nonneg_right (show 1/2 ≤ -lin g x * (ht y + 1) by grind) (show 0 ≤ (ht y + 1)⁻¹ by grind)
    have : -lin g x * (ht y + 1) * (ht y + 1)⁻¹ = -lin g x:=by grind
    grind
 have dp : 0 < (1/2) * (ht y + 1)⁻¹:=mulpos (by grind) ib
 obtain ⟨e2,p2,q2,r2⟩:=small p1 (show 0 ≤ 2 * ht x by grind) (half dp)
 have near : ∀ ε g ε' g',Ap ε g → ε ≤ e2 → Ap ε' g' → ε' ≤ e2 → nr (e2 * (2 * ht x)) (lin g x) (lin g' x):=by
  intro ε g ε' g' A l A' l'
  have:=lin_near (F:=g) (G:=g') (e:=2 * e2) (fun a=>by
   obtain ⟨h1,h2⟩:=A.near A' a
   have:=mulnn (show 0 ≤ 2 * e2 by grind) (cast_nn a)
   constructor <;> grind) x
  have e : 2 * e2 * ht x = e2 * (2 * ht x):=by grind
  rwa [e] at this
 obtain ⟨ε,g,l,A⟩:=ap_ex p2
 have bd:=r2 e2 p2 (by grind)
 rcases far ε g A (by grind) with s | s
 · refine .inl ⟨x,(1/2) * (ht y + 1)⁻¹,e2,rfl,dp,p2,fun ε' g' A' l'=>?_⟩
   rcases far ε' g' A' (by grind) with s' | s'
   · exact s'
   · have:=near ε g ε' g' A l A' l'
     have:=this.1
     grind
 · refine .inr ⟨neg x,(1/2) * (ht y + 1)⁻¹,e2,rfl,dp,p2,fun ε' g' A' l'=>?_⟩
   rw [lin_neg]
   rcases far ε' g' A' (by grind) with s' | s'
   · have:=near ε g ε' g' A l A' l'
     have:=this.2
     grind
   · exact s'
instance : LT R:=⟨fun u v=>pos (v - u)⟩
instance : LE R:=⟨fun u v=>u = v ∨ pos (v - u)⟩
theorem lt_def {u v : R} : u < v ↔ pos (v - u):=Iff.rfl
theorem le_def {u v : R} : u ≤ v ↔ u = v ∨ u < v:=Iff.rfl
theorem sub_zero' (u : R) : u - 0 = u:=by grind
theorem lt_zero {u : R} : 0 < u ↔ pos u:=by rw [lt_def,sub_zero']
theorem lt_tr {u v w : R} (h1 : u < v) (h2 : v < w) : u < w:=by
 have:=pos.add h1 h2
 have e : v - u + (w - v) = w - u:=by grind
 rw [e] at this
 exact this
theorem lt_irr (u : R) : ¬ u < u:=by
 rw [lt_def,show u - u = 0 by grind]
 exact not_pos_zero
theorem le_tr {u v w : R} (h1 : u ≤ v) (h2 : v ≤ w) : u ≤ w:=by
 rcases h1 with rfl | h1
 · exact h2
 · rcases h2 with rfl | h2
   · exact .inr h1
   · exact .inr (lt_tr h1 h2)
theorem lt_tri (u v : R) : u < v ∨ u = v ∨ v < u:=by
 by_cases h : v - u = 0
 · exact .inr (.inl (by grind))
 · rcases pos_tri h with p | p
   · exact .inl p
   · refine .inr (.inr ?_)
     rw [lt_def,show u - v = -(v - u) by grind]
     exact p
instance : Std.IsLinearOrder R where
 le_refl u:=.inl rfl
 le_trans u v w:=le_tr
 le_antisymm u v h1 h2:=by
  rcases h1 with h1 | h1
  · exact h1
  · rcases h2 with h2 | h2
    · exact h2.symm
    · exact (lt_irr u (lt_tr h1 h2)).elim
 le_total u v:=by
  rcases lt_tri u v with h | h | h
  · exact .inl (.inr h)
  · exact .inl (.inl h)
  · exact .inr (.inr h)
instance : Std.LawfulOrderLT R where
 lt_iff u v:=by
  constructor
  · intro h
    refine ⟨.inr h,fun h2=>?_⟩
    rcases h2 with h2 | h2
    · exact lt_irr u (by rw [h2] at h;exact (lt_irr _ h).elim)
    · exact lt_irr u (lt_tr h h2)
  · rintro ⟨h1,h2⟩
    rcases h1 with h1 | h1
    · exact (h2 (.inl h1.symm)).elim
    · exact h1
instance : Lean.Grind.OrderedRing R where
 add_le_left_iff {u v} w:=by
  rw [le_def,le_def,lt_def,lt_def,show v + w - (u + w) = v - u by grind]
  constructor
  · rintro (h | h)
    · exact .inl (by rw [h])
    · exact .inr h
  · rintro (h | h)
    · exact .inl (by grind)
    · exact .inr h
 zero_lt_one:=by rw [lt_zero];exact pos_rat (by decide)
 mul_lt_mul_of_pos_left {u v w} h1 h2:=by
  rw [lt_def,show w * v - w * u = w * (v - u) by grind]
  exact (lt_zero.mp h2).mul h1
 mul_lt_mul_of_pos_right {u v w} h1 h2:=by
  rw [lt_def,show v * w - u * w = (v - u) * w by grind]
  exact pos.mul h1 (lt_zero.mp h2)
example (a b c : R) (h : a < b) (h2 : b ≤ c) : a + 1 < c + 2:=by grind
example (a b c : R) (h : ¬ a < b) (h2 : c ≤ b) : c ≤ a:=by grind
theorem mpos {u v : R} (h1 : 0 < u) (h2 : 0 < v) : 0 < u * v:=lt_zero.mpr ((lt_zero.mp h1).mul (lt_zero.mp h2))
end Su
namespace Su
structure Cn (x : L) : Prop where
 up : x.Pairwise fun a b=>a.1 < b.1
 nz : ∀ t ∈ x,t.2 ≠ 0
 sq : ∀ t ∈ x,sqf t.1
def Sq (x : L) : Prop:=∀ t ∈ x,sqf t.1
theorem co_cons {a : Nat} {p : Rat} {x : L} (h : sqf a) (d : Nat) : co ((a,p) :: x) d = (if a = d then p else 0) + co x d:=by
 have e:=rl_sqf h
 simp only [co,lin,tr,e.1,e.2]
 split
 · simp
 · simp
theorem co_mem {x : L} (h : Cn x) {d : Nat} {q : Rat} (hq : q ≠ 0) : (d,q) ∈ x ↔ co x d = q:=by
 induction x with
 | nil=>
  have : co [] d = 0:=rfl
  simp only [List.not_mem_nil,this,false_iff]
  exact fun z=>hq z.symm
 | cons t x ih=>
  obtain ⟨a,p⟩:=t
  have hx : Cn x:=⟨(List.pairwise_cons.mp h.up).2,fun t ht=>h.nz t (List.mem_cons_of_mem _ ht),fun t ht=>h.sq t (List.mem_cons_of_mem _ ht)⟩
  rw [co_cons (h.sq _ List.mem_cons_self)]
  by_cases e : a = d
  · subst e
    have hz : co x a = 0:=co_none fun t ht=>by
     rw [(rl_sqf (hx.sq t ht)).2]
     have:=(List.pairwise_cons.mp h.up).1 t ht
     exact fun z=>by simp only at this;omega
    rw [if_pos rfl,hz]
    constructor
    · intro m
      rcases List.mem_cons.mp m with m | m
      · simp only [Prod.mk.injEq] at m
        rw [m.2];grind
      · have:=(List.pairwise_cons.mp h.up).1 _ m
        simp at this
    · intro m
      have : q = p:=by grind
      rw [this];exact List.mem_cons_self
  · rw [if_neg e,Rat.zero_add,← ih hx]
    constructor
    · intro m
      rcases List.mem_cons.mp m with m | m
      · simp only [Prod.mk.injEq] at m
        exact absurd m.1.symm e
      · exact m
    · exact List.mem_cons_of_mem _
theorem up_eq : ∀ {A B : L},A.Pairwise (fun a b=>a.1 < b.1) → B.Pairwise (fun a b=>a.1 < b.1) → (∀ t,t ∈ A ↔ t ∈ B) → A = B
 | [],[],_,_,_=>rfl
 | [],b :: B,_,_,h=>by have:=(h b).mpr List.mem_cons_self;cases this
 | a :: A,[],_,_,h=>by have:=(h a).mp List.mem_cons_self;cases this
 | a :: A,b :: B,h1,h2,h=>by
  have h1':=List.pairwise_cons.mp h1
  have h2':=List.pairwise_cons.mp h2
  have e : a = b:=by
   rcases List.mem_cons.mp ((h a).mp List.mem_cons_self) with e | ma
   · exact e
   · rcases List.mem_cons.mp ((h b).mpr List.mem_cons_self) with e | mb
     · exact e.symm
     · have:=h2'.1 a ma
       have:=h1'.1 b mb
       omega
  subst e
  congr 1
  refine up_eq h1'.2 h2'.2 fun t=>⟨fun ht=>?_,fun ht=>?_⟩
  · refine (List.mem_cons.mp ((h t).mp (List.mem_cons_of_mem _ ht))).resolve_left fun z=>?_
    have:=h1'.1 t ht
    rw [z] at this;omega
  · refine (List.mem_cons.mp ((h t).mpr (List.mem_cons_of_mem _ ht))).resolve_left fun z=>?_
    have:=h2'.1 t ht
    rw [z] at this;omega
theorem Cn.eq {x y : L} (hx : Cn x) (hy : Cn y) (e : cl x = cl y) : x = y:=by
 refine up_eq hx.up hy.up fun t=>?_
 obtain ⟨d,q⟩:=t
 have h:=cl_eq.mp e d
 by_cases hq : q = 0
 · exact ⟨fun m=>absurd hq (hx.nz _ m),fun m=>absurd hq (hy.nz _ m)⟩
 · rw [co_mem hx hq,co_mem hy hq,h]
def look (k : L) (r : Nat) : Rat:=((k.find? fun t=>decide (t.1 = r)).map (·.2)).getD 0
def put (k : L) (r : Nat) (q : Rat) : L:=if k.any (fun t=>decide (t.1 = r)) then k.map (fun t=>if t.1 = r then (t.1,look k r + q) else t) else k ++ [(r,0 + q)]
def puts (k : L) : L → L
 | []=>k
 | t :: x=>puts (put k t.1 t.2) x
def keysL (k : L) : List Nat:=k.map (·.1)
theorem look_cons (a : Nat) (p : Rat) (k : L) (r : Nat) : look ((a,p) :: k) r = if a = r then p else look k r:=by
 unfold look
 by_cases h : a = r
 · simp [h]
 · simp [h]
theorem look_none {k : L} {r : Nat} (h : r ∉ keysL k) : look k r = 0:=by
 induction k with
 | nil=>rfl
 | cons t k ih=>
  obtain ⟨a,p⟩:=t
  simp only [keysL,List.map_cons,List.mem_cons,not_or] at h
  rw [look_cons,if_neg (fun z=>h.1 z.symm),ih h.2]
theorem look_mem {k : L} (hn : (keysL k).Nodup) {t : Nat × Rat} (h : t ∈ k) : look k t.1 = t.2:=by
 induction k with
 | nil=>cases h
 | cons s k ih=>
  obtain ⟨a,p⟩:=s
  simp only [keysL,List.map_cons,List.nodup_cons] at hn
  rw [look_cons]
  rcases List.mem_cons.mp h with rfl | h
  · rw [if_pos rfl]
  · rename_i h0
    rw [if_neg,ih hn.2 h]
    rintro rfl
    exact hn.1 (List.mem_map_of_mem h)
theorem any_iff {k : L} {r : Nat} : (k.any fun t=>decide (t.1 = r)) = true ↔ r ∈ keysL k:=by
 simp only [List.any_eq_true,decide_eq_true_eq,keysL,List.mem_map]
theorem put_keys (k : L) (r : Nat) (q : Rat) : keysL (put k r q) = if r ∈ keysL k then keysL k else keysL k ++ [r]:=by
 unfold put
 by_cases h : r ∈ keysL k
 · rw [if_pos (any_iff.mpr h),if_pos h]
   simp only [keysL,List.map_map]
   refine List.map_congr_left fun t _=>?_
   simp only [Function.comp]
   split <;> rfl
 · rw [if_neg (fun z=>h (any_iff.mp z)),if_neg h]
   simp [keysL]
theorem put_nodup {k : L} (hn : (keysL k).Nodup) (r : Nat) (q : Rat) : (keysL (put k r q)).Nodup:=by
 rw [put_keys]
 split
 · exact hn
 · rename_i h
   rw [List.nodup_append]
   refine ⟨hn,by simp,fun a ha b hb=>?_⟩
   rw [List.mem_singleton] at hb
   subst hb
   rintro rfl
   exact h ha
theorem put_lin {k : L} (hn : (keysL k).Nodup) (F : Nat → Rat) (r : Nat) (q : Rat) : lin F (put k r q) = lin F k + q * F r:=by
 unfold put
 by_cases h : r ∈ keysL k
 · rw [if_pos (any_iff.mpr h)]
   generalize hc : look k r + q = c
   have : ∀ k : L,(keysL k).Nodup → r ∈ keysL k → look k r + q = c → lin F (k.map fun t=>if t.1 = r then (t.1,c) else t) = lin F k + q * F r:=by
    intro k
    induction k with
    | nil=>intro _ h;cases h
    | cons t k ih=>
     obtain ⟨a,p⟩:=t
     intro hn h hc
     simp only [keysL,List.map_cons,List.nodup_cons] at hn
     rw [look_cons] at hc
     simp only [List.map_cons,lin]
     by_cases e : a = r
     · subst e
       rw [if_pos rfl] at hc ⊢
       have : (k.map fun t=>if t.1 = a then (t.1,c) else t) = k:=by
        conv=>rhs;rw [← List.map_id k]
        refine List.map_congr_left fun t ht=>?_
        rw [if_neg];rfl
        rintro rfl
        exact hn.1 (List.mem_map_of_mem ht)
       rw [this]
       simp only [lin]
       grind
     · rw [if_neg e] at hc ⊢
       have:=ih hn.2 (by
        simp only [keysL,List.map_cons,List.mem_cons] at h
        exact h.resolve_left fun z=>e z.symm) hc
       rw [this]
       simp only
       grind
   exact this k hn h hc
 · rw [if_neg (fun z=>h (any_iff.mp z)),lin_app]
   simp only [lin]
   grind
theorem puts_ok : ∀ (x : L) {k : L},(keysL k).Nodup → (keysL (puts k x)).Nodup ∧ ∀ F,lin F (puts k x) = lin F k + lin F x
 | [],k,h=>⟨h,fun F=>by simp only [puts,lin];grind⟩
 | t :: x,k,h=>by
  obtain ⟨h1,h2⟩:=puts_ok x (put_nodup h t.1 t.2)
  refine ⟨h1,fun F=>?_⟩
  rw [puts,h2,put_lin h]
  simp only [lin]
  grind
theorem puts_keys : ∀ (x : L) {k : L} {r : Nat},r ∈ keysL (puts k x) ↔ r ∈ keysL k ∨ r ∈ keysL x
 | [],k,r=>by simp [puts,keysL]
 | t :: x,k,r=>by
  rw [puts,puts_keys x,put_keys]
  have e : keysL (t :: x) = t.1 :: keysL x:=rfl
  rw [e,List.mem_cons]
  by_cases h : t.1 ∈ keysL k
  · rw [if_pos h]
    constructor
    · rintro (a | a)
      · exact .inl a
      · exact .inr (.inr a)
    · rintro (a | a | a)
      · exact .inl a
      · exact .inl (a ▸ h)
      · exact .inr a
  · rw [if_neg h]
    simp only [List.mem_append,List.mem_singleton]
    constructor
    · rintro ((a | a) | a)
      · exact .inl a
      · exact .inr (.inl a)
      · exact .inr (.inr a)
    · rintro (a | a | a)
      · exact .inl (.inl a)
      · exact .inl (.inr a)
      · exact .inr a
def insN (x : Nat) : List Nat → List Nat
 | []=>[x]
 | y :: r=>if x ≤ y then x :: y :: r else y :: insN x r
def srtN : List Nat → List Nat
 | []=>[]
 | x :: r=>insN x (srtN r)
theorem insN_perm (x : Nat) : ∀ l,(insN x l).Perm (x :: l)
 | []=>.refl _
 | y :: r=>by
  simp only [insN]
  split
  · exact .refl _
  · exact ((insN_perm x r).cons y).trans (.swap x y r)
theorem srtN_perm : ∀ l,(srtN l).Perm l
 | []=>.refl _
 | x :: r=>(insN_perm x (srtN r)).trans ((srtN_perm r).cons x)
theorem insN_up (x : Nat) : ∀ l : List Nat,l.Pairwise (· ≤ ·) → (insN x l).Pairwise (· ≤ ·)
 | [],_=>List.pairwise_singleton _ _
 | y :: r,h=>by
  have h':=List.pairwise_cons.mp h
  simp only [insN]
  split
  · rename_i hx
    refine List.pairwise_cons.mpr ⟨fun z hz=>?_,h⟩
    rcases List.mem_cons.mp hz with rfl | hz
    · exact hx
    · exact Nat.le_trans hx (h'.1 z hz)
  · refine List.pairwise_cons.mpr ⟨fun z hz=>?_,insN_up x r h'.2⟩
    rcases List.mem_cons.mp ((insN_perm x r).mem_iff.mp hz) with rfl | hz
    · omega
    · exact h'.1 z hz
theorem srtN_up : ∀ l : List Nat,(srtN l).Pairwise (· ≤ ·)
 | []=>.nil
 | x :: r=>insN_up x _ (srtN_up r)
theorem srtN_lt {l : List Nat} (h : l.Nodup) : (srtN l).Pairwise (· < ·):=by
 have h1:=srtN_up l
 have h2:=(srtN_perm l).nodup_iff.mpr h
 exact (h1.and h2).imp fun ⟨a,b⟩=>by omega
def outs (k : L) : L:=((srtN (keysL k)).map fun r=>(r,look k r)).filter fun t=>decide (t.2 ≠ 0)
theorem lin_perm {F : Nat → Rat} {x y : L} (h : x.Perm y) : lin F x = lin F y:=by
 induction h with
 | nil=>rfl
 | cons t _ ih=>simp only [lin,ih]
 | swap a b l=>simp only [lin];grind
 | trans _ _ h1 h2=>rw [h1,h2]
theorem lin_nz {F : Nat → Rat} : ∀ x : L,lin F (x.filter fun t=>decide (t.2 ≠ 0)) = lin F x
 | []=>rfl
 | (a,p) :: x=>by
  have ih:=lin_nz (F:=F) x
  rw [List.filter_cons]
  by_cases h : p = 0
  · rw [if_neg (by simp [h]),ih,lin,h];grind
  · rw [if_pos (by simp [h]),lin,lin,ih]
theorem outs_perm {k : L} (hn : (keysL k).Nodup) : ((srtN (keysL k)).map fun r=>(r,look k r)).Perm k:=by
 have h:=(srtN_perm (keysL k)).map fun r=>(r,look k r)
 refine h.trans (.of_eq ?_)
 simp only [keysL,List.map_map]
 conv=>rhs;rw [← List.map_id k]
 refine List.map_congr_left fun t ht=>?_
 simp only [Function.comp,look_mem hn ht]
 rfl
theorem outs_lin {k : L} (hn : (keysL k).Nodup) (F : Nat → Rat) : lin F (outs k) = lin F k:=by
 unfold outs
 rw [lin_nz,lin_perm (outs_perm hn)]
def gath (x : L) : L:=outs (puts [] x)
theorem gath_lin (x : L) (F : Nat → Rat) : lin F (gath x) = lin F x:=by
 obtain ⟨h1,h2⟩:=puts_ok x (k:=[]) (by simp [keysL])
 rw [gath,outs_lin h1,h2]
 simp only [lin];grind
theorem gath_cl (x : L) : cl (gath x) = cl x:=cl_of (gath_lin x)
theorem gath_sub {x : L} {t : Nat × Rat} (h : t ∈ gath x) : t.1 ∈ keysL x:=by
 obtain ⟨h1,_⟩:=puts_ok x (k:=[]) (by simp [keysL])
 have h2:=(outs_perm h1).mem_iff.mp (List.mem_filter.mp h).1
 have h3 : t.1 ∈ keysL (puts [] x):=List.mem_map_of_mem h2
 rw [puts_keys] at h3
 rcases h3 with h3 | h3
 · cases h3
 · exact h3
theorem gath_cn {x : L} (h : Sq x) : Cn (gath x):=by
 obtain ⟨h1,_⟩:=puts_ok x (k:=[]) (by simp [keysL])
 refine ⟨?_,fun t ht=>by simpa using (List.mem_filter.mp ht).2,fun t ht=>?_⟩
 · refine List.Pairwise.filter _ ?_
   rw [List.pairwise_map]
   exact srtN_lt h1
 · obtain ⟨s,hs,e⟩:=List.mem_map.mp (gath_sub ht)
   rw [← e]
   exact h s hs
theorem rep_ex (u : R) : ∃ x,Cn x ∧ cl x = u:=by
 obtain ⟨m,hm,x,rfl,hx⟩:=In.ex u
 exact ⟨gath x,gath_cn fun t ht=>sqf_dvd hm (hx t ht),gath_cl x⟩
noncomputable def rep (u : R) : L:=(rep_ex u).choose
theorem rep_cn (u : R) : Cn (rep u):=(rep_ex u).choose_spec.1
theorem rep_cl (u : R) : cl (rep u) = u:=(rep_ex u).choose_spec.2
theorem rep_of {x : L} (h : Cn x) : rep (cl x) = x:=(rep_cn _).eq h (rep_cl _)
theorem rep_gath {x : L} (h : Sq x) : gath x = rep (cl x):=by rw [← gath_cl,rep_of (gath_cn h)]
theorem rep_inj {u v : R} : rep u = rep v ↔ u = v:=⟨fun h=>by rw [← rep_cl u,h,rep_cl],fun h=>by rw [h]⟩
theorem cn_nil : Cn []:=⟨.nil,(fun _ h=>by cases h),(fun _ h=>by cases h)⟩
theorem cn_one {a : Nat} {q : Rat} (h : sqf a) (hq : q ≠ 0) : Cn [(a,q)]:=⟨List.pairwise_singleton _ _,fun t ht=>by rw [List.mem_singleton.mp ht];exact hq,fun t ht=>by rw [List.mem_singleton.mp ht];exact h⟩
theorem rep_zero : rep 0 = []:=by rw [← cl_nil,rep_of cn_nil]
theorem rep_nil {u : R} : rep u = [] ↔ u = 0:=by rw [← rep_zero,rep_inj]
def nrm : L → Rat
 | []=>0
 | (a,p) :: x=>ab p * (a : Rat) + nrm x
structure Sz (D : Nat) (M : Rat) (x : L) : Prop where
 dn : ∀ t ∈ x,t.2.den ∣ D
 up : nrm x ≤ M
theorem nrm_nn : ∀ x,0 ≤ nrm x
 | []=>by simp [nrm]
 | (a,p) :: x=>by
  have:=nrm_nn x
  have:=mulnn (ab_nn p) (cast_nn a)
  simp only [nrm];grind
theorem nrm_app (x y : L) : nrm (x ++ y) = nrm x + nrm y:=by
 induction x with
 | nil=>simp only [List.nil_append,nrm];grind
 | cons t x ih=>simp only [List.cons_append,nrm,ih];grind
theorem ab_add (p q : Rat) : ab (p + q) ≤ ab p + ab q:=by unfold ab;split <;> split <;> split <;> grind
theorem ab_mul (p q : Rat) : ab (p * q) = ab p * ab q:=by
 have key : ∀ p q : Rat,0 ≤ p → ab (p * q) = p * ab q:=by
  intro p q hp
  unfold ab
  by_cases hq : q < 0
  · rw [if_pos hq]
    have:=mulnn hp (show 0 ≤ -q by grind)
    split <;> grind
  · rw [if_neg hq]
    have:=mulnn hp (show 0 ≤ q by grind)
    split <;> grind
 by_cases hp : 0 ≤ p
 · rw [key p q hp]
   congr 1
   unfold ab;split <;> grind
 · have:=key (-p) q (by grind)
   have e : ab (p * q) = ab (-p * q):=by
    have : -p * q = -(p * q):=by grind
    rw [this]
    unfold ab;split <;> split <;> grind
   rw [e,this]
   congr 1
   unfold ab;split <;> grind
theorem ab_zero : ab 0 = 0:=by unfold ab;split <;> grind
theorem nrm_mem {x : L} {t : Nat × Rat} (h : t ∈ x) : ab t.2 * (t.1 : Rat) ≤ nrm x:=by
 induction x with
 | nil=>cases h
 | cons s x ih=>
  obtain ⟨a,p⟩:=s
  have:=nrm_nn x
  have:=mulnn (ab_nn p) (cast_nn a)
  simp only [nrm]
  rcases List.mem_cons.mp h with rfl | h
  · simp only;grind
  · have:=ih h;grind
theorem nrm_perm {x y : L} (h : x.Perm y) : nrm x = nrm y:=by
 induction h with
 | nil=>rfl
 | cons t _ ih=>simp only [nrm,ih]
 | swap a b l=>simp only [nrm];grind
 | trans _ _ h1 h2=>rw [h1,h2]
theorem nrm_filter (f : Nat × Rat → Bool) : ∀ x : L,nrm (x.filter f) ≤ nrm x
 | []=>by simp [nrm]
 | (a,p) :: x=>by
  have ih:=nrm_filter f x
  have:=mulnn (ab_nn p) (cast_nn a)
  rw [List.filter_cons]
  split
  · simp only [nrm];grind
  · simp only [nrm];grind
theorem nrm_put {k : L} (hn : (keysL k).Nodup) (r : Nat) (q : Rat) : nrm (put k r q) ≤ nrm k + ab q * (r : Rat):=by
 unfold put
 by_cases h : r ∈ keysL k
 · rw [if_pos (any_iff.mpr h)]
   generalize hc : look k r + q = c
   have : ∀ k : L,(keysL k).Nodup → look k r + q = c → nrm (k.map fun t=>if t.1 = r then (t.1,c) else t) ≤ nrm k + ab q * (r : Rat):=by
    intro k
    induction k with
    | nil=>
     intro _ _
     have:=mulnn (ab_nn q) (cast_nn r)
     simp only [List.map_nil,nrm];grind
    | cons t k ih=>
     obtain ⟨a,p⟩:=t
     intro hn hc
     simp only [keysL,List.map_cons,List.nodup_cons] at hn
     rw [look_cons] at hc
     simp only [List.map_cons,nrm]
     by_cases e : a = r
     · subst e
       rw [if_pos rfl] at hc ⊢
       have : (k.map fun t=>if t.1 = a then (t.1,c) else t) = k:=by
        conv=>rhs;rw [← List.map_id k]
        refine List.map_congr_left fun t ht=>?_
        rw [if_neg];rfl
        rintro rfl
        exact hn.1 (List.mem_map_of_mem ht)
       rw [this,← hc]
       have:=Rat.mul_le_mul_of_nonneg_right (ab_add p q) (cast_nn a)
       simp only [nrm]
       grind
     · rw [if_neg e] at hc ⊢
       have:=ih hn.2 hc
       simp only [nrm]
       grind
   exact this k hn hc
 · rw [if_neg (fun z=>h (any_iff.mp z)),nrm_app]
   simp only [nrm,Rat.zero_add]
   grind
theorem den_of {r : Rat} {D : Nat} {n : Int} (e : r * (D : Rat) = (n : Rat)) (hD : 0 < D) : r.den ∣ D:=by
 have h:=rat_den r
 have e2 : r.num * (D : Int) = n * (r.den : Int):=by
  have : ((r.num * (D : Int) : Int) : Rat) = ((n * (r.den : Int) : Int) : Rat):=by
   simp only [Rat.intCast_mul,Rat.intCast_natCast]
   grind
  rwa [Rat.intCast_inj] at this
 have d1 : (r.den : Int) ∣ r.num * (D : Int):=⟨n,by rw [e2,Int.mul_comm]⟩
 have d2 : r.den ∣ r.num.natAbs * D:=by
  have:=Int.natAbs_dvd_natAbs.mpr d1
  rwa [Int.natAbs_mul,Int.natAbs_natCast,Int.natAbs_natCast] at this
 exact Nat.Coprime.dvd_of_dvd_mul_left r.reduced.symm d2
theorem den_add {p q : Rat} {D : Nat} (h1 : p.den ∣ D) (h2 : q.den ∣ D) : (p + q).den ∣ D:=by
 rcases Nat.eq_zero_or_pos D with rfl | hD
 · exact Nat.dvd_zero _
 obtain ⟨a,ha⟩:=h1
 obtain ⟨b,hb⟩:=h2
 have e1:=rat_den p
 have e2:=rat_den q
 have c1 : (D : Rat) = (p.den : Rat) * a:=by conv=>lhs;rw [ha];simp
 have c2 : (D : Rat) = (q.den : Rat) * b:=by conv=>lhs;rw [hb];simp
 have e : (p + q) * (D : Rat) = ((p.num * a + q.num * b : Int) : Rat):=by
  have : (p + q) * (D : Rat) = p * D + q * D:=by grind
  rw [this]
  conv=>lhs;lhs;rw [c1]
  conv=>lhs;rhs;rw [c2]
  simp only [Rat.intCast_add,Rat.intCast_mul,Rat.intCast_natCast]
  grind
 exact den_of e hD
theorem den_mul {p q : Rat} {D E : Nat} (h1 : p.den ∣ D) (h2 : q.den ∣ E) : (p * q).den ∣ D * E:=by
 refine Nat.dvd_trans ?_ (Nat.mul_dvd_mul h1 h2)
 rw [Rat.den_mul]
 exact Nat.div_dvd_of_dvd (Nat.gcd_dvd_right _ _)
theorem den_nat (n : Nat) : ((n : Rat)).den = 1:=Rat.den_natCast n
theorem Sz.put {D : Nat} {M : Rat} {k : L} (h : Sz D M k) (hn : (keysL k).Nodup) {r : Nat} {q : Rat} (hq : q.den ∣ D) : Sz D (M + ab q * (r : Rat)) (put k r q) ∧ (look k r).den ∣ D:=by
 have hl : (look k r).den ∣ D:=by
  by_cases hr : r ∈ keysL k
  · obtain ⟨t,ht,rfl⟩:=List.mem_map.mp hr
    rw [look_mem hn ht]
    exact h.dn t ht
  · rw [look_none hr];exact Nat.one_dvd D
 refine ⟨⟨fun t ht=>?_,?_⟩,hl⟩
 · unfold Su.put at ht
   split at ht
   · obtain ⟨s,hs,rfl⟩:=List.mem_map.mp ht
     split
     · exact den_add hl hq
     · exact h.dn s hs
   · rcases List.mem_append.mp ht with ht | ht
     · exact h.dn t ht
     · rw [List.mem_singleton.mp ht]
       simp only [Rat.zero_add]
       exact hq
 · have:=nrm_put hn r q
   have:=h.up
   grind
theorem Sz.outs {D : Nat} {M : Rat} {k : L} (h : Sz D M k) (hn : (keysL k).Nodup) : Sz D M (outs k):=by
 have p:=outs_perm hn
 refine ⟨fun t ht=>h.dn t (p.mem_iff.mp (List.mem_filter.mp ht).1),?_⟩
 unfold Su.outs
 have:=nrm_filter (fun t=>decide (t.2 ≠ 0)) ((srtN (keysL k)).map fun r=>(r,look k r))
 rw [nrm_perm p] at this
 have:=h.up
 grind
theorem Sz.puts {D : Nat} : ∀ {x : L} {k : L} {M : Rat},Sz D M k → (keysL k).Nodup → (∀ t ∈ x,t.2.den ∣ D) → Sz D (M + nrm x) (puts k x)
 | [],k,M,h,_,_=>⟨h.dn,by have:=h.up;simp only [nrm];show nrm k ≤ _;grind⟩
 | t :: x,k,M,h,hn,hx=>by
  have h1:=(h.put hn (r:=t.1) (hx t List.mem_cons_self)).1
  have:=Sz.puts h1 (put_nodup hn t.1 t.2) fun s hs=>hx s (List.mem_cons_of_mem _ hs)
  refine ⟨this.dn,?_⟩
  have:=this.up
  simp only [nrm]
  show nrm (Su.puts (Su.put k t.1 t.2) x) ≤ _
  grind
theorem Sz.gath {D : Nat} {M : Rat} {x : L} (h : Sz D M x) : Sz D M (gath x):=by
 have h0 : Sz D 0 ([] : L):=⟨(fun _ z=>by cases z),by simp [nrm]⟩
 have h1:=h0.puts (x:=x) (by simp [keysL]) h.dn
 have h2:=h1.outs (puts_ok x (k:=[]) (by simp [keysL])).1
 refine ⟨h2.dn,?_⟩
 have:=h2.up
 have:=h.up
 show nrm (Su.outs (Su.puts [] x)) ≤ _
 grind
theorem Sz.le {D E : Nat} {M N : Rat} {x : L} (h : Sz D M x) (h1 : D ∣ E) (h2 : M ≤ N) : Sz E N x:=⟨fun t ht=>Nat.dvd_trans (h.dn t ht) h1,by have:=h.up;grind⟩
theorem Sz.app {D E : Nat} {M N : Rat} {x y : L} (h : Sz D M x) (h' : Sz E N y) : Sz (D * E) (M + N) (x ++ y):=by
 refine ⟨fun t ht=>?_,?_⟩
 · rcases List.mem_append.mp ht with ht | ht
   · exact Nat.dvd_trans (h.dn t ht) (Nat.dvd_mul_right D E)
   · exact Nat.dvd_trans (h'.dn t ht) (Nat.dvd_mul_left E D)
 · rw [nrm_app]
   have:=h.up
   have:=h'.up
   grind
end Su
namespace Su
def SzR (D : Nat) (M : Rat) (u : R) : Prop:=Sz D M (rep u)
theorem SzR.of {D : Nat} {M : Rat} {x : L} (h : Sz D M x) (hs : Sq x) : SzR D M (cl x):=by
 unfold SzR
 rw [← rep_gath hs]
 exact h.gath
def pairT (s t : Nat × Rat) : Nat × Rat:=(s.1 / Nat.gcd s.1 t.1 * (t.1 / Nat.gcd s.1 t.1),s.2 * t.2 * ((Nat.gcd s.1 t.1 : Nat) : Rat))
def prods : L → L → L
 | [],_=>[]
 | s :: x,y=>y.map (pairT s) ++ prods x y
theorem sqf_pair {a b : Nat} (ha : sqf a) (hb : sqf b) : sqf (a / Nat.gcd a b * (b / Nat.gcd a b)):=
 sqf_mul (sqf_dvd ha (Nat.div_dvd_of_dvd (Nat.gcd_dvd_left a b))) (sqf_dvd hb (Nat.div_dvd_of_dvd (Nat.gcd_dvd_right a b))) (Nat.coprime_div_gcd_div_gcd (Nat.gcd_pos_of_pos_left _ ha.1))
theorem prods_mem : ∀ {x y : L} {t : Nat × Rat},t ∈ prods x y → ∃ a ∈ x,∃ b ∈ y,t = pairT a b
 | [],_,_,h=>by cases h
 | s :: x,y,t,h=>by
  rcases List.mem_append.mp h with h | h
  · obtain ⟨b,hb,rfl⟩:=List.mem_map.mp h
    exact ⟨s,List.mem_cons_self,b,hb,rfl⟩
  · obtain ⟨a,ha,b,hb,e⟩:=prods_mem h
    exact ⟨a,List.mem_cons_of_mem _ ha,b,hb,e⟩
theorem prods_sq {x y : L} (hx : Sq x) (hy : Sq y) : Sq (prods x y):=fun t ht=>by
 obtain ⟨a,ha,b,hb,rfl⟩:=prods_mem ht
 exact sqf_pair (hx a ha) (hy b hb)
theorem cl_pair (s t : Nat × Rat) (h : 0 < s.1) : rat (pairT s t).2 * sr (pairT s t).1 = (rat s.2 * sr s.1) * (rat t.2 * sr t.1):=by
 have e:=sr_pair s.1 t.1 h
 unfold pairT
 simp only
 rw [← rat_mul,← rat_mul]
 have : rat s.2 * sr s.1 * (rat t.2 * sr t.1) = rat s.2 * rat t.2 * (sr s.1 * sr t.1):=by grind
 rw [this,e]
 grind
theorem cl_app (x y : L) : cl (x ++ y) = cl x + cl y:=rfl
theorem cl_row (s : Nat × Rat) (h : 0 < s.1) : ∀ y : L,cl (y.map (pairT s)) = (rat s.2 * sr s.1) * cl y
 | []=>by rw [List.map_nil,cl_nil];grind
 | t :: y=>by
  have e1 : cl (t :: y) = rat t.2 * sr t.1 + cl y:=cl_cons t.1 t.2 y
  have e2 : cl (pairT s t :: y.map (pairT s)) = rat (pairT s t).2 * sr (pairT s t).1 + cl (y.map (pairT s)):=cl_cons _ _ _
  rw [List.map_cons,e2,cl_row s h y,cl_pair s t h,e1]
  grind
theorem cl_prods {x : L} (hx : Sq x) (y : L) : cl (prods x y) = cl x * cl y:=by
 induction x with
 | nil=>rw [prods,cl_nil];grind
 | cons s x ih=>
  have e1 : cl (s :: x) = rat s.2 * sr s.1 + cl x:=cl_cons s.1 s.2 x
  rw [prods,cl_app,cl_row s (hx s List.mem_cons_self).1,ih fun t ht=>hx t (List.mem_cons_of_mem _ ht),e1]
  grind
theorem nrm_row (s : Nat × Rat) (h : 0 < s.1) : ∀ y : L,nrm (y.map (pairT s)) ≤ ab s.2 * (s.1 : Rat) * nrm y
 | []=>by simp only [List.map_nil,nrm];grind
 | t :: y=>by
  have ih:=nrm_row s h y
  have key : ab (pairT s t).2 * ((pairT s t).1 : Rat) ≤ ab s.2 * (s.1 : Rat) * (ab t.2 * (t.1 : Rat)):=by
   unfold pairT
   simp only
   have e1:=Nat.div_mul_cancel (Nat.gcd_dvd_left s.1 t.1)
   have e2:=Nat.div_mul_cancel (Nat.gcd_dvd_right s.1 t.1)
   have g0 : 0 < Nat.gcd s.1 t.1:=Nat.gcd_pos_of_pos_left _ h
   generalize Nat.gcd s.1 t.1 = g at *
   generalize s.1 / g = c at *
   generalize t.1 / g = d at *
   have gg : ab ((g : Nat) : Rat) = g:=by
    unfold ab;split
    · rename_i z;have:=cast_nn g;grind
    · rfl
   rw [ab_mul,ab_mul,gg,← e1,← e2]
   simp only [Rat.natCast_mul]
   have g1 : (1 : Rat) ≤ g:=by have:=cast_le g0;simpa using this
   have n1:=mulnn (ab_nn s.2) (ab_nn t.2)
   have n2:=mulnn (cast_nn c) (cast_nn d)
   have n3:=mulnn n1 (mulnn n2 (cast_nn g))
   have:=Rat.mul_le_mul_of_nonneg_left g1 n3
   grind
  simp only [List.map_cons,nrm]
  grind
theorem nrm_prods : ∀ {x : L},Sq x → ∀ y,nrm (prods x y) ≤ nrm x * nrm y
 | [],_,y=>by simp only [prods,nrm];grind
 | s :: x,h,y=>by
  have ih:=nrm_prods (x:=x) (fun t ht=>h t (List.mem_cons_of_mem _ ht)) y
  have:=nrm_row s (h s List.mem_cons_self).1 y
  rw [prods,nrm_app]
  simp only [nrm]
  grind
theorem Sz.prods {D E : Nat} {M N : Rat} {x y : L} (h : Sz D M x) (h' : Sz E N y) (hx : Sq x) : Sz (D * E) (M * N) (prods x y):=by
 refine ⟨fun t ht=>?_,?_⟩
 · obtain ⟨a,ha,b,hb,rfl⟩:=prods_mem ht
   have:=den_mul (den_mul (h.dn a ha) (h'.dn b hb)) (E:=1) (q:=((Nat.gcd a.1 b.1 : Nat) : Rat)) (by rw [den_nat];exact Nat.dvd_refl 1)
   rw [Nat.mul_one] at this
   exact this
 · have h1:=nrm_prods hx y
   have h2:=mulle h.up h'.up (nrm_nn x) (by have:=h'.up;have:=nrm_nn y;grind)
   grind
section
variable {D E : Nat} {M N : Rat} {u v : R}
theorem rep_sq (u : R) : Sq (rep u):=(rep_cn u).sq
theorem rep_add (u v : R) : gath (rep u ++ rep v) = rep (u + v):=by
 rw [rep_gath fun t ht=>by
  rcases List.mem_append.mp ht with h | h
  · exact rep_sq u t h
  · exact rep_sq v t h]
 rw [cl_app,rep_cl,rep_cl]
theorem rep_mul (u v : R) : gath (prods (rep u) (rep v)) = rep (u * v):=by
 rw [rep_gath (prods_sq (rep_sq u) (rep_sq v)),cl_prods (rep_sq u),rep_cl,rep_cl]
def scl (x : L) (q : Rat) : L:=x.map fun t=>(t.1,t.2 * q)
theorem cl_scl (q : Rat) : ∀ x : L,cl (scl x q) = cl x * rat q
 | []=>by rw [scl,List.map_nil,cl_nil];grind
 | t :: x=>by
  have e1 : cl (t :: x) = rat t.2 * sr t.1 + cl x:=cl_cons t.1 t.2 x
  have e2 : cl (scl (t :: x) q) = rat (t.2 * q) * sr t.1 + cl (scl x q):=cl_cons _ _ _
  rw [e2,cl_scl q x,e1,← rat_mul]
  grind
theorem scl_sq {x : L} (h : Sq x) (q : Rat) : Sq (scl x q):=fun t ht=>by
 obtain ⟨s,hs,rfl⟩:=List.mem_map.mp ht
 exact h s hs
theorem rep_scl (u : R) (q : Rat) : gath (scl (rep u) q) = rep (u * rat q):=by
 rw [rep_gath (scl_sq (rep_sq u) q),cl_scl,rep_cl]
theorem nrm_scl (q : Rat) : ∀ x : L,nrm (scl x q) = nrm x * ab q
 | []=>by simp only [scl,List.map_nil,nrm];grind
 | (a,p) :: x=>by
  have ih:=nrm_scl q x
  have e : nrm (scl ((a,p) :: x) q) = ab (p * q) * (a : Rat) + nrm (scl x q):=rfl
  rw [e,ih,ab_mul]
  simp only [nrm]
  grind
theorem Sz.scl {x : L} (h : Sz D M x) {q : Rat} (hq : q.den ∣ E) : Sz (D * E) (M * ab q) (scl x q):=by
 refine ⟨fun t ht=>?_,?_⟩
 · obtain ⟨s,hs,rfl⟩:=List.mem_map.mp ht
   exact den_mul (h.dn s hs) hq
 · rw [nrm_scl]
   exact Rat.mul_le_mul_of_nonneg_right h.up (ab_nn q)
theorem SzR.add (h : SzR D M u) (h' : SzR E N v) : SzR (D * E) (M + N) (u + v):=by
 unfold SzR
 rw [← rep_add]
 exact (h.app h').gath
theorem Sz.app' {x y : L} (h : Sz D M x) (h' : Sz D N y) : Sz D (M + N) (x ++ y):=by
 refine ⟨fun t ht=>?_,?_⟩
 · rcases List.mem_append.mp ht with ht | ht
   · exact h.dn t ht
   · exact h'.dn t ht
 · rw [nrm_app]
   have:=h.up
   have:=h'.up
   grind
theorem SzR.add' (h : SzR D M u) (h' : SzR D N v) : SzR D (M + N) (u + v):=by
 unfold SzR
 rw [← rep_add]
 exact (h.app' h').gath
theorem SzR.mul (h : SzR D M u) (h' : SzR E N v) : SzR (D * E) (M * N) (u * v):=by
 unfold SzR
 rw [← rep_mul]
 exact (h.prods h' (rep_sq u)).gath
theorem SzR.scl (h : SzR D M u) {q : Rat} (hq : q.den ∣ E) : SzR (D * E) (M * ab q) (u * rat q):=by
 unfold SzR
 rw [← rep_scl]
 exact (Sz.scl h hq).gath
theorem SzR.le (h : SzR D M u) (h1 : D ∣ E) (h2 : M ≤ N) : SzR E N u:=Sz.le h h1 h2
theorem SzR.nn (h : SzR D M u) : 0 ≤ M:=by have:=h.up;have:=nrm_nn (rep u);grind
theorem rep_rat {q : Rat} (h : q ≠ 0) : rep (rat q) = [(1,q)]:=rep_of (cn_one sqf_one h)
theorem rep_sr {a : Nat} (h : sqf a) : rep (sr a) = [(a,1)]:=rep_of (cn_one h (by decide))
theorem SzR.rat (q : Rat) : SzR q.den (ab q) (Su.rat q):=by
 unfold SzR
 by_cases h : q = 0
 · subst h
   have : Su.rat 0 = 0:=rfl
   rw [this,rep_zero]
   exact ⟨(fun _ z=>by cases z),by simp only [nrm];exact ab_nn 0⟩
 · rw [rep_rat h]
   refine ⟨fun t ht=>by rw [List.mem_singleton.mp ht];exact Nat.dvd_refl _,?_⟩
   simp only [nrm]
   simp;grind
theorem SzR.sr {a : Nat} (h : sqf a) : SzR 1 (a : Rat) (Su.sr a):=by
 unfold SzR
 rw [rep_sr h]
 refine ⟨fun t ht=>by rw [List.mem_singleton.mp ht];exact Nat.dvd_refl 1,?_⟩
 simp only [nrm]
 have : ab 1 = 1:=by unfold ab;split <;> grind
 rw [this];grind
end
structure Part (u : R) (p : Nat) (a b : R) : Prop where
 pr : pr p
 eq : u = a + b * sr p
 na : ∀ t ∈ rep a,¬ p ∣ t.1
 nb : ∀ t ∈ rep b,¬ p ∣ t.1
 has : ∃ t ∈ rep u,p ∣ t.1
 sa : ∀ t ∈ rep a,t ∈ rep u
 sb : ∀ t ∈ rep b,(p * t.1,t.2) ∈ rep u
def bareL (p : Nat) (x : L) : L:=x.filter fun t=>decide (¬ p ∣ t.1)
def othersL (p : Nat) (x : L) : L:=(x.filter fun t=>decide (p ∣ t.1)).map fun t=>(t.1 / p,t.2)
theorem bare_cn {p : Nat} {x : L} (h : Cn x) : Cn (bareL p x):=⟨h.up.filter _,fun t ht=>h.nz t (List.mem_filter.mp ht).1,fun t ht=>h.sq t (List.mem_filter.mp ht).1⟩
theorem others_cn {p : Nat} (hp : 0 < p) {x : L} (h : Cn x) : Cn (othersL p x):=by
 refine ⟨?_,fun t ht=>?_,fun t ht=>?_⟩
 · unfold othersL
   rw [List.pairwise_map]
   refine List.Pairwise.imp_of_mem (fun {a b} ha hb hab=>?_) (h.up.filter _)
   have d1 : p ∣ a.1:=by simpa using (List.mem_filter.mp ha).2
   have d2 : p ∣ b.1:=by simpa using (List.mem_filter.mp hb).2
   have e1:=Nat.div_mul_cancel d1
   have e2:=Nat.div_mul_cancel d2
   refine Nat.lt_of_mul_lt_mul_right (a:=p) ?_
   simp only
   omega
 · obtain ⟨s,hs,rfl⟩:=List.mem_map.mp ht
   exact h.nz s (List.mem_filter.mp hs).1
 · obtain ⟨s,hs,rfl⟩:=List.mem_map.mp ht
   have d1 : p ∣ s.1:=by simpa using (List.mem_filter.mp hs).2
   exact sqf_dvd (h.sq s (List.mem_filter.mp hs).1) (Nat.div_dvd_of_dvd d1)
theorem part_cl (p : Nat) : ∀ x : L,cl x = cl (bareL p x) + cl (othersL p x) * sr p
 | []=>by
  have : cl (othersL p []) = 0:=cl_nil
  have e2 : cl (bareL p []) = 0:=cl_nil
  rw [this,e2,cl_nil];grind
 | (a,q) :: x=>by
  have ih:=part_cl p x
  by_cases h : p ∣ a
  · have e1 : bareL p ((a,q) :: x) = bareL p x:=by unfold bareL;rw [List.filter_cons,if_neg (by simp [h])]
    have e2 : othersL p ((a,q) :: x) = (a / p,q) :: othersL p x:=by unfold othersL;rw [List.filter_cons,if_pos (by simp [h]),List.map_cons]
    have e3 : sr a = sr (a / p) * sr p:=by rw [sr_mul,Nat.div_mul_cancel h]
    rw [e1,e2,cl_cons,cl_cons,ih,e3]
    grind
  · have e1 : bareL p ((a,q) :: x) = (a,q) :: bareL p x:=by unfold bareL;rw [List.filter_cons,if_pos (by simp [h])]
    have e2 : othersL p ((a,q) :: x) = othersL p x:=by unfold othersL;rw [List.filter_cons,if_neg (by simp [h])]
    rw [e1,e2,cl_cons,cl_cons,ih]
    grind
theorem part_of {u : R} {p : Nat} (hp : pr p) (h : ∃ t ∈ rep u,p ∣ t.1) : Part u p (cl (bareL p (rep u))) (cl (othersL p (rep u))):=by
 have p2:=hp.1
 have c1:=rep_of (bare_cn (p:=p) (rep_cn u))
 have c2:=rep_of (others_cn (p:=p) (by omega) (rep_cn u))
 refine ⟨hp,?_,fun t ht=>?_,fun t ht=>?_,h,fun t ht=>?_,fun t ht=>?_⟩
 · conv=>lhs;rw [← rep_cl u,part_cl p]
 · rw [c1] at ht
   simpa using (List.mem_filter.mp ht).2
 · rw [c2] at ht
   obtain ⟨s,hs,rfl⟩:=List.mem_map.mp ht
   have d1 : p ∣ s.1:=by simpa using (List.mem_filter.mp hs).2
   intro d
   obtain ⟨c,hc⟩:=d
   have e1:=Nat.div_mul_cancel d1
   have : p * p ∣ s.1:=⟨c,by rw [← e1];simp only at hc;rw [hc];grind⟩
   have:=((rep_cn u).sq s (List.mem_filter.mp hs).1).2 p this
   omega
 · rw [c1] at ht
   exact (List.mem_filter.mp ht).1
 · rw [c2] at ht
   obtain ⟨s,hs,rfl⟩:=List.mem_map.mp ht
   have d1 : p ∣ s.1:=by simpa using (List.mem_filter.mp hs).2
   simp only
   rw [Nat.mul_comm,Nat.div_mul_cancel d1]
   exact (List.mem_filter.mp hs).1
theorem nrm_others {p : Nat} (hp : 0 < p) : ∀ x : L,nrm (bareL p x) + (p : Rat) * nrm (othersL p x) = nrm x
 | []=>by simp only [bareL,othersL,List.filter_nil,List.map_nil,nrm];grind
 | (a,q) :: x=>by
  have ih:=nrm_others hp x
  by_cases h : p ∣ a
  · have e1 : bareL p ((a,q) :: x) = bareL p x:=by unfold bareL;rw [List.filter_cons,if_neg (by simp [h])]
    have e2 : othersL p ((a,q) :: x) = (a / p,q) :: othersL p x:=by unfold othersL;rw [List.filter_cons,if_pos (by simp [h]),List.map_cons]
    have e3 : (a : Rat) = ((a / p : Nat) : Rat) * (p : Rat):=by
     conv=>lhs;rw [← Nat.div_mul_cancel h]
     simp [Rat.natCast_mul]
    rw [e1,e2]
    simp only [nrm]
    rw [e3]
    grind
  · have e1 : bareL p ((a,q) :: x) = (a,q) :: bareL p x:=by unfold bareL;rw [List.filter_cons,if_pos (by simp [h])]
    have e2 : othersL p ((a,q) :: x) = othersL p x:=by unfold othersL;rw [List.filter_cons,if_neg (by simp [h])]
    rw [e1,e2]
    simp only [nrm]
    grind
theorem part_sz {D : Nat} {M : Rat} {u : R} {p : Nat} (hp : pr p) (h : SzR D M u) : ∃ A B,0 ≤ A ∧ 0 ≤ B ∧ A + (p : Rat) * B ≤ M ∧ SzR D A (cl (bareL p (rep u))) ∧ SzR D B (cl (othersL p (rep u))):=by
 have p2:=hp.1
 have c1:=rep_of (bare_cn (p:=p) (rep_cn u))
 have c2:=rep_of (others_cn (p:=p) (by omega) (rep_cn u))
 refine ⟨nrm (bareL p (rep u)),nrm (othersL p (rep u)),nrm_nn _,nrm_nn _,?_,?_,?_⟩
 · rw [nrm_others (by omega)];exact h.up
 · unfold SzR
   rw [c1]
   exact ⟨fun t ht=>h.dn t (List.mem_filter.mp ht).1,by grind⟩
 · unfold SzR
   rw [c2]
   refine ⟨fun t ht=>?_,by grind⟩
   obtain ⟨s,hs,rfl⟩:=List.mem_map.mp ht
   exact h.dn s (List.mem_filter.mp hs).1
end Su
namespace Su
theorem pr_sqf {p : Nat} (h : pr p) : sqf p:=by
 refine ⟨by have:=h.1;omega,fun d hd=>?_⟩
 rcases h.2 d (Nat.dvd_trans (Nat.dvd_mul_left d d) hd) with e | e
 · exact e
 · subst e
   have h1:=Nat.le_of_dvd (by have:=h.1;omega) hd
   have h2:=h.1
   have : d * 2 ≤ d * d:=Nat.mul_le_mul_left d h2
   omega
theorem pr_mul {p a b : Nat} (h : pr p) (d : p ∣ a * b) : p ∣ a ∨ p ∣ b:=by
 by_cases q : p ∣ a
 · exact .inl q
 · exact .inr (Nat.Coprime.dvd_of_dvd_mul_left (pr_cop h q) d)
theorem pr_self {p q : Nat} (hp : pr p) (hq : pr q) (d : p ∣ q) : p = q:=by
 rcases hq.2 p d with e | e
 · have:=hp.1;omega
 · exact e
theorem part_indep {a b : R} {p : Nat} (hp : pr p) (na : ∀ t ∈ rep a,¬ p ∣ t.1) (nb : ∀ t ∈ rep b,¬ p ∣ t.1) (e : a + b * sr p = 0) : a = 0 ∧ b = 0:=by
 have hy : b * sr p = cl ((rep b).map fun t=>(p * t.1,t.2)):=by
  conv=>lhs;rw [← rep_cl b]
  generalize rep b = y
  induction y with
  | nil=>rw [List.map_nil,cl_nil];grind
  | cons t y ih=>
   have e1 : cl (t :: y) = rat t.2 * sr t.1 + cl y:=cl_cons t.1 t.2 y
   rw [List.map_cons,e1,cl_cons (p * t.1) t.2,← ih,← sr_mul]
   grind
 have hz : cl (rep a ++ (rep b).map fun t=>(p * t.1,t.2)) = cl []:=by
  rw [cl_app,rep_cl,← hy,e,cl_nil]
 have ha : rep a = []:=by
  cases h : rep a with
  | nil=>rfl
  | cons t x=>
   have mem : t ∈ rep a:=by rw [h];exact List.mem_cons_self
   have nz:=(rep_cn a).nz t mem
   have c1 : co (rep a) t.1 = t.2:=(co_mem (rep_cn a) nz).mp mem
   have c2 : co ((rep b).map fun t=>(p * t.1,t.2)) t.1 = 0:=co_none fun s hs=>by
    obtain ⟨r,hr,rfl⟩:=List.mem_map.mp hs
    have sq : sqf (p * r.1):=sqf_mul (pr_sqf hp) (rep_sq b r hr) (pr_cop hp (nb r hr))
    rw [(rl_sqf sq).2]
    intro z
    exact na t mem (z ▸ Nat.dvd_mul_right p r.1)
   have c3:=cl_eq.mp hz t.1
   have c4 : co (rep a ++ (rep b).map fun t=>(p * t.1,t.2)) t.1 = co (rep a) t.1 + co ((rep b).map fun t=>(p * t.1,t.2)) t.1:=lin_app _ _ _
   have c5 : co [] t.1 = 0:=rfl
   rw [c4,c1,c2,c5] at c3
   exact absurd (by grind) nz
 have a0:=rep_nil.mp ha
 refine ⟨a0,?_⟩
 rw [a0] at e
 have e2 : b * sr p = 0:=by grind
 rcases dom e2 with z | z
 · exact z
 · exfalso
   have h1:=pos_sr (a:=p) (by have:=hp.1;omega)
   rw [z] at h1
   exact not_pos_zero h1
def normR (p : Nat) (a b : R) : R:=a * a - (p : Nat) * (b * b)
theorem Part.norm_ne {u : R} {p : Nat} {a b : R} (P : Part u p a b) (h : u ≠ 0) : normR p a b ≠ 0:=by
 intro e
 have s2:=sr_self p
 have e2 : (a + b * sr p) * (a + -b * sr p) = 0:=by
  have : (a + b * sr p) * (a + -b * sr p) = a * a - (sr p * sr p) * (b * b):=by grind
  rw [this,s2]
  exact e
 rcases dom e2 with z | z
 · exact h (P.eq.trans z)
 · have nb : ∀ t ∈ rep (-b),¬ p ∣ t.1:=fun t ht=>by
    have hq : rep (-b) = gath (scl (rep b) (-1)):=by
     rw [rep_scl]
     congr 1
     rw [← rat_neg]
     show -b = b * -(1 : R)
     grind
    rw [hq] at ht
    obtain ⟨s,hs,e⟩:=List.mem_map.mp (gath_sub ht)
    obtain ⟨r,hr,rfl⟩:=List.mem_map.mp hs
    rw [← e]
    exact P.nb r hr
   obtain ⟨h1,h2⟩:=part_indep P.pr P.na nb z
   refine h (P.eq.trans ?_)
   have : b = 0:=by
    have : b = - -b:=by grind
    rw [this,h2];grind
   rw [h1,this];grind
theorem Part.inv {u : R} {p : Nat} {a b : R} (P : Part u p a b) (h : u ≠ 0) : u⁻¹ = (a - b * sr p) * (normR p a b)⁻¹:=by
 have n:=P.norm_ne h
 have h1:=mul_inv' h
 have h2:=mul_inv' n
 have s2:=sr_self p
 have e : u * (a - b * sr p) = normR p a b:=by
  rw [P.eq]
  unfold normR
  have : (a + b * sr p) * (a - b * sr p) = a * a - (sr p * sr p) * (b * b):=by grind
  rw [this,s2]
 have : u * ((a - b * sr p) * (normR p a b)⁻¹) = 1:=by
  have : u * ((a - b * sr p) * (normR p a b)⁻¹) = (u * (a - b * sr p)) * (normR p a b)⁻¹:=by grind
  rw [this,e,h2]
 grind
def Np : Nat → Nat → Prop
 | 0,m=>m = 1
 | k + 1,m=>m = 1 ∨ ∀ p,pr p → p ∣ m → Np k (m / p)
theorem Np.succ : ∀ {k m : Nat},Np k m → Np (k + 1) m
 | 0,_,h=>.inl h
 | k + 1,m,h=>by
  rcases h with h | h
  · exact .inl h
  · exact .inr fun p hp hd=>(h p hp hd).succ
theorem Np.le {k l m : Nat} (h : Np k m) (q : k ≤ l) : Np l m:=by
 induction q with
 | refl=>exact h
 | step _ ih=>exact ih.succ
def prodL : List Nat → Nat
 | []=>1
 | p :: r=>p * prodL r
theorem prod_dvd {p : Nat} (hp : pr p) : ∀ {qs : List Nat},(∀ q ∈ qs,pr q) → p ∣ prodL qs → ∃ rs,rs.length + 1 = qs.length ∧ (∀ q ∈ rs,pr q) ∧ prodL qs = p * prodL rs
 | [],_,h=>by
  have:=Nat.le_of_dvd (by decide) h
  have:=hp.1
  simp [prodL] at *
  omega
 | q :: qs,hq,h=>by
  rcases pr_mul hp h with h | h
  · have e:=pr_self hp (hq q List.mem_cons_self) h
    subst e
    exact ⟨qs,rfl,fun r hr=>hq r (List.mem_cons_of_mem _ hr),rfl⟩
  · obtain ⟨rs,h1,h2,h3⟩:=prod_dvd hp (fun r hr=>hq r (List.mem_cons_of_mem _ hr)) h
    refine ⟨q :: rs,by simp [← h1],fun r hr=>?_,?_⟩
    · rcases List.mem_cons.mp hr with rfl | hr
      · exact hq r List.mem_cons_self
      · exact h2 r hr
    · simp only [prodL,h3];grind
theorem np_prod : ∀ {k : Nat} {qs : List Nat},(∀ q ∈ qs,pr q) → qs.length ≤ k → Np k (prodL qs)
 | 0,qs,_,h=>by
  have : qs = []:=List.length_eq_zero_iff.mp (by omega)
  subst this
  rfl
 | k + 1,qs,hq,h=>by
  refine .inr fun p hp hd=>?_
  obtain ⟨rs,h1,h2,h3⟩:=prod_dvd hp hq hd
  rw [h3,Nat.mul_div_cancel_left _ (by have:=hp.1;omega)]
  exact np_prod h2 (by omega)
def InR (m : Nat) (u : R) : Prop:=∀ t ∈ rep u,t.1 ∣ m
theorem In.rep {m : Nat} {u : R} (hm : sqf m) (h : In m u) : InR m u:=by
 obtain ⟨x,rfl,hx⟩:=h
 intro t ht
 rw [← rep_gath fun s hs=>sqf_dvd hm (hx s hs)] at ht
 obtain ⟨s,hs,e⟩:=List.mem_map.mp (gath_sub ht)
 rw [← e]
 exact hx s hs
theorem InR.in_ {m : Nat} {u : R} (h : InR m u) : In m u:=⟨Su.rep u,(rep_cl u).symm,h⟩
section
variable {m : Nat} {u v : R}
theorem InR.add (hm : sqf m) (h1 : InR m u) (h2 : InR m v) : InR m (u + v):=(h1.in_.add h2.in_).rep hm
theorem InR.neg (hm : sqf m) (h1 : InR m u) : InR m (-u):=h1.in_.neg.rep hm
theorem InR.mul (hm : sqf m) (h1 : InR m u) (h2 : InR m v) : InR m (u * v):=(h1.in_.mul hm.1 h2.in_).rep hm
theorem InR.rat (hm : sqf m) (q : Rat) : InR m (Su.rat q):=(In.rat q).rep hm
theorem InR.sr (hm : sqf m) {a : Nat} (h : a ∣ m) : InR m (Su.sr a):=(In.sr h).rep hm
theorem InR.le {m' : Nat} (h : InR m u) (d : m ∣ m') : InR m' u:=fun t ht=>Nat.dvd_trans (h t ht) d
theorem InR.one (h : InR 1 u) : ∃ q,u = Su.rat q:=h.in_.base
end
theorem Part.inn {m : Nat} {u : R} {p : Nat} {a b : R} (P : Part u p a b) (hm : sqf m) (h : InR m u) : p ∣ m ∧ sqf (m / p) ∧ InR (m / p) a ∧ InR (m / p) b ∧ InR (m / p) (normR p a b):=by
 obtain ⟨t,ht,hd⟩:=P.has
 have pm : p ∣ m:=Nat.dvd_trans hd (h t ht)
 have p2:=P.pr.1
 have hm' : sqf (m / p):=sqf_dvd hm (Nat.div_dvd_of_dvd pm)
 have em : m = p * (m / p):=(Nat.mul_div_cancel' pm).symm
 have ha : InR (m / p) a:=fun t ht=>by
  have d:=h t (P.sa t ht)
  rw [em] at d
  exact Nat.Coprime.dvd_of_dvd_mul_left (pr_cop P.pr (P.na t ht)).symm d
 have hb : InR (m / p) b:=fun t ht=>by
  have d : p * t.1 ∣ m:=h _ (P.sb t ht)
  rw [em] at d
  exact Nat.dvd_of_mul_dvd_mul_left (by omega) d
 refine ⟨pm,hm',ha,hb,?_⟩
 have e : normR p a b = a * a + -(Su.rat (p : Nat) * (b * b)):=by
  unfold normR
  rw [rat_nat];grind
 rw [e]
 exact (ha.mul hm' ha).add hm' ((InR.rat hm' _).mul hm' (hb.mul hm' hb) |>.neg hm')
def Bt (n : Nat) (u : R) : Prop:=∃ D : Nat,0 < D ∧ D ≤ 2 ^ n ∧ SzR D ((2 ^ n : Nat) : Rat) u
theorem pow_up {n m : Nat} (h : n ≤ m) : ((2 ^ n : Nat) : Rat) ≤ ((2 ^ m : Nat) : Rat):=cast_le (Nat.pow_le_pow_right (by omega) h)
section
variable {n m : Nat} {u v : R}
theorem Bt.le (h : Bt n u) (l : n ≤ m) : Bt m u:=by
 obtain ⟨D,h1,h2,h3⟩:=h
 exact ⟨D,h1,Nat.le_trans h2 (Nat.pow_le_pow_right (by omega) l),h3.le (Nat.dvd_refl D) (pow_up l)⟩
theorem Bt.add (h : Bt n u) (h' : Bt m v) : Bt (n + m + 1) (u + v):=by
 obtain ⟨D,h1,h2,h3⟩:=h
 obtain ⟨E,g1,g2,g3⟩:=h'
 refine ⟨D * E,Nat.mul_pos h1 g1,?_,(h3.add g3).le (Nat.dvd_refl _) ?_⟩
 · have:=Nat.mul_le_mul h2 g2
   rw [← Nat.pow_add] at this
   exact Nat.le_trans this (Nat.pow_le_pow_right (by omega) (by omega))
 · have a1:=pow_up (show n ≤ n + m by omega)
   have a2:=pow_up (show m ≤ n + m by omega)
   have : ((2 ^ (n + m + 1) : Nat) : Rat) = 2 * ((2 ^ (n + m) : Nat) : Rat):=by
    rw [Nat.pow_succ,Nat.mul_comm,Rat.natCast_mul];rfl
   grind
theorem Bt.mul (h : Bt n u) (h' : Bt m v) : Bt (n + m) (u * v):=by
 obtain ⟨D,h1,h2,h3⟩:=h
 obtain ⟨E,g1,g2,g3⟩:=h'
 refine ⟨D * E,Nat.mul_pos h1 g1,?_,(h3.mul g3).le (Nat.dvd_refl _) ?_⟩
 · have:=Nat.mul_le_mul h2 g2
   rwa [← Nat.pow_add] at this
 · rw [Nat.pow_add,Rat.natCast_mul];grind
theorem neg_eq (u : R) : -u = u * rat (-1):=by
 rw [← rat_neg]
 show -u = u * -(1 : R)
 grind
theorem ab_one : ab (-1) = 1:=by unfold ab;split <;> grind
theorem SzR.neg {D : Nat} {M : Rat} (h : SzR D M u) : SzR D M (-u):=by
 rw [neg_eq]
 have:=h.scl (E:=1) (q:=-1) (by decide)
 rw [ab_one] at this
 exact this.le (by rw [Nat.mul_one];exact Nat.dvd_refl _) (by grind)
theorem Bt.neg (h : Bt n u) : Bt n (-u):=by
 obtain ⟨D,h1,h2,h3⟩:=h
 exact ⟨D,h1,h2,h3.neg⟩
theorem ab_rat_num (q : Rat) : ab q * (q.den : Rat) = ((q.num.natAbs : Nat) : Rat):=by
 have h:=rat_den q
 have d0:=cast_nn q.den
 have d1 : (0 : Rat) < q.den:=by have:=cast_lt q.den_pos;simpa using this
 unfold ab
 by_cases s : q < 0
 · rw [if_pos s]
   have e : q.num < 0:=by
    refine Classical.byContradiction fun z=>?_
    have : ((0 : Int) : Rat) ≤ (q.num : Rat):=Rat.intCast_le_intCast.mpr (by omega)
    have:=Rat.mul_lt_mul_of_pos_right s d1
    simp at *
    grind
   have e2 : ((q.num.natAbs : Nat) : Rat) = ((-q.num : Int) : Rat):=by
    rw [← Rat.intCast_natCast]
    congr 1;omega
   rw [e2]
   simp only [Rat.intCast_neg]
   grind
 · rw [if_neg s]
   have e : 0 ≤ q.num:=by
    refine Classical.byContradiction fun z=>?_
    have : (q.num : Rat) < ((0 : Int) : Rat):=Rat.intCast_lt_intCast.mpr (by omega)
    have:=mulnn (show 0 ≤ q by grind) d0
    simp at *
    grind
   have e2 : ((q.num.natAbs : Nat) : Rat) = ((q.num : Int) : Rat):=by
    rw [← Rat.intCast_natCast]
    congr 1;omega
   rw [e2]
   exact h
theorem Sz.num {D : Nat} {M : Nat} {x : L} (h : Sz D (M : Rat) x) (hD : 0 < D) {t : Nat × Rat} (ht : t ∈ x) (h0 : 0 < t.1) : t.2.den ≤ D ∧ t.2.num.natAbs ≤ M * D:=by
 have h1:=Nat.le_of_dvd hD (h.dn t ht)
 refine ⟨h1,?_⟩
 have h2:=nrm_mem ht
 have h3:=h.up
 have h4:=ab_rat_num t.2
 have g1 : (1 : Rat) ≤ (t.1 : Rat):=by have:=cast_le h0;simpa using this
 have h5:=Rat.mul_le_mul_of_nonneg_left g1 (ab_nn t.2)
 have h6 : ab t.2 ≤ M:=by grind
 have h7:=mulle h6 (cast_le h1) (ab_nn t.2) (cast_nn D)
 have h8 : ((t.2.num.natAbs : Nat) : Rat) ≤ ((M * D : Nat) : Rat):=by
  rw [← h4,Rat.natCast_mul]
  exact h7
 have h9 : ((t.2.num.natAbs : Int) : Rat) ≤ ((M * D : Nat) : Int):=by
  rw [Rat.intCast_natCast,Rat.intCast_natCast]
  exact h8
 have:=Rat.intCast_le_intCast.mp h9
 omega
theorem Bt.rat {q : Rat} (h1 : q.den ≤ 2 ^ n) (h2 : q.num.natAbs ≤ 2 ^ n) : Bt n (Su.rat q):=by
 refine ⟨q.den,q.den_pos,h1,(SzR.rat q).le (Nat.dvd_refl _) ?_⟩
 have h3:=ab_rat_num q
 have d1 : (1 : Rat) ≤ q.den:=by have:=cast_le q.den_pos;simpa using this
 have:=Rat.mul_le_mul_of_nonneg_left d1 (ab_nn q)
 have:=cast_le h2
 grind
theorem Bt.part {p : Nat} (hp : pr p) (h : Bt n u) : Bt n (cl (bareL p (rep u))) ∧ Bt n (cl (othersL p (rep u))) ∧ Bt (2 * n) (normR p (cl (bareL p (rep u))) (cl (othersL p (rep u)))) ∧ Bt n (cl (bareL p (rep u)) - cl (othersL p (rep u)) * sr p):=by
 obtain ⟨D,h1,h2,h3⟩:=h
 obtain ⟨A,B,a0,b0,le,sa,sb⟩:=part_sz hp h3
 have p2:=cast_le hp.1
 simp at p2
 have pB:=mulnn (show (0 : Rat) ≤ (p : Rat) by grind) b0
 have bB : B ≤ (p : Rat) * B:=by
  have:=Rat.mul_le_mul_of_nonneg_right (show (1 : Rat) ≤ (p : Rat) by grind) b0
  grind
 refine ⟨⟨D,h1,h2,sa.le (Nat.dvd_refl _) (by grind)⟩,⟨D,h1,h2,sb.le (Nat.dvd_refl _) (by grind)⟩,⟨D * D,Nat.mul_pos h1 h1,?_,?_⟩,⟨D,h1,h2,?_⟩⟩
 · have:=Nat.mul_le_mul h2 h2
   rwa [← Nat.pow_add,← Nat.two_mul] at this
 · have s1:=sa.mul sa
   have s2:=(sb.mul sb).scl (E:=1) (q:=-(p : Nat)) (by rw [Rat.neg_den,den_nat];exact Nat.dvd_refl 1)
   rw [Nat.mul_one] at s2
   have e : normR p (cl (bareL p (rep u))) (cl (othersL p (rep u))) = cl (bareL p (rep u)) * cl (bareL p (rep u)) + cl (othersL p (rep u)) * cl (othersL p (rep u)) * Su.rat (-(p : Nat)):=by
    unfold normR
    rw [← rat_neg,rat_nat];grind
   rw [e]
   refine (s1.add' s2).le (Nat.dvd_refl _) ?_
   have ap : ab (-((p : Nat) : Rat)) = p:=by
    unfold ab;split <;> grind
   rw [ap]
   have e2 : ((2 ^ (2 * n) : Nat) : Rat) = ((2 ^ n : Nat) : Rat) * ((2 ^ n : Nat) : Rat):=by
    rw [Nat.two_mul,Nat.pow_add,Rat.natCast_mul]
   rw [e2]
   have q1 : A * A + (p : Rat) * B * ((p : Rat) * B) ≤ (A + p * B) * (A + p * B):=by
    have:=mulnn a0 pB
    grind
   have q2 : B * B * p ≤ (p : Rat) * B * ((p : Rat) * B):=by
    have:=Rat.mul_le_mul_of_nonneg_right bB pB
    grind
   have q3:=mulle le le (by grind) (by have:=cast_nn (2 ^ n);grind)
   grind
 · have s2:=(sb.mul (SzR.sr (pr_sqf hp))).neg
   rw [Nat.mul_one] at s2
   have e : cl (bareL p (rep u)) - cl (othersL p (rep u)) * sr p = cl (bareL p (rep u)) + -(cl (othersL p (rep u)) * sr p):=by grind
   rw [e]
   exact (sa.add' s2).le (Nat.dvd_refl _) (by grind)
end
end Su
namespace Su
open Classical in
noncomputable def sgn (u : R) : Int:=if 0 < u then 1 else if u < 0 then -1 else 0
theorem sgn_pos {u : R} (h : 0 < u) : sgn u = 1:=by unfold sgn;rw [if_pos h]
theorem sgn_neg {u : R} (h : u < 0) : sgn u = -1:=by unfold sgn;rw [if_neg (by grind),if_pos h]
theorem sgn_zero : sgn 0 = 0:=by unfold sgn;rw [if_neg (lt_irr 0),if_neg (lt_irr 0)]
theorem sgn_cases (u : R) : (0 < u ∧ sgn u = 1) ∨ (u = 0 ∧ sgn u = 0) ∨ (u < 0 ∧ sgn u = -1):=by
 rcases lt_tri 0 u with h | h | h
 · exact .inl ⟨h,sgn_pos h⟩
 · exact .inr (.inl ⟨h.symm,by rw [← h];exact sgn_zero⟩)
 · exact .inr (.inr ⟨h,sgn_neg h⟩)
theorem sgn_lt {u : R} : sgn u < 0 ↔ u < 0:=by
 rcases sgn_cases u with ⟨h,e⟩ | ⟨h,e⟩ | ⟨h,e⟩ <;> rw [e]
 · constructor
   · intro z;omega
   · intro z;exact (lt_irr _ (lt_tr h z)).elim
 · subst h
   constructor
   · intro z;omega
   · intro z;exact (lt_irr _ z).elim
 · exact ⟨fun _=>h,fun _=>by decide⟩
theorem mneg {u v : R} (h1 : 0 < u) (h2 : v < 0) : u * v < 0:=by
 have:=mpos h1 (show 0 < -v by grind)
 grind
theorem mnn {u v : R} (h1 : u < 0) (h2 : v < 0) : 0 < u * v:=by
 have:=mpos (show 0 < -u by grind) (show 0 < -v by grind)
 grind
theorem sgn_mul (u v : R) : sgn (u * v) = sgn u * sgn v:=by
 rcases sgn_cases u with ⟨h,e⟩ | ⟨h,e⟩ | ⟨h,e⟩ <;> rcases sgn_cases v with ⟨h',e'⟩ | ⟨h',e'⟩ | ⟨h',e'⟩ <;> rw [e,e']
 · rw [sgn_pos (mpos h h')];rfl
 · rw [h',show u * 0 = 0 by grind,sgn_zero];rfl
 · rw [sgn_neg (mneg h h')];rfl
 · rw [h,show 0 * v = 0 by grind,sgn_zero];rfl
 · rw [h,show 0 * v = 0 by grind,sgn_zero];rfl
 · rw [h,show 0 * v = 0 by grind,sgn_zero];rfl
 · rw [sgn_neg (by have:=mneg h' h;grind)];rfl
 · rw [h',show u * 0 = 0 by grind,sgn_zero];rfl
 · rw [sgn_pos (mnn h h')];rfl
theorem sgn_rat {q : Rat} : sgn (rat q) = if 0 < q then 1 else if q < 0 then -1 else 0:=by
 by_cases h : 0 < q
 · rw [if_pos h,sgn_pos (lt_zero.mpr (pos_rat h))]
 · rw [if_neg h]
   by_cases h2 : q < 0
   · rw [if_pos h2]
     have:=lt_zero.mpr (pos_rat (show 0 < -q by grind))
     rw [← rat_neg] at this
     exact sgn_neg (by grind)
   · rw [if_neg h2]
     have : q = 0:=by grind
     subst this
     exact sgn_zero
def signF (x y z : Int) : Int:=if y = 0 ∨ y = x then x else if x = 0 then y else x * z
theorem Part.sgn {u : R} {p : Nat} {a b : R} (P : Part u p a b) : Su.sgn u = signF (Su.sgn a) (Su.sgn b) (Su.sgn (normR p a b)):=by
 have s0 : 0 < sr p:=lt_zero.mpr (pos_sr (by have:=P.pr.1;omega))
 have s2:=sr_self p
 have e : u * (a - b * sr p) = normR p a b:=by
  rw [P.eq]
  unfold normR
  have : (a + b * sr p) * (a - b * sr p) = a * a - (sr p * sr p) * (b * b):=by grind
  rw [this,s2]
 have em : Su.sgn (normR p a b) = Su.sgn u * Su.sgn (a - b * sr p):=by rw [← e,sgn_mul]
 rw [em]
 have eu:=P.eq
 rcases sgn_cases a with ⟨ha,ea⟩ | ⟨ha,ea⟩ | ⟨ha,ea⟩ <;> rcases sgn_cases b with ⟨hb,eb⟩ | ⟨hb,eb⟩ | ⟨hb,eb⟩ <;> rw [ea,eb]
 · have:=mpos hb s0
   rw [sgn_pos (u:=u) (by grind)];rfl
 · subst hb
   rw [sgn_pos (u:=u) (by grind)];rfl
 · have:=mneg s0 hb
   rw [sgn_pos (u:=a - b * sr p) (by grind)]
   simp [signF]
 · have:=mpos hb s0
   subst ha
   rw [sgn_pos (u:=u) (by grind)];rfl
 · have : u = 0:=by rw [eu,ha,hb];grind
   rw [this,sgn_zero];rfl
 · have:=mneg s0 hb
   subst ha
   rw [sgn_neg (u:=u) (by grind)];rfl
 · have:=mpos hb s0
   rw [sgn_neg (u:=a - b * sr p) (by grind)]
   simp [signF]
 · subst hb
   rw [sgn_neg (u:=u) (by grind)];rfl
 · have:=mneg s0 hb
   rw [sgn_neg (u:=u) (by grind)];rfl
theorem rat_lt {p q : Rat} : rat p < rat q ↔ p < q:=by
 constructor
 · intro h
   refine Classical.byContradiction fun z=>?_
   by_cases e : p = q
   · subst e;exact lt_irr _ h
   · have:=lt_zero.mpr (pos_rat (show 0 < p - q by grind))
     have e : rat (p - q) = rat p - rat q:=by
      have : rat (p - q) = rat (p + -q):=by congr 1;grind
      rw [this,← rat_add,← rat_neg];grind
     rw [e] at this
     grind
 · intro h
   have:=lt_zero.mpr (pos_rat (show 0 < q - p by grind))
   have e : rat (q - p) = rat q - rat p:=by
    have : rat (q - p) = rat (q + -p):=by congr 1;grind
    rw [this,← rat_add,← rat_neg];grind
   rw [e] at this
   grind
theorem rat_le {p q : Rat} : rat p ≤ rat q ↔ p ≤ q:=by
 have:=rat_lt (p:=q) (q:=p)
 constructor
 · intro h
   refine Classical.byContradiction fun z=>?_
   have:=this.mpr (by grind)
   grind
 · intro h
   refine Classical.byContradiction fun z=>?_
   have:=this.mp (by grind)
   grind
theorem sr_le (a : Nat) : sr a ≤ rat a:=by
 rcases Nat.eq_zero_or_pos a with rfl | ha
 · refine .inl ?_
   have:=sr_self 0
   rcases dom (u:=sr 0) (v:=sr 0) (by rw [this];rfl) with z | z
   · rw [z];rfl
   · rw [z];rfl
 · refine Classical.byContradiction fun z=>?_
   have h1 : rat a < sr a:=by grind
   have h2 : (0 : R) < sr a:=lt_zero.mpr (pos_sr ha)
   have h3 : rat 1 ≤ rat a:=rat_le.mpr (by have:=cast_le ha;simpa using this)
   have h3 : (1 : R) ≤ rat a:=h3
   have h4:=sr_self a
   have e4 : sr a * sr a = rat a:=h4
   have h5:=mpos (show 0 < sr a - rat a by grind) h2
   have h6 : 0 ≤ (rat a - 1) * sr a:=by
    rcases h3 with e | h3
    · refine .inl ?_
      rw [← e];grind
    · exact .inr (by have:=mpos (lt_zero.mpr h3) h2;rw [sub_zero'];exact lt_zero.mp this)
   grind
theorem le_mul {u v w : R} (h : u ≤ v) (hw : 0 ≤ w) : u * w ≤ v * w:=by
 rcases h with rfl | h
 · exact .inl rfl
 · rcases hw with e | hw
   · refine .inl ?_;rw [← e];grind
   · refine .inr ?_
     have h2 : (0 : R) < w:=by rw [lt_zero];rw [sub_zero'] at hw;exact hw
     have:=mpos (show 0 < v - u by have : u < v:=h;grind) h2
     have e : v * w - u * w = (v - u) * w:=by grind
     rw [e]
     exact lt_zero.mp this
theorem cl_bd : ∀ x : L,cl x ≤ rat (nrm x) ∧ -cl x ≤ rat (nrm x)
 | []=>by
  have e : rat (nrm []) = 0:=rfl
  rw [e,cl_nil]
  constructor <;> grind
 | (a,p) :: x=>by
  obtain ⟨h1,h2⟩:=cl_bd x
  have s0 : 0 ≤ sr a:=by
   rcases Nat.eq_zero_or_pos a with rfl | ha
   · have:=sr_le 0
     have e : rat ((0 : Nat) : Rat) = 0:=rfl
     have h4:=sr_self 0
     rcases dom (u:=sr 0) (v:=sr 0) (by rw [h4];rfl) with z | z
     · rw [z];grind
     · rw [z];grind
   · exact .inr (by rw [sub_zero'];exact pos_sr ha)
  have s1:=sr_le a
  have n0 : 0 ≤ rat (ab p):=rat_le.mpr (ab_nn p)
  have k1:=le_mul s1 n0
  obtain ⟨q1,q2⟩:=ab_le p
  have k2:=le_mul (rat_le.mpr q1) s0
  have k3:=le_mul (rat_le.mpr q2) s0
  rw [← rat_neg] at k3
  rw [cl_cons]
  simp only [nrm]
  rw [← rat_add,← rat_mul]
  constructor <;> grind
theorem fl_exR (u : R) : ∃ n : Int,rat n ≤ u ∧ u < rat ((n + 1 : Int) : Rat):=by
 obtain ⟨N,hN⟩:=nat_ge (nrm (rep u))
 have b:=cl_bd (rep u)
 rw [rep_cl] at b
 have hN':=rat_le.mpr hN
 have up : u ≤ rat (N : Nat):=by grind
 have lo : -u ≤ rat (N : Nat):=by grind
 have key : ∀ k : Nat,u < rat ((-(N : Int) + (k : Int) : Int) : Rat) → ∃ n : Int,rat n ≤ u ∧ u < rat ((n + 1 : Int) : Rat):=by
  intro k
  induction k with
  | zero=>
   intro h
   exfalso
   have e : rat ((-(N : Int) + ((0 : Nat) : Int) : Int) : Rat) = -rat (N : Nat):=by
    rw [rat_neg]
    congr 1
    simp [Rat.intCast_neg,Rat.intCast_natCast]
   rw [e] at h
   grind
  | succ k ih=>
   intro h
   by_cases q : u < rat ((-(N : Int) + (k : Int) : Int) : Rat)
   · exact ih q
   · refine ⟨-(N : Int) + (k : Int),by grind,?_⟩
     have e : (-(N : Int) + (k : Int) + 1) = (-(N : Int) + ((k + 1 : Nat) : Int)):=by omega
     rw [e]
     exact h
 refine key (2 * N + 1) ?_
 have e : rat ((-(N : Int) + ((2 * N + 1 : Nat) : Int) : Int) : Rat) = rat (N : Nat) + 1:=by
  have : (1 : R) = rat 1:=rfl
  rw [this,rat_add]
  congr 1
  have : (-(N : Int) + ((2 * N + 1 : Nat) : Int)) = (N : Int) + 1:=by omega
  rw [this]
  simp [Rat.intCast_add,Rat.intCast_natCast]
 rw [e]
 grind
noncomputable def flr (u : R) : Int:=(fl_exR u).choose
theorem flr_spec (u : R) : rat (flr u) ≤ u ∧ u < rat ((flr u + 1 : Int) : Rat):=(fl_exR u).choose_spec
theorem flr_uniq {u : R} {n : Int} (h1 : rat n ≤ u) (h2 : u < rat ((n + 1 : Int) : Rat)) : n = flr u:=by
 obtain ⟨a,b⟩:=flr_spec u
 have k1 : rat n < rat ((flr u + 1 : Int) : Rat):=by grind
 have k2 : rat (flr u) < rat ((n + 1 : Int) : Rat):=by grind
 have k1:=Rat.intCast_lt_intCast.mp (rat_lt.mp k1)
 have k2:=Rat.intCast_lt_intCast.mp (rat_lt.mp k2)
 omega
end Su
namespace Lw
open PySem Fm
section
variable {ns : List Int} {t : Tw} {k : Nat}
noncomputable instance : DecidableEq Su.R:=fun u v=>Classical.propDecidable _
noncomputable instance (u v : Su.R) : Decidable (u < v):=Classical.propDecidable _
def pd (x : Nat × Rat) : D:=.tup [.int (x.1 : Nat),qd x.2]
def sd (x : Su.L) : D:=.tup (x.map pd)
noncomputable def sr (u : Su.R) : D:=sd (Su.rep u)
def kv (x : Su.L) : List (Key × D):=x.map fun q=>(.inl ((q.1 : Nat) : Int),qd q.2)
@[simp] theorem key_i (i : Int) : keyD (.int i) = some (.inl i):=rfl
@[simp] theorem dix_i (kvs : List (Key × D)) (i : Int) : dixD (.dct kvs) (.int i) = lookD kvs (.inl i):=rfl
theorem kv_any (x : Su.L) (r : Nat) : ((kv x).any fun q=>decide (q.1 = .inl ((r : Nat) : Int))) = x.any fun q=>decide (q.1 = r):=by
 unfold kv
 rw [List.any_map]
 congr 1
 funext q
 rw [Bool.eq_iff_iff]
 simp only [Function.comp,Sum.inl.injEq,decide_eq_true_eq]
 omega
theorem kv_look (x : Su.L) (r : Nat) : (lookD (kv x) (.inl ((r : Nat) : Int))).getD (.tup [.int 0,.int 1]) = qd (Su.look x r):=by
 induction x with
 | nil=>rfl
 | cons q x ih=>
  obtain ⟨a,c⟩:=q
  rw [Su.look_cons]
  unfold lookD kv at ih ⊢
  rw [List.map_cons,List.find?_cons]
  by_cases h : a = r
  · subst h;simp
  · have : ¬ ((a : Int) = (r : Int)):=by omega
    simp only [Sum.inl.injEq,this,decide_false,h,if_false]
    exact ih
theorem kv_some {x : Su.L} {r : Nat} (h : r ∈ Su.keysL x) : lookD (kv x) (.inl ((r : Nat) : Int)) = some (qd (Su.look x r)):=by
 have h1:=kv_look x r
 cases e : lookD (kv x) (.inl ((r : Nat) : Int)) with
 | some d=>
  rw [e] at h1
  exact congrArg some h1
 | none=>
  exfalso
  unfold lookD at e
  rw [Option.map_eq_none_iff,List.find?_eq_none] at e
  obtain ⟨q,hq,rfl⟩:=List.mem_map.mp h
  exact e _ (List.mem_map_of_mem hq) (by simp)
theorem kv_put (x : Su.L) (r : Nat) (q : Rat) : putD (kv x) (.inl ((r : Nat) : Int)) (qd (Su.look x r + q)) = kv (Su.put x r q):=by
 unfold putD Su.put
 rw [kv_any]
 split
 · unfold kv
   rw [List.map_map,List.map_map]
   refine List.map_congr_left fun s _=>?_
   simp only [Function.comp,Sum.inl.injEq]
   by_cases h : s.1 = r
   · rw [if_pos (by omega),if_pos h]
   · rw [if_neg (by omega),if_neg h]
 · rename_i h
   have : Su.look x r = 0:=Su.look_none fun z=>h (Su.any_iff.mpr z)
   rw [this]
   unfold kv
   rw [List.map_append]
   rfl
theorem kv_keys (x : Su.L) : keysI (kv x) = some ((Su.keysL x).map fun a=>((a : Nat) : Int)):=by
 refine keysI_map ?_
 simp [kv,Su.keysL,List.map_map,Function.comp]
theorem srtI_nat (l : List Nat) : srtI (l.map fun a=>((a : Nat) : Int)) = (Su.srtN l).map fun a=>((a : Nat) : Int):=by
 have ins : ∀ (x : Nat) (l : List Nat),insI (x : Int) (l.map fun a=>((a : Nat) : Int)) = (Su.insN x l).map fun a=>((a : Nat) : Int):=by
  intro x l
  induction l with
  | nil=>rfl
  | cons y r ih=>
   simp only [List.map_cons,insI,Su.insN]
   by_cases h : x ≤ y
   · rw [if_pos (by omega),if_pos h];rfl
   · rw [if_neg (by omega),if_neg h,ih];rfl
 induction l with
 | nil=>rfl
 | cons x r ih=>
  simp only [List.map_cons,srtI,Su.srtN,ih,ins]
theorem sz_qs {n : Nat} {B : Nat} {x : Su.L} (h : Su.Sz B ((2 ^ n : Nat) : Rat) x) (hD : 0 < B) (hD2 : B ≤ 2 ^ n) {s : Nat × Rat} (hs : s ∈ x) (h0 : 0 < s.1) : qs (2 * n + 1) s.2:=by
 obtain ⟨a,b⟩:=h.num hD hs h0
 have p1 : 2 ^ n < 2 ^ (2 * n + 1):=Nat.pow_lt_pow_right (by omega) (by omega)
 refine ⟨?_,by omega⟩
 have : 2 ^ n * B ≤ 2 ^ n * 2 ^ n:=Nat.mul_le_mul_left _ hD2
 rw [← Nat.pow_add,← Nat.two_mul] at this
 have : 2 ^ (2 * n) < 2 ^ (2 * n + 1):=Nat.pow_lt_pow_right (by omega) (by omega)
 omega
theorem qs0 (n : Nat) : qs (n + 1) 0:=⟨Nat.two_pow_pos _,by
 have : 2 ^ 1 ≤ 2 ^ (n + 1):=Nat.pow_le_pow_right (by omega) (by omega)
 show 1 < _
 omega⟩
theorem look_qs {n : Nat} {B : Nat} {x : Su.L} (h : Su.Sz B ((2 ^ n : Nat) : Rat) x) (hn : (Su.keysL x).Nodup) (hD : 0 < B) (hD2 : B ≤ 2 ^ n) {r : Nat} (h0 : 0 < r) : qs (2 * n + 1) (Su.look x r):=by
 by_cases hr : r ∈ Su.keysL x
 · obtain ⟨s,hs,rfl⟩:=List.mem_map.mp hr
   rw [Su.look_mem hn hs]
   exact sz_qs h hD hD2 hs h0
 · rw [Su.look_none hr]
   exact qs0 _
theorem gath_loop (hk : 3 ≤ k) {d0 : D} {n B : Nat} (hD : 0 < B) (hD2 : B ≤ 2 ^ n) (hn : n ≤ 100000) : ∀ (x y : Su.L) (M : Rat) (s2 s3 : Sl),Su.Sz B M y → (Su.keysL y).Nodup → M + Su.nrm x ≤ ((2 ^ n : Nat) : Rat) → (∀ s ∈ x,s.2.den ∣ B) → (∀ s ∈ x,0 < s.1) → (∀ s ∈ y,0 < s.1) → y.length + x.length ≤ 1000000 →
  ∃ s2' s3',loopF (lq ns k (.tup (.cons (.name 2) (.cons (.name 3) .nil))) b_gathered_1) (x.map pd) [.val d0,.own (.dct (kv y)),s2,s3] t = .ok (.nx,[.val d0,.own (.dct (kv (Su.puts y x))),s2',s3']) t
 | [],y,M,s2,s3,_,_,_,_,_,_,_=>⟨s2,s3,rfl⟩
 | (r,q) :: x,y,M,s2,s3,h,hnd,hM,hd,hp,hy,hl=>by
  have hd1:=hd (r,q) List.mem_cons_self
  have hp1 : 0 < r:=hp (r,q) List.mem_cons_self
  have hz:=h.put hnd (r:=r) hd1
  have hx0:=Su.nrm_nn x
  have hqr:=Su.mulnn (Su.ab_nn q) (Su.cast_nn r)
  have em : Su.nrm ((r,q) :: x) = Su.ab q * (r : Rat) + Su.nrm x:=rfl
  rw [em] at hM
  have hyp : ∀ s ∈ Su.put y r q,0 < s.1:=fun s hs=>by
   have : s.1 ∈ Su.keysL (Su.put y r q):=List.mem_map_of_mem hs
   rw [Su.put_keys] at this
   split at this
   · obtain ⟨w,hw,e⟩:=List.mem_map.mp this
     rw [← e];exact hy w hw
   · rcases List.mem_append.mp this with this | this
     · obtain ⟨w,hw,e⟩:=List.mem_map.mp this
       rw [← e];exact hy w hw
     · rw [List.mem_singleton.mp this];exact hp1
  have hlen : (Su.put y r q).length ≤ y.length + 1:=by
   unfold Su.put
   split <;> simp
  obtain ⟨s2',s3',ih⟩:=gath_loop hk (d0:=d0) hD hD2 hn x (Su.put y r q) (M + Su.ab q * (r : Rat)) (.val (.int (r : Nat))) (.val (qd q)) hz.1 (Su.put_nodup hnd r q) (by grind) (fun s hs=>hd s (List.mem_cons_of_mem _ hs)) (fun s hs=>hp s (List.mem_cons_of_mem _ hs)) hyp (by simp only [List.length_cons] at hl;omega)
  refine ⟨s2',s3',?_⟩
  have M0 : 0 ≤ M:=by have:=h.up;have:=Su.nrm_nn y;grind
  have hy2 : Su.Sz B ((2 ^ n : Nat) : Rat) y:=h.le (Nat.dvd_refl B) (by grind)
  have hx2 : Su.Sz B ((2 ^ n : Nat) : Rat) [(r,q)]:=⟨fun s hs=>by rw [List.mem_singleton.mp hs];exact hd1,by simp only [Su.nrm];grind⟩
  have q1:=look_qs hy2 hnd hD hD2 hp1
  have q2 : qs (2 * n + 1) q:=sz_qs hx2 hD hD2 List.mem_cons_self hp1
  have e1:=z_plus (ns:=ns) (t:=t) (k:=k) (by omega) q1 q2 (by omega)
  have hlk:=kv_look y r
  have hle : (kv y).length < 16777216:=by
   simp only [kv,List.length_map]
   simp only [List.length_cons] at hl
   omega
  rw [List.map_cons,loopF,lq_eq (r1:=[.val d0,.own (.dct (kv y)),.val (.int (r : Nat)),.val (qd q)]) rfl]
  have s1 : evSs (gam p ns k) (csOf cst) b_gathered_1 [.val d0,.own (.dct (kv y)),.val (.int (r : Nat)),.val (qd q)] t = .ok (.nx,[.val d0,.own (.dct (kv (Su.put y r q))),.val (.int (r : Nat)),.val (qd q)]) t:=by
   simp [b_gathered_1,hlk,e1,hle,kv_put]
  rw [s1]
  exact ih
def isPairs (x : Su.L) (d : D) : Prop:=d = .lst (x.map pd) ∨ d = .tup (x.map pd)
theorem e_gathered (hk : 4 ≤ k) {x : Su.L} {d : D} (hd : isPairs x d) {n B : Nat} (h : Su.Sz B ((2 ^ n : Nat) : Rat) x) (hD : 0 < B) (hD2 : B ≤ 2 ^ n) (hn : n ≤ 100000) (hp : ∀ s ∈ x,0 < s.1) (hl : x.length ≤ 1000000) (few : (Su.keysL (Su.puts [] x)).length < 64) :
  callF p ns k i_gathered [d] t = .ok (sd (Su.gath x)) t:=by
 obtain ⟨k,rfl⟩:=up1 (show 1 ≤ k by omega)
 have hk : 3 ≤ k:=by omega
 rw [u_gathered]
 obtain ⟨s2,s3,e1⟩:=gath_loop (ns:=ns) (t:=t) hk (d0:=d) hD hD2 hn x [] 0 .un .un ⟨(fun _ z=>by cases z),by simp [Su.nrm]⟩ (by simp [Su.keysL]) (by have:=h.up;grind) h.dn hp (fun _ z=>by cases z) (by simpa using hl)
 obtain ⟨nd,_⟩:=Su.puts_ok x (k:=[]) (by simp [Su.keysL])
 generalize hy : Su.puts [] x = y at *
 have hi : evI (gam p ns k) (csOf cst) (.val (.var 0)) [.val d,.own (.dct (kv [])),.un,.un] t = .ok (x.map pd) t:=by
  rcases hd with rfl | rfl <;> simp
 show retD (evSs _ _ b_gathered [.val d,.un,.un,.un] t) = _
 unfold b_gathered
 rw [seq_nx (r1:=[.val d,.own (.dct (kv [])),.un,.un]) (t1:=t) (by simp [mergeD,kv]),seq_nx (r1:=[.val d,.own (.dct (kv y)),s2,s3]) (t1:=t) (by rw [for_lq hi];exact e1)]
 have hsr : blt1 .sorted (.dct (kv y)) = some (.lst ((Su.srtN (Su.keysL y)).map fun a=>D.int ((a : Nat) : Int))):=by
  simp only [blt1,kv_keys,Option.bind_some,List.length_map]
  rw [if_pos (decide_eq_true few),srtI_nat,List.map_map]
  rfl
 have hmem : ∀ a ∈ Su.srtN (Su.keysL y),a ∈ Su.keysL y:=fun a ha=>(Su.srtN_perm _).mem_iff.mp ha
 have hc:=cfiltB (G:=gam p ns k) (cs:=csOf cst) (t:=t) (own:=[("radicand",2)]) (elt:=.tup (.cons (.var 2) (.cons (.dix (.bor 1) (.var 2)) .nil))) (tg:=.name 2) (it:=.val (.blt .sorted (.bor 1))) (cd:=.some (.cmp .NotEq (.dix (.bor 1) (.var 2)) (.glob 0))) (r:=[.val d,.own (.dct (kv y)),s2,s3]) (ys:=Su.srtN (Su.keysL y))
  (fun a=>D.int ((a : Nat) : Int)) (fun a=>decide (Su.look y a ≠ 0)) (fun a=>pd (a,Su.look y a)) (by simp [hsr]) (by rw [(Su.srtN_perm _).length_eq];omega) (fun a ha=>by
   have e2:=kv_some (hmem a ha)
   have e3:=qn (Su.look y a)
   simp [e2,e3]
   by_cases z : Su.look y a = 0
   · simp [z]
   · simp [z,pd,okLen])
 have e4 : sd (Su.gath x) = .tup (((Su.srtN (Su.keysL y)).filter fun a=>decide (Su.look y a ≠ 0)).map fun a=>pd (a,Su.look y a)):=by
  unfold sd Su.gath
  rw [hy]
  unfold Su.outs
  rw [List.filter_map,List.map_map]
  rfl
 rw [e4]
 simp [hc]
end
end Lw
namespace Lw
open PySem Fm
structure Fld (m K : Nat) : Prop where
 sq : Su.sqf m
 np : Su.Np K m
 few : ∀ l : List Nat,l.Nodup → (∀ a ∈ l,a ∣ m) → l.length < 64
 small : m < 2 ^ 60
theorem few_keys {m K : Nat} (F : Fld m K) {x : Su.L} (h : ∀ s ∈ x,s.1 ∣ m) : (Su.keysL (Su.puts [] x)).length < 64:=by
 obtain ⟨nd,_⟩:=Su.puts_ok x (k:=[]) (by simp [Su.keysL])
 refine F.few _ nd fun a ha=>?_
 rw [Su.puts_keys] at ha
 rcases ha with ha | ha
 · cases ha
 · obtain ⟨s,hs,rfl⟩:=List.mem_map.mp ha
   exact h s hs
theorem rep_pos (u : Su.R) : ∀ s ∈ Su.rep u,0 < s.1:=fun s hs=>(Su.rep_sq u s hs).1
theorem rep_few {m K : Nat} (F : Fld m K) {u : Su.R} (h : Su.InR m u) : (Su.rep u).length < 64:=by
 have : (Su.keysL (Su.rep u)).length < 64:=F.few _ ((Su.rep_cn u).up.imp (fun {a b} h=>by omega) |> fun q=>by
  unfold Su.keysL
  rw [List.nodup_iff_pairwise_ne,List.pairwise_map]
  exact (Su.rep_cn u).up.imp fun {a b} h=>by omega) fun a ha=>by
   obtain ⟨s,hs,rfl⟩:=List.mem_map.mp ha
   exact h s hs
 simpa [Su.keysL] using this
section
variable {ns : List Int} {t : Tw} {k : Nat} {m K : Nat} {u v : Su.R} {n n' : Nat}
theorem qdneg : qd (-1) = .tup [.int (-1),.int 1]:=rfl
theorem bt_sz (h : Su.Bt n u) : ∃ B,0 < B ∧ B ≤ 2 ^ n ∧ Su.Sz B ((2 ^ n : Nat) : Rat) (Su.rep u):=h
theorem g_gath (hk : 4 ≤ k) (F : Fld m K) {x : Su.L} {d : D} (hd : isPairs x d) {n B : Nat} (h : Su.Sz B ((2 ^ n : Nat) : Rat) x) (hD : 0 < B) (hD2 : B ≤ 2 ^ n) (hn : n ≤ 100000) (hx : ∀ s ∈ x,s.1 ∣ m) (hl : x.length ≤ 1000000) : callF p ns k i_gathered [d] t = .ok (sr (Su.cl x)) t:=by
 have hs : Su.Sq x:=fun s hs=>Su.sqf_dvd F.sq (hx s hs)
 rw [e_gathered hk hd h hD hD2 hn (fun s hs'=>(hs s hs').1) hl (few_keys F hx),Su.rep_gath hs]
 rfl
theorem e_added (hk : 5 ≤ k) (F : Fld m K) (hu : Su.InR m u) (hv : Su.InR m v) (bu : Su.Bt n u) (bv : Su.Bt n' v) (hn : n + n' + 1 ≤ 100000) : callF p ns k i_added [sr u,sr v] t = .ok (sr (u + v)) t:=by
 obtain ⟨k,rfl⟩:=up1 (show 1 ≤ k by omega)
 obtain ⟨B,h1,h2,h3⟩:=bt_sz bu
 obtain ⟨E,g1,g2,g3⟩:=bt_sz bv
 have l1:=rep_few F hu
 have l2:=rep_few F hv
 have hz : Su.Sz (B * E) ((2 ^ (n + n' + 1) : Nat) : Rat) (Su.rep u ++ Su.rep v):=(h3.app g3).le (Nat.dvd_refl _) (by
  have a1:=Su.pow_up (show n ≤ n + n' by omega)
  have a2:=Su.pow_up (show n' ≤ n + n' by omega)
  have : ((2 ^ (n + n' + 1) : Nat) : Rat) = 2 * ((2 ^ (n + n') : Nat) : Rat):=by
   rw [Nat.pow_succ,Nat.mul_comm,Rat.natCast_mul];rfl
  grind)
 have hDE : B * E ≤ 2 ^ (n + n' + 1):=by
  have:=Nat.mul_le_mul h2 g2
  rw [← Nat.pow_add] at this
  exact Nat.le_trans this (Nat.pow_le_pow_right (by omega) (by omega))
 have e:=g_gath (ns:=ns) (t:=t) (k:=k) (by omega) F (x:=Su.rep u ++ Su.rep v) (d:=.tup ((Su.rep u ++ Su.rep v).map pd)) (.inr rfl) hz (Nat.mul_pos h1 g1) hDE hn (fun s hs=>by
  rcases List.mem_append.mp hs with h | h
  · exact hu s h
  · exact hv s h) (by rw [List.length_append];omega)
 rw [Su.cl_app,Su.rep_cl,Su.rep_cl,List.map_append] at e
 have ol : okLen ((Su.rep u).length + (Su.rep v).length) = true:=okL (by omega)
 rw [u_added]
 simp [b_added,sr,sd,ol] at e ⊢
 rw [e]
 simp
theorem e_scaled_by (hk : 5 ≤ k) (F : Fld m K) (hu : Su.InR m u) (bu : Su.Bt n u) {q : Rat} (bq : q.den ≤ 2 ^ n') (bq2 : q.num.natAbs ≤ 2 ^ n') (hn : n + n' + 1 ≤ 100000) : callF p ns k i_scaled_by [sr u,qd q] t = .ok (sr (u * Su.rat q)) t:=by
 obtain ⟨k,rfl⟩:=up1 (show 1 ≤ k by omega)
 obtain ⟨B,h1,h2,h3⟩:=bt_sz bu
 have l1:=rep_few F hu
 have q0 : qs (n' + 1) q:=⟨Nat.lt_of_le_of_lt bq2 (Nat.pow_lt_pow_right (by omega) (by omega)),Nat.lt_of_le_of_lt bq (Nat.pow_lt_pow_right (by omega) (by omega))⟩
 have hc:=cmapB (G:=gam p ns k) (cs:=csOf cst) (t:=t) (own:=[("radicand",2),("part",3)]) (elt:=.tup (.cons (.var 2) (.cons (.call 4 (.cons (.var 3) (.cons (.var 1) .nil)) .nil) .nil))) (tg:=.tup (.cons (.name 2) (.cons (.name 3) .nil))) (it:=.val (.var 0)) (cd:=.none) (r:=[.val (sr u),.val (qd q),.un,.un]) (ys:=Su.rep u)
  pd (fun s=>pd (s.1,s.2 * q)) (by simp [sr,sd]) (by omega) (fun s hs=>by
   have q1:=sz_qs h3 h1 h2 hs (rep_pos u s hs)
   have e1:=z_times (ns:=ns) (t:=t) (k:=k) (by omega) q1 q0 (by omega)
   simp [pd,e1,okLen])
 have hz:=h3.scl (q:=q) (Nat.dvd_refl q.den)
 have hab : Su.ab q ≤ ((2 ^ n' : Nat) : Rat):=by
  have h5:=Su.ab_rat_num q
  have d1 : (1 : Rat) ≤ q.den:=by have:=Su.cast_le q.den_pos;simpa using this
  have:=Rat.mul_le_mul_of_nonneg_left d1 (Su.ab_nn q)
  have:=Su.cast_le bq2
  grind
 have hz2 : Su.Sz (B * q.den) ((2 ^ (n + n') : Nat) : Rat) (Su.scl (Su.rep u) q):=hz.le (Nat.dvd_refl _) (by
  rw [Nat.pow_add,Rat.natCast_mul]
  exact Rat.mul_le_mul_of_nonneg_left hab (Su.cast_nn _))
 have hDE : B * q.den ≤ 2 ^ (n + n'):=by
  have:=Nat.mul_le_mul h2 bq
  rwa [← Nat.pow_add] at this
 have e:=g_gath (ns:=ns) (t:=t) (k:=k) (by omega) F (x:=Su.scl (Su.rep u) q) (d:=.lst ((Su.scl (Su.rep u) q).map pd)) (.inl rfl) hz2 (Nat.mul_pos h1 q.den_pos) hDE (by omega) (fun s hs=>by
  obtain ⟨w,hw,rfl⟩:=List.mem_map.mp hs
  exact hu w hw) (by unfold Su.scl;rw [List.length_map];omega)
 rw [Su.cl_scl,Su.rep_cl] at e
 have e2 : (Su.scl (Su.rep u) q).map pd = (Su.rep u).map fun s=>pd (s.1,s.2 * q):=by
  unfold Su.scl
  rw [List.map_map];rfl
 rw [e2] at e
 rw [u_scaled_by]
 show retD (evSs _ _ b_scaled_by [.val (sr u),.val (qd q),.un,.un] t) = _
 unfold b_scaled_by
 simp [hc,e]
theorem e_opposite (hk : 6 ≤ k) (F : Fld m K) (hu : Su.InR m u) (bu : Su.Bt n u) (hn : n + 1 ≤ 100000) : callF p ns k i_opposite [sr u] t = .ok (sr (-u)) t:=by
 obtain ⟨k,rfl⟩:=up1 (show 1 ≤ k by omega)
 have e:=e_scaled_by (ns:=ns) (t:=t) (k:=k) (n':=0) (by omega) F hu bu (q:=-1) (by decide) (by decide) (by omega)
 rw [← Su.neg_eq] at e
 rw [u_opposite]
 rw [qdneg] at e
 simp [b_opposite,e,okLen]
theorem e_surd (hk : 5 ≤ k) (F : Fld m K) {q : Rat} (bq : q.den ≤ 2 ^ n) (bq2 : q.num.natAbs ≤ 2 ^ n) (hn : n ≤ 100000) : callF p ns k i_surd [qd q] t = .ok (sr (Su.rat q)) t:=by
 obtain ⟨k,rfl⟩:=up1 (show 1 ≤ k by omega)
 have hab : Su.ab q ≤ ((2 ^ n : Nat) : Rat):=by
  have h5:=Su.ab_rat_num q
  have d1 : (1 : Rat) ≤ q.den:=by have:=Su.cast_le q.den_pos;simpa using this
  have:=Rat.mul_le_mul_of_nonneg_left d1 (Su.ab_nn q)
  have:=Su.cast_le bq2
  grind
 have e:=g_gath (ns:=ns) (t:=t) (k:=k) (by omega) F (x:=[(1,q)]) (d:=.lst ([(1,q)].map pd)) (.inl rfl) (B:=q.den) (n:=n) ⟨fun s hs=>by rw [List.mem_singleton.mp hs];exact Nat.dvd_refl _,by simp only [Su.nrm];simp;grind⟩ q.den_pos bq hn (fun s hs=>by rw [List.mem_singleton.mp hs];exact Nat.one_dvd m) (by simp)
 have e1 : Su.cl [(1,q)] = Su.rat q:=rfl
 rw [e1] at e
 rw [u_surd]
 simp [b_surd,okLen]
 simp [pd] at e
 rw [e]
 simp
theorem mul_in (hk : 3 ≤ k) {n : Nat} (hn : n ≤ 100000) {d0 d1 : D} {s : Nat × Rat} (hs : s.1 < 2 ^ 60) (h0 : 0 < s.1) (qs1 : qs (2 * n + 1) s.2) : ∀ (y : Su.L) (acc : Su.L) (s5 s6 s7 s8 : Sl),(∀ w ∈ y,w.1 < 2 ^ 60 ∧ 0 < w.1 ∧ qs (2 * n + 1) w.2) → acc.length + y.length ≤ 1000000 →
  ∃ s5' s6' s7' s8',loopF (lq ns k (.tup (.cons (.name 5) (.cons (.name 6) .nil))) b_multiplied_2) (y.map pd) [.val d0,.val d1,.own (.lst (acc.map pd)),.val (.int (s.1 : Nat)),.val (qd s.2),s5,s6,s7,s8] t = .ok (.nx,[.val d0,.val d1,.own (.lst ((acc ++ y.map (Su.pairT s)).map pd)),.val (.int (s.1 : Nat)),.val (qd s.2),s5',s6',s7',s8']) t
 | [],acc,s5,s6,s7,s8,_,_=>⟨s5,s6,s7,s8,by rw [List.map_nil,List.map_nil,List.append_nil];rfl⟩
 | w :: y,acc,s5,s6,s7,s8,hw,hl=>by
  obtain ⟨a1,a2,a3⟩:=hw w List.mem_cons_self
  have g0 : 0 < Nat.gcd s.1 w.1:=Nat.gcd_pos_of_pos_left _ h0
  have gm : Nat.gcd s.1 w.1 ≤ s.1:=Nat.le_of_dvd h0 (Nat.gcd_dvd_left _ _)
  have e1:=e_greatest (ns:=ns) (t:=t) (k:=k) (by omega) (s.1 : Nat) (w.1 : Nat)
  have eg : (Int.gcd (s.1 : Nat) (w.1 : Nat) : Int) = ((Nat.gcd s.1 w.1 : Nat) : Int):=by rw [Int.gcd_natCast_natCast]
  rw [eg] at e1
  have okd : okDiv ((Nat.gcd s.1 w.1 : Nat) : Int) = true:=okDiv_ne (by omega)
  have f1 : (s.1 : Int).fdiv ((Nat.gcd s.1 w.1 : Nat) : Int) = ((s.1 / Nat.gcd s.1 w.1 : Nat) : Int):=by rw [Int.fdiv_eq_ediv_of_nonneg _ (by omega)];rfl
  have f2 : (w.1 : Int).fdiv ((Nat.gcd s.1 w.1 : Nat) : Int) = ((w.1 / Nat.gcd s.1 w.1 : Nat) : Int):=by rw [Int.fdiv_eq_ediv_of_nonneg _ (by omega)];rfl
  have b1 : s.1 / Nat.gcd s.1 w.1 ≤ s.1:=Nat.div_le_self _ _
  have b2 : w.1 / Nat.gcd s.1 w.1 ≤ w.1:=Nat.div_le_self _ _
  have om : okMul ((s.1 / Nat.gcd s.1 w.1 : Nat) : Int) ((w.1 / Nat.gcd s.1 w.1 : Nat) : Int) = true:=okMul_of (k:=60) (l:=60) (by rw [Int.natAbs_natCast];omega) (by rw [Int.natAbs_natCast];omega) (by omega) (by omega) (by omega)
  have om2:=om
  rw [Int.natCast_ediv,Int.natCast_ediv] at om2
  have t1:=z_times (ns:=ns) (t:=t) (k:=k) hk qs1 a3 (by omega)
  have q3 : qs (4 * n + 2) (s.2 * w.2):=by
   refine ⟨?_,?_⟩
   · have:=natAbs_lt_mul qs1.1 a3.1
     have d : (s.2 * w.2).num.natAbs ≤ (s.2.num * w.2.num).natAbs:=by
      rw [Rat.num_mul]
      rw [Int.natAbs_ediv_of_dvd]
      · exact Nat.div_le_self _ _
      · exact Int.ofNat_dvd_left.mpr (Nat.gcd_dvd_left _ _)
     have e : 2 ^ (2 * n + 1 + (2 * n + 1)) = 2 ^ (4 * n + 2):=by congr 1;omega
     omega
   · have d : (s.2 * w.2).den ≤ s.2.den * w.2.den:=by
      rw [Rat.den_mul]
      exact Nat.div_le_self _ _
     have:=Nat.mul_lt_mul'' qs1.2 a3.2
     rw [← Nat.pow_add] at this
     have e : 2 ^ (2 * n + 1 + (2 * n + 1)) = 2 ^ (4 * n + 2):=by congr 1;omega
     omega
  have q4 : qs 61 ((Nat.gcd s.1 w.1 : Nat) : Rat):=by
   refine ⟨?_,?_⟩
   · rw [Rat.num_natCast,Int.natAbs_natCast];omega
   · rw [Rat.den_natCast];decide
  have t2:=z_times (ns:=ns) (t:=t) (k:=k) hk q3 q4 (by omega)
  have qg : qd ((Nat.gcd s.1 w.1 : Nat) : Rat) = .tup [.int ((Nat.gcd s.1 w.1 : Nat) : Int),.int 1]:=by
   unfold qd
   rw [Rat.num_natCast,Rat.den_natCast];rfl
  rw [qg] at t2
  obtain ⟨s5',s6',s7',s8',ih⟩:=mul_in hk hn (d0:=d0) (d1:=d1) hs h0 qs1 y (acc ++ [Su.pairT s w]) (.val (.int (w.1 : Nat))) (.val (qd w.2)) (.val (.int ((Nat.gcd s.1 w.1 : Nat) : Int))) (.val (.int ((s.1 / Nat.gcd s.1 w.1 * (w.1 / Nat.gcd s.1 w.1) : Nat) : Int))) (fun v hv=>hw v (List.mem_cons_of_mem _ hv)) (by simp only [List.length_append,List.length_cons,List.length_nil] at hl ⊢;omega)
  refine ⟨s5',s6',s7',s8',?_⟩
  rw [List.map_cons,loopF,lq_eq (r1:=[.val d0,.val d1,.own (.lst (acc.map pd)),.val (.int (s.1 : Nat)),.val (qd s.2),.val (.int (w.1 : Nat)),.val (qd w.2),s7,s8]) rfl]
  have ol : acc.length < 16777216:=by simp only [List.length_cons] at hl;omega
  have hb : evSs (gam p ns k) (csOf cst) b_multiplied_2 [.val d0,.val d1,.own (.lst (acc.map pd)),.val (.int (s.1 : Nat)),.val (qd s.2),.val (.int (w.1 : Nat)),.val (qd w.2),s7,s8] t = .ok (.nx,[.val d0,.val d1,.own (.lst ((acc ++ [Su.pairT s w]).map pd)),.val (.int (s.1 : Nat)),.val (qd s.2),.val (.int (w.1 : Nat)),.val (qd w.2),.val (.int ((Nat.gcd s.1 w.1 : Nat) : Int)),.val (.int ((s.1 / Nat.gcd s.1 w.1 * (w.1 / Nat.gcd s.1 w.1) : Nat) : Int))]) t:=by
   simp [b_multiplied_2,e1,okd,f1,f2,om2,t1,t2,ol,Su.pairT,pd,okLen]
   try omega
  rw [hb]
  rw [List.append_assoc,List.singleton_append] at ih
  exact ih
theorem mul_out (hk : 3 ≤ k) {n : Nat} (hn : n ≤ 100000) {d0 : D} {y : Su.L} (hy : ∀ w ∈ y,w.1 < 2 ^ 60 ∧ 0 < w.1 ∧ qs (2 * n + 1) w.2) : ∀ (x : Su.L) (acc : Su.L) (s3 s4 s5 s6 s7 s8 : Sl),(∀ w ∈ x,w.1 < 2 ^ 60 ∧ 0 < w.1 ∧ qs (2 * n + 1) w.2) → acc.length + x.length * y.length ≤ 1000000 →
  ∃ s3' s4' s5' s6' s7' s8',loopF (lq ns k (.tup (.cons (.name 3) (.cons (.name 4) .nil))) b_multiplied_1) (x.map pd) [.val d0,.val (.tup (y.map pd)),.own (.lst (acc.map pd)),s3,s4,s5,s6,s7,s8] t = .ok (.nx,[.val d0,.val (.tup (y.map pd)),.own (.lst ((acc ++ Su.prods x y).map pd)),s3',s4',s5',s6',s7',s8']) t
 | [],acc,s3,s4,s5,s6,s7,s8,_,_=>⟨s3,s4,s5,s6,s7,s8,by rw [Su.prods,List.append_nil];rfl⟩
 | s :: x,acc,s3,s4,s5,s6,s7,s8,hx,hl=>by
  obtain ⟨a1,a2,a3⟩:=hx s List.mem_cons_self
  have hl1 : acc.length + y.length + x.length * y.length ≤ 1000000:=by
   simp only [List.length_cons,Nat.succ_mul,Nat.add_mul,Nat.one_mul] at hl
   omega
  obtain ⟨r5,r6,r7,r8,e1⟩:=mul_in (ns:=ns) (t:=t) hk hn (d0:=d0) (d1:=.tup (y.map pd)) a1 a2 a3 y acc s5 s6 s7 s8 hy (by omega)
  obtain ⟨s3',s4',s5',s6',s7',s8',ih⟩:=mul_out hk hn (d0:=d0) hy x (acc ++ y.map (Su.pairT s)) (.val (.int (s.1 : Nat))) (.val (qd s.2)) r5 r6 r7 r8 (fun v hv=>hx v (List.mem_cons_of_mem _ hv)) (by rw [List.length_append,List.length_map];omega)
  refine ⟨s3',s4',s5',s6',s7',s8',?_⟩
  rw [List.map_cons,loopF,lq_eq (r1:=[.val d0,.val (.tup (y.map pd)),.own (.lst (acc.map pd)),.val (.int (s.1 : Nat)),.val (qd s.2),s5,s6,s7,s8]) rfl]
  have hb : evSs (gam p ns k) (csOf cst) b_multiplied_1 [.val d0,.val (.tup (y.map pd)),.own (.lst (acc.map pd)),.val (.int (s.1 : Nat)),.val (qd s.2),s5,s6,s7,s8] t = .ok (.nx,[.val d0,.val (.tup (y.map pd)),.own (.lst ((acc ++ y.map (Su.pairT s)).map pd)),.val (.int (s.1 : Nat)),.val (qd s.2),r5,r6,r7,r8]) t:=by
   unfold b_multiplied_1
   rw [seq_nx (r1:=[.val d0,.val (.tup (y.map pd)),.own (.lst ((acc ++ y.map (Su.pairT s)).map pd)),.val (.int (s.1 : Nat)),.val (qd s.2),r5,r6,r7,r8]) (t1:=t) (by rw [for_lq (xs:=y.map pd) (t1:=t) (by simp)];exact e1)]
   simp
  rw [hb]
  rw [List.append_assoc] at ih
  exact ih
theorem plen (x y : Su.L) : (Su.prods x y).length = x.length * y.length:=by
 induction x with
 | nil=>simp [Su.prods]
 | cons s x ih=>simp only [Su.prods,List.length_append,List.length_map,ih,List.length_cons,Nat.succ_mul];omega
theorem e_mulG (hk : 5 ≤ k) (su : ∀ s ∈ Su.rep u,s.1 < 2 ^ 60) (sv : ∀ s ∈ Su.rep v,s.1 < 2 ^ 60) (l1 : (Su.rep u).length < 64) (l2 : (Su.rep v).length < 64) (few : (Su.keysL (Su.puts [] (Su.prods (Su.rep u) (Su.rep v)))).length < 64) (bu : Su.Bt n u) (bv : Su.Bt n' v) (hn : n + n' ≤ 100000) : callF p ns k i_multiplied [sr u,sr v] t = .ok (sr (u * v)) t:=by
 obtain ⟨k,rfl⟩:=up1 (show 1 ≤ k by omega)
 obtain ⟨B,h1,h2,h3⟩:=bt_sz bu
 obtain ⟨E,g1,g2,g3⟩:=bt_sz bv
 have ll : (Su.rep u).length * (Su.rep v).length ≤ 64 * 64:=Nat.mul_le_mul (by omega) (by omega)
 have hx : ∀ w ∈ Su.rep u,w.1 < 2 ^ 60 ∧ 0 < w.1 ∧ qs (2 * (n + n') + 1) w.2:=fun w hw=>⟨su w hw,rep_pos u w hw,(sz_qs h3 h1 h2 hw (rep_pos u w hw)).le (by omega)⟩
 have hy : ∀ w ∈ Su.rep v,w.1 < 2 ^ 60 ∧ 0 < w.1 ∧ qs (2 * (n + n') + 1) w.2:=fun w hw=>⟨sv w hw,rep_pos v w hw,(sz_qs g3 g1 g2 hw (rep_pos v w hw)).le (by omega)⟩
 obtain ⟨s3,s4,s5,s6,s7,s8,e1⟩:=mul_out (ns:=ns) (t:=t) (k:=k) (by omega) (n:=n + n') hn (d0:=sr u) hy (Su.rep u) [] .un .un .un .un .un .un hx (by simp;omega)
 have hz : Su.Sz (B * E) ((2 ^ (n + n') : Nat) : Rat) (Su.prods (Su.rep u) (Su.rep v)):=(h3.prods g3 (Su.rep_sq u)).le (Nat.dvd_refl _) (by rw [Nat.pow_add,Rat.natCast_mul];grind)
 have hDE : B * E ≤ 2 ^ (n + n'):=by
  have:=Nat.mul_le_mul h2 g2
  rwa [← Nat.pow_add] at this
 have sq:=Su.prods_sq (Su.rep_sq u) (Su.rep_sq v)
 have e:=e_gathered (ns:=ns) (t:=t) (k:=k) (by omega) (x:=Su.prods (Su.rep u) (Su.rep v)) (d:=.lst ((Su.prods (Su.rep u) (Su.rep v)).map pd)) (.inl rfl) hz (Nat.mul_pos h1 g1) hDE hn (fun s hs=>(sq s hs).1) (by rw [plen];omega) few
 rw [Su.rep_gath sq,Su.cl_prods (Su.rep_sq u),Su.rep_cl,Su.rep_cl] at e
 rw [u_multiplied]
 show retD (evSs _ _ b_multiplied [.val (sr u),.val (sr v),.un,.un,.un,.un,.un,.un,.un] t) = _
 unfold b_multiplied
 rw [seq_nx (r1:=[.val (sr u),.val (sr v),.own (.lst []),.un,.un,.un,.un,.un,.un]) (t1:=t) (by simp [okLen]),seq_nx (r1:=[.val (sr u),.val (sr v),.own (.lst ((Su.prods (Su.rep u) (Su.rep v)).map pd)),s3,s4,s5,s6,s7,s8]) (t1:=t) (by
  rw [for_lq (xs:=(Su.rep u).map pd) (t1:=t) (by simp [sr,sd])]
  exact e1)]
 simp [e,sr]
theorem rad_small (F : Fld m K) (hu : Su.InR m u) : ∀ s ∈ Su.rep u,s.1 < 2 ^ 60:=fun s hs=>by
 have:=Nat.le_of_dvd F.sq.1 (hu s hs)
 have:=F.small
 omega
theorem e_multiplied (hk : 5 ≤ k) (F : Fld m K) (hu : Su.InR m u) (hv : Su.InR m v) (bu : Su.Bt n u) (bv : Su.Bt n' v) (hn : n + n' ≤ 100000) : callF p ns k i_multiplied [sr u,sr v] t = .ok (sr (u * v)) t:=
 e_mulG hk (rad_small F hu) (rad_small F hv) (rep_few F hu) (rep_few F hv) (few_keys F fun s hs=>by
  obtain ⟨a,ha,b,hb,rfl⟩:=Su.prods_mem hs
  exact Su.pair_dvd (rep_pos u a ha) (hu a ha) (hv b hb)) bu bv hn
end
end Lw
namespace Su
theorem lp_ex (r : Nat) (h : 2 ≤ r) : ∃ p,pr p ∧ p ∣ r ∧ ∀ e,2 ≤ e → e < p → ¬ e ∣ r:=by
 have key : ∀ n d,d + n = r → 2 ≤ d → (∀ e,2 ≤ e → e < d → ¬ e ∣ r) → ∃ p,2 ≤ p ∧ p ∣ r ∧ ∀ e,2 ≤ e → e < p → ¬ e ∣ r:=by
  intro n
  induction n with
  | zero=>
   intro d hd h2 hl
   have : d = r:=by omega
   subst this
   exact ⟨d,h2,Nat.dvd_refl d,hl⟩
  | succ n ih=>
   intro d hd h2 hl
   by_cases q : d ∣ r
   · exact ⟨d,h2,q,hl⟩
   · refine ih (d + 1) (by omega) (by omega) fun e e2 el=>?_
     by_cases z : e = d
     · subst z;exact q
     · exact hl e e2 (by omega)
 obtain ⟨p,h2,hd,hl⟩:=key (r - 2) 2 (by omega) (by omega) (fun e e2 el=>by omega)
 refine ⟨p,⟨h2,fun e he=>?_⟩,hd,hl⟩
 have e0 : 0 < e:=Nat.pos_of_dvd_of_pos he (by omega)
 have el:=Nat.le_of_dvd (by omega) he
 by_cases z : e = 1
 · exact .inl z
 · refine .inr (Classical.byContradiction fun q=>?_)
   exact hl e (by omega) (by omega) (Nat.dvd_trans he hd)
open Classical in
noncomputable def lpr (r : Nat) : Nat:=if h : 2 ≤ r then (lp_ex r h).choose else 2
theorem lpr_spec {r : Nat} (h : 2 ≤ r) : pr (lpr r) ∧ lpr r ∣ r ∧ ∀ e,2 ≤ e → e < lpr r → ¬ e ∣ r:=by
 unfold lpr
 rw [dif_pos h]
 exact (lp_ex r h).choose_spec
def rtR (q : Rat) : R:=rat ((q.den : Rat)⁻¹) * sr (q.num.toNat * q.den)
end Su
namespace Lw
open PySem Fm
section
variable {ns : List Int} {t : Tw} {k : Nat} {m K : Nat} {u v : Su.R} {n n' : Nat}
theorem fmod_nat (a b : Nat) : ((a : Int)).fmod (b : Int) = ((a % b : Nat) : Int):=by
 rw [Int.fmod_eq_emod_of_nonneg _ (by omega)];rfl
theorem fdiv_nat (a b : Nat) : ((a : Int)).fdiv (b : Int) = ((a / b : Nat) : Int):=by
 rw [Int.fdiv_eq_ediv_of_nonneg _ (by omega)];rfl
theorem mod_dvd (a b : Nat) : ((a : Int)).fmod (b : Int) = 0 ↔ b ∣ a:=by
 rw [fmod_nat]
 constructor
 · intro h;exact Nat.dvd_of_mod_eq_zero (by omega)
 · intro h;rw [Nat.mod_eq_zero_of_dvd h];rfl
theorem neM (a b : Nat) : neOp (.int ((a : Int).fmod (b : Int))) (.int 0) = some (.bl (!decide (b ∣ a))):=by
 rw [x_nei]
 congr 3
 rw [Bool.eq_iff_iff]
 simp only [decide_eq_true_eq,mod_dvd]
theorem eqM (a b : Nat) : eqOp (.int ((a : Int).fmod (b : Int))) (.int 0) = some (.bl (decide (b ∣ a))):=by
 rw [x_eqi]
 congr 2
 rw [Bool.eq_iff_iff]
 simp only [decide_eq_true_eq,mod_dvd]
theorem e_least_prime (hk : 1 ≤ k) {r : Nat} (hr : 2 ≤ r) : callF p ns k i_least_prime [.int (r : Nat)] t = .ok (.int (Su.lpr r : Nat)) t:=by
 obtain ⟨k,rfl⟩:=up1 hk
 obtain ⟨hp,hd,hl⟩:=Su.lpr_spec hr
 have loop : ∀ (j d : Nat),d + j = Su.lpr r → 2 ≤ d → loopW (ev (gam p ns k) (csOf cst) (.cmp .NotEq (.bin .Mod (.var 0) (.var 1)) (.cst (.int 0)))) (evSs (gam p ns k) (csOf cst) b_least_prime_1) [.val (.int (r : Nat)),.val (.int (d : Nat))] t = .ok (.nx,[.val (.int (r : Nat)),.val (.int (Su.lpr r : Nat))]) t:=by
  intro j
  induction j with
  | zero=>
   intro d e d2
   have : d = Su.lpr r:=by omega
   subst this
   have z : Su.lpr r ≠ 0:=by omega
   rw [loopW_eq]
   simp [z,mod_dvd,hd]
  | succ j ih=>
   intro d e d2
   have z : d ≠ 0:=by omega
   have nd : ¬ d ∣ r:=hl d d2 (by omega)
   rw [loopW_eq]
   have ih:=ih (d + 1) (by omega) (by omega)
   simp [z,mod_dvd,nd]
   have eb : evSs (gam p ns k) (csOf cst) b_least_prime_1 [.val (.int (r : Nat)),.val (.int (d : Nat))] t = .ok (.nx,[.val (.int (r : Nat)),.val (.int ((d + 1 : Nat) : Int))]) t:=by
    simp [b_least_prime_1]
   rw [eb]
   exact ih
 have e:=loop (Su.lpr r - 2) 2 (by have:=hp.1;omega) (by omega)
 rw [u_least_prime]
 show retD (evSs _ _ b_least_prime [.val (.int (r : Nat)),.un] t) = _
 unfold b_least_prime
 rw [seq_nx (r1:=[.val (.int (r : Nat)),.val (.int ((2 : Nat) : Int))]) (t1:=t) (by simp),seq_nx (r1:=[.val (.int (r : Nat)),.val (.int (Su.lpr r : Nat))]) (t1:=t) (by rw [evS_while];exact e)]
 simp
theorem sz_bare {B : Nat} {M : Rat} {x : Su.L} (h : Su.Sz B M x) (q : Nat) : Su.Sz B M (Su.bareL q x):=⟨fun s hs=>h.dn s (List.mem_filter.mp hs).1,by
 have:=Su.nrm_filter (fun t=>decide (¬ q ∣ t.1)) x
 have:=h.up
 show Su.nrm (x.filter _) ≤ _
 grind⟩
theorem sz_others {B : Nat} {M : Rat} {x : Su.L} (h : Su.Sz B M x) {q : Nat} (hq : 0 < q) : Su.Sz B M (Su.othersL q x):=⟨fun s hs=>by
 obtain ⟨w,hw,rfl⟩:=List.mem_map.mp hs
 exact h.dn w (List.mem_filter.mp hw).1,by
 have h1:=Su.nrm_others hq x
 have h2:=Su.nrm_nn (Su.bareL q x)
 have h3:=Su.nrm_nn (Su.othersL q x)
 have q1 : (1 : Rat) ≤ (q : Rat):=by have:=Su.cast_le hq;simpa using this
 have:=Rat.mul_le_mul_of_nonneg_right q1 h3
 have:=h.up
 grind⟩
noncomputable def hdP (u : Su.R) : Nat:=match (Su.rep u).filter (fun s=>decide (1 < s.1)) with
 | []=>1
 | s :: _=>Su.lpr s.1
theorem hdP_one (h : hdP u = 1) : ∃ q,u = Su.rat q:=by
 unfold hdP at h
 split at h
 · rename_i e
   refine Su.In.base ⟨Su.rep u,(Su.rep_cl u).symm,fun s hs=>?_⟩
   rw [List.filter_eq_nil_iff] at e
   have h1:=e s hs
   have h2:=(Su.rep_sq u s hs).1
   simp only [decide_eq_true_eq] at h1
   have : s.1 = 1:=by omega
   rw [this]
   exact Nat.dvd_refl 1
 · rename_i s r e
   have : s ∈ (Su.rep u).filter (fun s=>decide (1 < s.1)):=by rw [e];exact List.mem_cons_self
   have:=(List.mem_filter.mp this).2
   have:=(Su.lpr_spec (r:=s.1) (by simp at this;omega)).1.1
   omega
theorem hdP_part (h : hdP u ≠ 1) : Su.Part u (hdP u) (Su.cl (Su.bareL (hdP u) (Su.rep u))) (Su.cl (Su.othersL (hdP u) (Su.rep u))):=by
 unfold hdP at h ⊢
 split at h
 · exact absurd rfl h
 · rename_i s r e
   have hs : s ∈ (Su.rep u).filter (fun s=>decide (1 < s.1)):=by rw [e];exact List.mem_cons_self
   have h1:=List.mem_filter.mp hs
   have h2 : 2 ≤ s.1:=by have:=h1.2;simp at this;omega
   obtain ⟨a,b,_⟩:=Su.lpr_spec h2
   exact Su.part_of a ⟨s,h1.1,b⟩
theorem e_parted0 (hk : 2 ≤ k) (h : hdP u = 1) (hl : (Su.rep u).length ≤ 1000000) : callF p ns k i_parted [sr u] t = .ok (.tup [.int 1,sr u,.tup []]) t:=by
 obtain ⟨k,rfl⟩:=up1 (show 1 ≤ k by omega)
 have hf : (Su.rep u).filter (fun s=>decide (1 < s.1)) = []:=by
  unfold hdP at h
  split at h
  · assumption
  · rename_i s r e
    have : s ∈ (Su.rep u).filter (fun s=>decide (1 < s.1)):=by rw [e];exact List.mem_cons_self
    have:=(List.mem_filter.mp this).2
    have:=(Su.lpr_spec (r:=s.1) (by simp at this;omega)).1.1
    omega
 have hc:=cfiltB (G:=gam p ns k) (cs:=csOf cst) (t:=t) (own:=[("radicand",2),("part",3)]) (elt:=.call 6 (.cons (.var 2) .nil) .nil) (tg:=.tup (.cons (.name 2) (.cons (.name 3) .nil))) (it:=.val (.var 0)) (cd:=.some (.cmp .Gt (.var 2) (.cst (.int 1)))) (r:=[.val (sr u),.un,.un,.un,.un,.un,.un]) (ys:=Su.rep u)
  pd (fun s=>decide (1 < s.1)) (fun s=>.int (Su.lpr s.1 : Nat)) (by simp [sr,sd]) hl (fun s hs=>by
   have z : s.1 ≤ 1:=by
    rw [List.filter_eq_nil_iff] at hf
    have:=hf s hs
    simp at this;omega
   have z2 : ¬ (1 < s.1):=by omega
   have z3 : ¬ ((1 : Int) < (s.1 : Int)):=by omega
   simp [pd,z2,z3])
 rw [hf,List.map_nil] at hc
 rw [u_parted]
 show retD (evSs _ _ b_parted [.val (sr u),.un,.un,.un,.un,.un,.un] t) = _
 unfold b_parted
 rw [seq_nx (r1:=[.val (sr u),.val (.lst []),.un,.un,.un,.un,.un]) (t1:=t) (by rw [evS_asg];simp [hc])]
 simp [okLen]
theorem e_parted (hk : 5 ≤ k) (F : Fld m K) (hu : Su.InR m u) (bu : Su.Bt n u) (hn : n ≤ 100000) (h : hdP u ≠ 1) : callF p ns k i_parted [sr u] t = .ok (.tup [.int (hdP u : Nat),sr (Su.cl (Su.bareL (hdP u) (Su.rep u))),sr (Su.cl (Su.othersL (hdP u) (Su.rep u)))]) t:=by
 obtain ⟨k,rfl⟩:=up1 (show 1 ≤ k by omega)
 obtain ⟨B,h1,h2,h3⟩:=bt_sz bu
 have l1:=rep_few F hu
 have P:=hdP_part h
 have p2:=P.pr.1
 obtain ⟨pm,_⟩:=P.inn F.sq hu
 have hc:=cfiltB (G:=gam p ns k) (cs:=csOf cst) (t:=t) (own:=[("radicand",2),("part",3)]) (elt:=.call 6 (.cons (.var 2) .nil) .nil) (tg:=.tup (.cons (.name 2) (.cons (.name 3) .nil))) (it:=.val (.var 0)) (cd:=.some (.cmp .Gt (.var 2) (.cst (.int 1)))) (r:=[.val (sr u),.un,.un,.un,.un,.un,.un]) (ys:=Su.rep u)
  pd (fun s=>decide (1 < s.1)) (fun s=>.int (Su.lpr s.1 : Nat)) (by simp [sr,sd]) (by omega) (fun s hs=>by
   by_cases z2 : 1 < s.1
   · have z3 : (1 : Int) < (s.1 : Int):=by omega
     have e:=e_least_prime (ns:=ns) (t:=t) (k:=k) (by omega) (r:=s.1) (by omega)
     simp [pd,z2,z3,e]
   · have z3 : ¬ ((1 : Int) < (s.1 : Int)):=by omega
     simp [pd,z2,z3])
 obtain ⟨rest,hf⟩ : ∃ rest,((Su.rep u).filter fun s=>decide (1 < s.1)).map (fun s=>D.int (Su.lpr s.1 : Nat)) = .int (hdP u : Nat) :: rest:=by
  unfold hdP at h ⊢
  split at h
  · exact absurd rfl h
  · rename_i s r e
    simp only [e]
    exact ⟨_,rfl⟩
 rw [hf] at hc
 generalize hdP u = q at *
 have z0 : ((q : Nat) : Int) ≠ 0:=by omega
 have zN : q ≠ 0:=by omega
 have c1:=cfiltB (G:=gam p ns k) (cs:=csOf cst) (t:=t) (own:=[("radicand",2),("part",3)]) (elt:=.tup (.cons (.var 2) (.cons (.var 3) .nil))) (tg:=.tup (.cons (.name 2) (.cons (.name 3) .nil))) (it:=.val (.var 0)) (cd:=.some (.cmp .NotEq (.bin .Mod (.var 2) (.var 4)) (.cst (.int 0)))) (r:=[.val (sr u),.val (.lst (.int (q : Nat) :: rest)),.un,.un,.val (.int (q : Nat)),.un,.un]) (ys:=Su.rep u)
  pd (fun s=>decide (¬ q ∣ s.1)) pd (by simp [sr,sd]) (by omega) (fun s hs=>by
   have e1:=neM s.1 q
   by_cases d : q ∣ s.1
   · simp [pd,zN,e1,d,okLen]
   · simp [pd,zN,e1,d,okLen])
 have c2:=cfiltB (G:=gam p ns k) (cs:=csOf cst) (t:=t) (own:=[("radicand",2),("part",3)]) (elt:=.tup (.cons (.bin .FloorDiv (.var 2) (.var 4)) (.cons (.var 3) .nil))) (tg:=.tup (.cons (.name 2) (.cons (.name 3) .nil))) (it:=.val (.var 0)) (cd:=.some (.cmp .Eq (.bin .Mod (.var 2) (.var 4)) (.cst (.int 0)))) (r:=[.val (sr u),.val (.lst (.int (q : Nat) :: rest)),.un,.un,.val (.int (q : Nat)),.val (.lst ((Su.bareL q (Su.rep u)).map pd)),.un]) (ys:=Su.rep u)
  pd (fun s=>decide (q ∣ s.1)) (fun s=>pd (s.1 / q,s.2)) (by simp [sr,sd]) (by omega) (fun s hs=>by
   have e1:=eqM s.1 q
   have e4:=fdiv_nat s.1 q
   have okd : okDiv ((q : Nat) : Int) = true:=okDiv_ne z0
   by_cases d : q ∣ s.1
   · simp [pd,zN,e1,d,okLen,okd,e4]
   · simp [pd,zN,e1,d,okLen])
 have eo : ((Su.rep u).filter fun s=>decide (q ∣ s.1)).map (fun s=>pd (s.1 / q,s.2)) = (Su.othersL q (Su.rep u)).map pd:=by
  unfold Su.othersL
  rw [List.map_map];rfl
 rw [eo] at c2
 have lb : (Su.bareL q (Su.rep u)).length ≤ (Su.rep u).length:=List.length_filter_le _ _
 have lo : (Su.othersL q (Su.rep u)).length ≤ (Su.rep u).length:=by unfold Su.othersL;rw [List.length_map];exact List.length_filter_le _ _
 have g1:=g_gath (ns:=ns) (t:=t) (k:=k) (by omega) F (x:=Su.bareL q (Su.rep u)) (d:=.lst ((Su.bareL q (Su.rep u)).map pd)) (.inl rfl) (sz_bare h3 q) h1 h2 hn (fun s hs=>hu s (List.mem_filter.mp hs).1) (by omega)
 have g2:=g_gath (ns:=ns) (t:=t) (k:=k) (by omega) F (x:=Su.othersL q (Su.rep u)) (d:=.lst ((Su.othersL q (Su.rep u)).map pd)) (.inl rfl) (sz_others h3 (by omega)) h1 h2 hn (fun s hs=>by
  obtain ⟨w,hw,rfl⟩:=List.mem_map.mp hs
  have d : q ∣ w.1:=by simpa using (List.mem_filter.mp hw).2
  exact Nat.dvd_trans (Nat.div_dvd_of_dvd d) (hu w (List.mem_filter.mp hw).1)) (by omega)
 rw [u_parted]
 show retD (evSs _ _ b_parted [.val (sr u),.un,.un,.un,.un,.un,.un] t) = _
 unfold b_parted
 have ebl : ((Su.rep u).filter fun s=>decide (¬ q ∣ s.1)).map pd = (Su.bareL q (Su.rep u)).map pd:=rfl
 rw [ebl] at c1
 rw [seq_nx (r1:=[.val (sr u),.val (.lst (.int (q : Nat) :: rest)),.un,.un,.un,.un,.un]) (t1:=t) (by rw [evS_asg];simp [hc]),
  seq_nx (r1:=[.val (sr u),.val (.lst (.int (q : Nat) :: rest)),.un,.un,.un,.un,.un]) (t1:=t) (by simp),
  seq_nx (r1:=[.val (sr u),.val (.lst (.int (q : Nat) :: rest)),.un,.un,.val (.int (q : Nat)),.un,.un]) (t1:=t) (by simp),
  seq_nx (r1:=[.val (sr u),.val (.lst (.int (q : Nat) :: rest)),.un,.un,.val (.int (q : Nat)),.val (.lst ((Su.bareL q (Su.rep u)).map pd)),.un]) (t1:=t) (by rw [evS_asg];simp [c1]),
  seq_nx (r1:=[.val (sr u),.val (.lst (.int (q : Nat) :: rest)),.un,.un,.val (.int (q : Nat)),.val (.lst ((Su.bareL q (Su.rep u)).map pd)),.val (.lst ((Su.othersL q (Su.rep u)).map pd))]) (t1:=t) (by rw [evS_asg];simp [c2])]
 simp [g1,g2,okLen]
theorem normR_eq (q : Nat) (a b : Su.R) : Su.normR q a b = a * a + b * b * Su.rat (-((q : Nat) : Rat)):=by
 unfold Su.normR
 rw [← Su.rat_neg,Su.rat_nat];grind
theorem e_norm_of (hk : 7 ≤ k) (F : Fld m K) (hu : Su.InR m u) (hv : Su.InR m v) (bu : Su.Bt n u) (bv : Su.Bt n v) {q : Nat} (hq : q < 2 ^ 60) (hn : 4 * n + 100 ≤ 100000) : callF p ns k i_norm_of [.int (q : Nat),sr u,sr v] t = .ok (sr (Su.normR q u v)) t:=by
 obtain ⟨k,rfl⟩:=up1 (show 1 ≤ k by omega)
 have e1:=e_multiplied (ns:=ns) (t:=t) (k:=k) (by omega) F hu hu bu bu (by omega)
 have e2:=e_multiplied (ns:=ns) (t:=t) (k:=k) (by omega) F hv hv bv bv (by omega)
 have e3:=e_scaled_by (ns:=ns) (t:=t) (k:=k) (by omega) F (hv.mul F.sq hv) (bv.mul bv) (q:=-((q : Nat) : Rat)) (n':=60) (by rw [Rat.neg_den,Su.den_nat];decide) (by rw [Rat.neg_num,Rat.num_natCast,Int.natAbs_neg,Int.natAbs_natCast];omega) (by omega)
 have b3 : Su.Bt (n + n + 60) (v * v * Su.rat (-((q : Nat) : Rat))):=(bv.mul bv).mul (Su.Bt.rat (by rw [Rat.neg_den,Su.den_nat];decide) (by rw [Rat.neg_num,Rat.num_natCast,Int.natAbs_neg,Int.natAbs_natCast];omega))
 have e4:=e_added (ns:=ns) (t:=t) (k:=k) (by omega) F (hu.mul F.sq hu) ((hv.mul F.sq hv).mul F.sq (Su.InR.rat F.sq _)) (bu.mul bu) b3 (by omega)
 rw [← normR_eq] at e4
 have eq : qd (-((q : Nat) : Rat)) = .tup [.int (-(q : Nat)),.int 1]:=by
  unfold qd
  rw [Rat.neg_num,Rat.neg_den,Rat.num_natCast,Rat.den_natCast];rfl
 rw [eq] at e3
 rw [u_norm_of]
 simp [b_norm_of,e1,e2,e3,e4,okLen]
end
end Lw
namespace Lw
open PySem Fm
section
variable {ns : List Int} {t : Tw} {k : Nat} {m K : Nat} {u v : Su.R} {n n' : Nat}
theorem sr_nil : sr 0 = .tup []:=by
 unfold sr sd
 rw [Su.rep_zero];rfl
theorem gd_pd (s : Nat × Rat) : gd (pd s) = true:=by simp [pd,gd,gds,gd_qd]
theorem gd_sd {x : Su.L} (h : x.length ≤ 1000) : gd (sd x) = true:=by
 simp only [sd,gd,Bool.and_eq_true,decide_eq_true_eq,List.length_map]
 refine ⟨h,gds_of fun d hd=>?_⟩
 obtain ⟨s,_,rfl⟩:=List.mem_map.mp hd
 exact gd_pd s
theorem gd_sr (F : Fld m K) (hu : Su.InR m u) : gd (sr u) = true:=gd_sd (by have:=rep_few F hu;omega)
theorem eq_nil (F : Fld m K) (hu : Su.InR m u) : eqOp (sr u) (.tup []) = some (.bl (decide (u = 0))):=by
 have h:=gd_lay (gd_sr F hu)
 unfold sr sd at h ⊢
 rw [x_eq0 h]
 congr 2
 rw [Bool.eq_iff_iff,List.isEmpty_iff,List.map_eq_nil_iff,decide_eq_true_eq,Su.rep_nil]
end
end Lw
namespace Su
theorem few_np : ∀ {K m : Nat},Np K m → 0 < m → ∀ l : List Nat,l.Nodup → (∀ a ∈ l,a ∣ m) → l.length ≤ 2 ^ K:=by
 have base : ∀ l : List Nat,l.Nodup → (∀ a ∈ l,a ∣ 1) → l.length ≤ 1:=by
  intro l hn hd
  match l,hn,hd with
  | [],_,_=>simp
  | [a],_,_=>simp
  | a :: b :: r,hn,hd=>
   have h1:=Nat.eq_one_of_dvd_one (hd a (by simp))
   have h2:=Nat.eq_one_of_dvd_one (hd b (by simp))
   simp [h1,h2] at hn
 intro K
 induction K with
 | zero=>
  intro m hN hm l hn hd
  have : m = 1:=hN
  subst this
  exact base l hn hd
 | succ K ih=>
  intro m hN hm l hn hd
  have p1 : 1 ≤ 2 ^ (K + 1):=Nat.one_le_two_pow
  rcases hN with rfl | hN
  · exact Nat.le_trans (base l hn hd) p1
  · by_cases h1 : m = 1
    · subst h1
      exact Nat.le_trans (base l hn hd) p1
    · obtain ⟨p,hp,pm⟩:=pr_ex m (by omega)
      have p2:=hp.1
      have hN':=hN p hp pm
      have em : m = p * (m / p):=(Nat.mul_div_cancel' pm).symm
      have m0 : 0 < m / p:=Nat.div_pos (Nat.le_of_dvd hm pm) (by omega)
      have l1:=ih hN' m0 (l.filter fun a=>!decide (p ∣ a)) (hn.filter _) (fun a ha=>by
       obtain ⟨h1,h2⟩:=List.mem_filter.mp ha
       have d:=hd a h1
       rw [em] at d
       exact Nat.Coprime.dvd_of_dvd_mul_left (pr_cop hp (by simpa using h2)).symm d)
      have l2:=ih hN' m0 ((l.filter fun a=>decide (p ∣ a)).map (· / p)) (by
       rw [List.nodup_iff_pairwise_ne,List.pairwise_map]
       have hf : (l.filter fun a=>decide (p ∣ a)).Pairwise (· ≠ ·):=List.nodup_iff_pairwise_ne.mp (hn.filter _)
       refine List.Pairwise.imp_of_mem (fun {a b} ha hb hab e=>hab ?_) hf
       have d1 : p ∣ a:=by simpa using (List.mem_filter.mp ha).2
       have d2 : p ∣ b:=by simpa using (List.mem_filter.mp hb).2
       rw [← Nat.div_mul_cancel d1,← Nat.div_mul_cancel d2,e]) (fun a ha=>by
       obtain ⟨b,hb,rfl⟩:=List.mem_map.mp ha
       obtain ⟨h1,h2⟩:=List.mem_filter.mp hb
       have d1 : p ∣ b:=by simpa using h2
       have d:=hd b h1
       obtain ⟨c,hc⟩:=d
       refine ⟨c,?_⟩
       have : m / p = b * c / p:=by rw [← hc]
       rw [this,Nat.mul_comm,Nat.mul_div_assoc _ d1,Nat.mul_comm])
      rw [List.length_map] at l2
      have hl : l.length = (l.filter fun a=>decide (p ∣ a)).length + (l.filter fun a=>!decide (p ∣ a)).length:=by
       induction l with
       | nil=>rfl
       | cons a l ihl=>
        have:=ihl (List.nodup_cons.mp hn).2 (fun b hb=>hd b (List.mem_cons_of_mem _ hb)) (by
         refine Nat.le_trans (List.Sublist.length_le ?_) l1
         exact (List.sublist_cons_self a l).filter _) (by
         refine Nat.le_trans (List.Sublist.length_le ?_) l2
         exact (List.sublist_cons_self a l).filter _)
        simp only [List.filter_cons]
        by_cases d : p ∣ a <;> simp [d] <;> omega
      rw [Nat.pow_succ]
      omega
theorem pr_of {p : Nat} (h : 2 ≤ p) (hd : ∀ e,e < p + 1 → e ∣ p → e = 1 ∨ e = p) : pr p:=⟨h,fun e he=>hd e (by have:=Nat.le_of_dvd (by omega) he;omega) he⟩
theorem np210 : Np 4 210:=by
 have : (210 : Nat) = prodL [2,3,5,7]:=by decide
 rw [this]
 refine np_prod (fun q hq=>?_) (by decide)
 simp only [List.mem_cons,List.not_mem_nil,or_false] at hq
 rcases hq with rfl | rfl | rfl | rfl
 · exact pr_of (by decide) (by decide)
 · exact pr_of (by decide) (by decide)
 · exact pr_of (by decide) (by decide)
 · exact pr_of (by decide) (by decide)
theorem sqf_of {n : Nat} (h0 : 0 < n) (b : Nat) (hb : n < b * b) (h : ∀ d,d < b → d * d ∣ n → d = 1) : sqf n:=⟨h0,fun d hd=>h d (by
 have:=Nat.le_of_dvd h0 hd
 refine Classical.byContradiction fun z=>?_
 have:=Nat.mul_le_mul (show b ≤ d by omega) (show b ≤ d by omega)
 omega) hd⟩
theorem sqf210 : sqf 210:=sqf_of (by decide) 15 (by decide) (by decide)
theorem nrm_len {c : Rat} : ∀ {x : L},(∀ s ∈ x,ab s.2 * (s.1 : Rat) ≤ c) → nrm x ≤ (x.length : Rat) * c
 | [],_=>by simp only [nrm,List.length_nil];simp
 | s :: x,h=>by
  have ih:=nrm_len (x:=x) fun w hw=>h w (List.mem_cons_of_mem _ hw)
  have h1:=h s List.mem_cons_self
  obtain ⟨a,p⟩:=s
  simp only [nrm,List.length_cons,Rat.natCast_add]
  have e : ((1 : Nat) : Rat) = 1:=rfl
  rw [e]
  simp only at h1
  grind
def putS (y : L) (r : Nat) (q : Rat) : L:=if y.any (fun t=>decide (t.1 = r)) then y.map (fun t=>if t.1 = r then (t.1,q) else t) else y ++ [(r,q)]
theorem putS_keys (y : L) (r : Nat) (q : Rat) : keysL (putS y r q) = if r ∈ keysL y then keysL y else keysL y ++ [r]:=by
 unfold putS
 by_cases h : r ∈ keysL y
 · rw [if_pos (any_iff.mpr h),if_pos h]
   simp only [keysL,List.map_map]
   refine List.map_congr_left fun t _=>?_
   simp only [Function.comp]
   split <;> rfl
 · rw [if_neg (fun z=>h (any_iff.mp z)),if_neg h]
   simp [keysL]
theorem putS_nodup {y : L} (hn : (keysL y).Nodup) (r : Nat) (q : Rat) : (keysL (putS y r q)).Nodup:=by
 rw [putS_keys]
 split
 · exact hn
 · rename_i h
   rw [List.nodup_append]
   refine ⟨hn,by simp,fun a ha b hb=>?_⟩
   rw [List.mem_singleton] at hb
   subst hb
   rintro rfl
   exact h ha
theorem putS_mem {y : L} {r : Nat} {q : Rat} {s : Nat × Rat} (h : s ∈ putS y r q) : s ∈ y ∨ s = (r,q):=by
 unfold putS at h
 split at h
 · obtain ⟨w,hw,rfl⟩:=List.mem_map.mp h
   split
   · rename_i e
     exact .inr (by rw [e])
   · exact .inl hw
 · rcases List.mem_append.mp h with h | h
   · exact .inl h
   · exact .inr (List.mem_singleton.mp h)
theorem putS_len (y : L) (r : Nat) (q : Rat) : (putS y r q).length ≤ y.length + 1:=by
 unfold putS
 split <;> simp
def all (y : L) : L:=(srtN (keysL y)).map fun r=>(r,look y r)
theorem all_cn {y : L} (hn : (keysL y).Nodup) (h : ∀ s ∈ y,s.2 ≠ 0 ∧ sqf s.1) : Cn (all y):=by
 have p:=outs_perm hn
 refine ⟨?_,fun t ht=>(h t (p.mem_iff.mp ht)).1,fun t ht=>(h t (p.mem_iff.mp ht)).2⟩
 unfold all
 rw [List.pairwise_map]
 exact srtN_lt hn
end Su
namespace Lw
open PySem Fm
theorem fld_np {m K : Nat} (hs : Su.sqf m) (hn : Su.Np K m) (hK : K ≤ 5) (hm : m < 2 ^ 60) : Fld m K:=⟨hs,hn,fun l nd hd=>by
 have:=Su.few_np hn hs.1 l nd hd
 have : 2 ^ K ≤ 2 ^ 5:=Nat.pow_le_pow_right (by omega) hK
 omega,hm⟩
theorem F210 : Fld 210 4:=fld_np Su.sqf210 Su.np210 (by omega) (by decide)
section
variable {ns : List Int} {t : Tw} {k : Nat} {sc : List Int} {n : Nat}
theorem e_a_frac2 (hk : 2 ≤ k) (s : Int) (hs : 0 ≤ s ∧ s ≤ 1000) (h : rm (n + 2) t) : ∃ q t',callF p ns k i__law_a_frac [.scr sc,.tok,.int s] t = .ok (qd q) t' ∧ (q.num.natAbs : Int) ≤ s ∧ q.den ≤ 3 ∧ rm n t':=by
 obtain ⟨x,y,t',e,S,r⟩:=e_a_frac (ns:=ns) (sc:=sc) hk s hs h
 have g:=S.g
 have lo:=S.lo
 have hi:=S.hi
 have nm:=S.num
 have cp : Nat.Coprime x.natAbs y.toNat:=by
  have e1 : y.toNat = y.natAbs:=by omega
  rw [e1]
  exact g
 refine ⟨⟨x,y.toNat,by omega,cp⟩,t',?_,?_,?_,r⟩
 · rw [e]
   have ey : ((y.toNat : Nat) : Int) = y:=by omega
   unfold qd
   simp only
   rw [ey]
 · show ((x.natAbs : Nat) : Int) ≤ s
   omega
 · show y.toNat ≤ 3
   omega
theorem kv_putS (y : Su.L) (r : Nat) (q : Rat) : putD (kv y) (.inl ((r : Nat) : Int)) (qd q) = kv (Su.putS y r q):=by
 unfold putD Su.putS
 rw [kv_any]
 split
 · unfold kv
   rw [List.map_map,List.map_map]
   refine List.map_congr_left fun s _=>?_
   simp only [Function.comp,Sum.inl.injEq]
   by_cases h : s.1 = r
   · rw [if_pos (by omega),if_pos h]
   · rw [if_neg (by omega),if_neg h]
 · unfold kv
   rw [List.map_append]
   rfl
def R8 : List Nat:=[1,2,3,5,6,7,10,30]
structure Drw (s : Nat × Rat) : Prop where
 r : s.1 ∈ R8
 z : s.2 ≠ 0
 n : s.2.num.natAbs ≤ 5
 d : s.2.den ≤ 3
theorem R8_ok {r : Nat} (h : r ∈ R8) : r ∣ 210 ∧ r ≤ 30 ∧ 0 < r:=by
 have : ∀ r ∈ R8,r ∣ 210 ∧ r ≤ 30 ∧ 0 < r:=by decide
 exact this r h
theorem Drw.sq {s : Nat × Rat} (h : Drw s) : Su.sqf s.1:=Su.sqf_dvd Su.sqf210 (R8_ok h.r).1
theorem drawn_u {y : Su.L} (hn : (Su.keysL y).Nodup) (h : ∀ s ∈ y,Drw s) (hl : y.length ≤ 4) : ∃ u,Su.rep u = Su.all y ∧ Su.InR 210 u ∧ Su.Bt 10 u ∧ (∀ s ∈ Su.rep u,Drw s):=by
 have cn:=Su.all_cn hn fun s hs=>⟨(h s hs).z,(h s hs).sq⟩
 have pm:=Su.outs_perm hn
 have er:=Su.rep_of cn
 refine ⟨Su.cl (Su.all y),er,fun s hs=>?_,⟨6,by decide,by decide,?_⟩,fun s hs=>h s (pm.mem_iff.mp (by rw [er] at hs;exact hs))⟩
 · rw [er] at hs
   exact (R8_ok (h s (pm.mem_iff.mp hs)).r).1
 · unfold Su.SzR
   rw [er]
   refine ⟨fun s hs=>?_,?_⟩
   · have:=h s (pm.mem_iff.mp hs)
     have d:=this.d
     have d0:=s.2.den_pos
     have : s.2.den = 1 ∨ s.2.den = 2 ∨ s.2.den = 3:=by omega
     rcases this with e | e | e <;> rw [e] <;> decide
   · have hb : Su.nrm y ≤ (y.length : Rat) * 150:=Su.nrm_len fun s hs=>by
      have D:=h s hs
      have r30:=Su.cast_le (R8_ok D.r).2.1
      have a5 : Su.ab s.2 ≤ 5:=by
       have h5:=Su.ab_rat_num s.2
       have d1 : (1 : Rat) ≤ s.2.den:=by have:=Su.cast_le s.2.den_pos;simpa using this
       have:=Rat.mul_le_mul_of_nonneg_left d1 (Su.ab_nn s.2)
       have:=Su.cast_le D.n
       have e5 : ((5 : Nat) : Rat) = 5:=rfl
       grind
      have e30 : ((30 : Nat) : Rat) = 30:=rfl
      rw [e30] at r30
      have:=Su.mulle a5 r30 (Su.ab_nn s.2) (by decide)
      grind
     have hp : Su.nrm (Su.all y) = Su.nrm y:=Su.nrm_perm pm
     rw [hp]
     have l4:=Su.cast_le hl
     have e4 : ((4 : Nat) : Rat) = 4:=rfl
     have e10 : ((2 ^ 10 : Nat) : Rat) = 1024:=rfl
     rw [e4] at l4
     rw [e10]
     grind
theorem surd_turn (hk : 2 ≤ k) {w2 w4 w5 w6 : Sl} {y : Su.L} (hn : (Su.keysL y).Nodup) (h : ∀ s ∈ y,Drw s) (hl : y.length ≤ 10) (hr : rm (n + 3) t) :
  ∃ y' w5' t',evSs (gam p ns k) (csOf cst) b__law_a_surd_1 [.val (.scr sc),.val .tok,w2,.own (.dct (kv y)),w4,w5,w6] t = .ok (.nx,[.val (.scr sc),.val .tok,w2,.own (.dct (kv y')),w4,w5',w6]) t' ∧ (Su.keysL y').Nodup ∧ (∀ s ∈ y',Drw s) ∧ y'.length ≤ y.length + 1 ∧ rm n t':=by
 obtain ⟨q,t1,e1,b1,b2,r1⟩:=e_a_frac2 (ns:=ns) (sc:=sc) (n:=n + 1) hk 5 (by omega) (hr.le (by omega))
 by_cases z : q = 0
 · have z' : q.num = 0:=by rw [z];rfl
   refine ⟨y,.val (qd q),t1,?_,hn,h,by omega,r1.le (by omega)⟩
   unfold qd at e1 ⊢
   simp [b__law_a_surd_1,e1,z']
 · have z' : ¬ (q.num = 0):=fun e=>z (Rat.num_eq_zero.mp e)
   obtain ⟨v,t2,e2,lo,hi,r2⟩:=e_draw (ns:=ns) (sc:=sc) (k:=k) (n:=n) (by omega) 8 (by omega) (by omega) r1
   have hv : v = 0 ∨ v = 1 ∨ v = 2 ∨ v = 3 ∨ v = 4 ∨ v = 5 ∨ v = 6 ∨ v = 7:=by omega
   obtain ⟨r,hR,er⟩ : ∃ r,r ∈ R8 ∧ ixD (.lst [.int 1,.int 2,.int 3,.int 5,.int 6,.int 7,.int 10,.int 30]) (.int v) = some (.int ((r : Nat) : Int)):=by
    rcases hv with rfl | rfl | rfl | rfl | rfl | rfl | rfl | rfl
    · exact ⟨1,by decide,rfl⟩
    · exact ⟨2,by decide,rfl⟩
    · exact ⟨3,by decide,rfl⟩
    · exact ⟨5,by decide,rfl⟩
    · exact ⟨6,by decide,rfl⟩
    · exact ⟨7,by decide,rfl⟩
    · exact ⟨10,by decide,rfl⟩
    · exact ⟨30,by decide,rfl⟩
   refine ⟨Su.putS y r q,.val (qd q),t2,?_,Su.putS_nodup hn r q,fun s hs=>?_,Su.putS_len y r q,r2⟩
   · have hle : (kv y).length < 16777216:=by simp only [kv,List.length_map];omega
     have ep:=kv_putS y r q
     unfold qd at e1 ep ⊢
     simp [b__law_a_surd_1,e1,z',e2,er,hle,ep,okLen]
   · rcases Su.putS_mem hs with hs | rfl
     · exact h s hs
     · exact ⟨hR,z,by show q.num.natAbs ≤ 5;omega,b2⟩
theorem e_a_surd3 (hk : 3 ≤ k) {most : Nat} (hm : most ≤ 4) (hr : rm (n + 13) t) : ∃ u t',callF p ns k i__law_a_surd [.scr sc,.tok,.int (most : Nat)] t = .ok (sr u) t' ∧ Su.InR 210 u ∧ Su.Bt 10 u ∧ (∀ s ∈ Su.rep u,Drw s) ∧ (Su.rep u).length ≤ most ∧ rm n t':=by
 obtain ⟨k,rfl⟩:=up1 (show 1 ≤ k by omega)
 obtain ⟨v,t1,e1,lo,hi,r1⟩:=e_draw (ns:=ns) (sc:=sc) (k:=k) (n:=n + 12) (by omega) ((most : Nat) + 1 : Int) (by omega) (by omega) hr
 rw [u__law_a_surd]
 obtain ⟨j,rfl⟩ : ∃ j : Nat,v = (j : Int):=⟨v.toNat,by omega⟩
 have loop : ∀ (j : Nat) (i : Int) (y : Su.L) (w4 w5 w6 : Sl) (t : Tw) (c : Nat),(Su.keysL y).Nodup → (∀ s ∈ y,Drw s) → y.length + j ≤ c → c ≤ 4 → rm (n + 3 * j) t →
   ∃ y' w4' w5' t',loopF (lq ns k (.name 4) b__law_a_surd_1) (rngD i j) [.val (.scr sc),.val .tok,.val (.int (most : Nat)),.own (.dct (kv y)),w4,w5,w6] t = .ok (.nx,[.val (.scr sc),.val .tok,.val (.int (most : Nat)),.own (.dct (kv y')),w4',w5',w6]) t' ∧ (Su.keysL y').Nodup ∧ (∀ s ∈ y',Drw s) ∧ y'.length ≤ c ∧ rm n t':=by
  intro j
  induction j with
  | zero=>
   intro i y w4 w5 w6 t c h1 h2 h3 h4 h5
   exact ⟨y,w4,w5,t,rfl,h1,h2,by omega,h5.le (by omega)⟩
  | succ j ih=>
   intro i y w4 w5 w6 t c h1 h2 h3 h4 h5
   have er : rngD i (j + 1) = .int i :: rngD (i + 1) j:=by
    unfold rngD
    rw [List.range_succ_eq_map,List.map_cons,List.map_map]
    simp only [Int.natCast_zero,Int.add_zero,List.cons.injEq,true_and]
    refine List.map_congr_left fun a _=>?_
    simp only [Function.comp,D.int.injEq]
    omega
   obtain ⟨y1,v5,t2,e2,a1,a2,a3,a4⟩:=surd_turn (ns:=ns) (sc:=sc) (k:=k) (n:=n + 3 * j) (by omega) (w2:=.val (.int (most : Nat))) (w4:=.val (.int i)) (w5:=w5) (w6:=w6) h1 h2 (by omega) (h5.le (by omega))
   obtain ⟨y',w4',w5',t',e3,b1,b2,b3,b4⟩:=ih (i + 1) y1 (.val (.int i)) v5 w6 t2 c a1 a2 (by omega) h4 a4
   refine ⟨y',w4',w5',t',?_,b1,b2,b3,b4⟩
   rw [er,loopF,lq_eq (r1:=[.val (.scr sc),.val .tok,.val (.int (most : Nat)),.own (.dct (kv y)),.val (.int i),w5,w6]) rfl,e2]
   exact e3
 obtain ⟨y,w4,w5,t2,e2,nd,dr,ly,r2⟩:=loop j 0 [] .un .un .un t1 most (by simp [Su.keysL]) (fun _ z=>by cases z) (by simp;omega) hm (r1.le (by omega))
 obtain ⟨u,er,iu,bu,du⟩:=drawn_u nd dr (by omega)
 have lu : (Su.rep u).length ≤ most:=by
  rw [er]
  unfold Su.all
  rw [List.length_map,(Su.srtN_perm _).length_eq]
  simp only [Su.keysL,List.length_map]
  exact ly
 refine ⟨u,t2,?_,iu,bu,du,lu,r2⟩
 have okr : okRng ((j : Nat) : Int) = true:=by
  simp only [okRng,Bool.and_eq_true,decide_eq_true_eq]
  omega
 have lk : (Su.keysL y).length < 64:=by simp only [Su.keysL,List.length_map];omega
 have hsr : blt1 .sorted (.dct (kv y)) = some (.lst ((Su.srtN (Su.keysL y)).map fun a=>D.int ((a : Nat) : Int))):=by
  simp only [blt1,kv_keys,Option.bind_some,List.length_map]
  rw [if_pos (decide_eq_true lk),srtI_nat,List.map_map]
  rfl
 have hmem : ∀ a ∈ Su.srtN (Su.keysL y),a ∈ Su.keysL y:=fun a ha=>(Su.srtN_perm _).mem_iff.mp ha
 have hc:=cmapB (G:=gam p ns k) (cs:=csOf cst) (t:=t2) (own:=[("radicand",6)]) (elt:=.tup (.cons (.var 6) (.cons (.dix (.bor 3) (.var 6)) .nil))) (tg:=.name 6) (it:=.val (.blt .sorted (.bor 3))) (cd:=.none) (r:=[.val (.scr sc),.val .tok,.val (.int (most : Nat)),.own (.dct (kv y)),w4,w5,.un]) (ys:=Su.srtN (Su.keysL y))
  (fun a=>D.int ((a : Nat) : Int)) (fun a=>pd (a,Su.look y a)) (by simp [hsr]) (by rw [(Su.srtN_perm _).length_eq];omega) (fun a ha=>by
   have e2:=kv_some (hmem a ha)
   simp [e2,pd,okLen])
 show retD (evSs _ _ b__law_a_surd [.val (.scr sc),.val .tok,.val (.int (most : Nat)),.un,.un,.un,.un] t) = _
 unfold b__law_a_surd
 rw [seq_nx (r1:=[.val (.scr sc),.val .tok,.val (.int (most : Nat)),.own (.dct (kv [])),.un,.un,.un]) (t1:=t) (by simp [mergeD,kv]),
  seq_nx (r1:=[.val (.scr sc),.val .tok,.val (.int (most : Nat)),.own (.dct (kv y)),w4,w5,.un]) (t1:=t2) (by
   rw [for_lq (xs:=rngD 0 j) (t1:=t1) (by simp [e1,okr])]
   exact e2)]
 have es : sr u = .tup ((Su.srtN (Su.keysL y)).map fun a=>pd (a,Su.look y a)):=by
  unfold sr sd
  rw [er]
  unfold Su.all
  rw [List.map_map]
  rfl
 rw [es]
 simp [hc]
end
end Lw
namespace Lw
open PySem Fm
section
variable {m K : Nat} {u v : Su.R}
end
end Lw
namespace Su
theorem num_pos {q : Rat} : 0 < q ↔ 0 < q.num:=by
 have h1:=Rat.num_nonneg (q:=q)
 have h2:=Rat.num_eq_zero (q:=q)
 constructor
 · intro h
   have a:=h1.mpr (by grind)
   have b : q.num ≠ 0:=fun z=>by have:=h2.mp z;grind
   omega
 · intro h
   have a:=h1.mp (by omega)
   have b : q ≠ 0:=fun z=>by have:=h2.mpr z;omega
   grind
inductive Ro where
 | noRoot | noForm
 | told (v : R)
noncomputable def two (b c l : Rat) : R:=rtR ((b + l) * (1/2)) + (if 0 < c then rtR ((b - l) * (1/2)) else -rtR ((b - l) * (1/2)))
end Su
namespace Lw
open PySem Fm
section
variable {ns : List Int} {t : Tw} {k : Nat} {m K : Nat} {u v : Su.R} {n n' : Nat}
theorem in_two (s f : Int) : inB (.int s) (.tup [.int 0,.int f]) = some (decide (s = 0 ∨ s = f)):=by
 have e : ∀ i j : Int,eqD (.int i) (.int j) = decide (i = j):=fun i j=>by simp only [eqD,D.py,PyData.eqv];rw [Bool.eq_iff_iff];simp
 simp [inB,lay,D.py,PyData.canLay0,dep,PyData.depth,e]
 by_cases h1 : s = 0 <;> by_cases h2 : s = f <;> simp [h1,h2] <;> omega
theorem sgn_bd (u : Su.R) : Su.sgn u = 1 ∨ Su.sgn u = 0 ∨ Su.sgn u = -1:=by
 rcases Su.sgn_cases u with ⟨_,h⟩ | ⟨_,h⟩ | ⟨_,h⟩ <;> simp [h]
theorem e_sign (F : Fld m K) : ∀ (j : Nat) {m' : Nat},Su.Np j m' → Su.sqf m' → m' ∣ m → ∀ {k : Nat} {u : Su.R} {n : Nat},8 + j ≤ k → Su.InR m' u → Su.Bt n u → 4 * n * 2 ^ j + 200 ≤ 100000 →
  callF p ns k i_sign [sr u] t = .ok (.int (Su.sgn u)) t
 | j,m',hN,hs,hd,k,u,n,hk,hu,bu,hn=>by
  have hum : Su.InR m u:=hu.le hd
  obtain ⟨k,rfl⟩:=up1 (show 1 ≤ k by omega)
  have hp2 : 1 ≤ 2 ^ j:=Nat.one_le_two_pow
  have hnn : 4 * n ≤ 4 * n * 2 ^ j:=Nat.le_mul_of_pos_right _ (by omega)
  have e0:=eq_nil F hum
  by_cases h0 : u = 0
  · subst h0
    rw [sr_nil] at e0 ⊢
    rw [u_sign,Su.sgn_zero]
    simp [b_sign,e0]
  have e0' : decide (u = 0) = false:=decide_eq_false h0
  by_cases hP : hdP u = 1
  · obtain ⟨q,rfl⟩:=hdP_one hP
    have hq : q ≠ 0:=fun z=>h0 (by rw [z];rfl)
    have ep:=e_parted0 (ns:=ns) (t:=t) (k:=k) (by omega) hP (by have:=rep_few F hum;omega)
    have er : sr (Su.rat q) = .tup [.tup [.int 1,.tup [.int q.num,.int (q.den : Int)]]]:=by
     unfold sr sd
     rw [Su.rep_rat hq];rfl
    rw [er] at e0 ep ⊢
    rw [u_sign,Su.sgn_rat]
    by_cases z : 0 < q
    · have zn : 0 < q.num:=Su.num_pos.mp z
      simp [b_sign,e0,e0',ep,z,zn]
    · have z2 : q < 0:=by grind
      have zn : ¬ (0 < q.num):=fun y=>z (Su.num_pos.mpr y)
      simp [b_sign,e0,e0',ep,z,z2,zn]
  · have P:=hdP_part hP
    obtain ⟨pm,sq',ia,ib,inn⟩:=P.inn hs hu
    obtain ⟨ba,bb,bn,bt⟩:=bu.part P.pr
    have qm : hdP u ≤ m:=Nat.le_of_dvd F.sq.1 (Nat.dvd_trans pm hd)
    have small:=F.small
    have es:=P.sgn
    have ep:=e_parted (ns:=ns) (t:=t) (k:=k) (by omega) F hum bu (by omega) hP
    have dv : m' / hdP u ∣ m:=Nat.dvd_trans (Nat.div_dvd_of_dvd pm) hd
    have p2:=P.pr.1
    have q1 : ¬ (hdP u = 1):=hP
    have pr1:=P.pr
    generalize hdP u = q at *
    generalize Su.cl (Su.bareL q (Su.rep u)) = a at *
    generalize Su.cl (Su.othersL q (Su.rep u)) = b at *
    have iam:=ia.le dv
    have ibm:=ib.le dv
    have en:=e_norm_of (ns:=ns) (t:=t) (k:=k) (by omega) F iam ibm ba bb (q:=q) (by omega) (by omega)
    cases j with
    | zero=>
     have : m' = 1:=hN
     subst this
     have:=Nat.le_of_dvd (by decide) pm
     omega
    | succ j=>
     have hN' : Su.Np j (m' / q):=by
      rcases hN with z | z
      · subst z
        have:=Nat.le_of_dvd (by decide) pm
        omega
      · exact z q pr1 pm
     have hpow : 4 * (2 * n) * 2 ^ j = 4 * n * 2 ^ (j + 1):=by rw [Nat.pow_succ];grind
     have hpow2 : 4 * n * 2 ^ j ≤ 4 * n * 2 ^ (j + 1):=Nat.mul_le_mul_left _ (Nat.pow_le_pow_right (by omega) (by omega))
     have s1:=e_sign F j hN' sq' dv (k:=k) (by omega) ia ba (by omega)
     have s2:=e_sign F j hN' sq' dv (k:=k) (by omega) ib bb (by omega)
     have s3:=e_sign F j hN' sq' dv (k:=k) (by omega) inn bn (by omega)
     have q2 : ¬ ((q : Int) = 1):=by omega
     have it:=in_two (Su.sgn b) (Su.sgn a)
     have d1:=sgn_bd a
     have d3:=sgn_bd (Su.normR q a b)
     rw [u_sign,es]
     generalize Su.sgn a = x at *
     generalize Su.sgn b = y at *
     generalize Su.sgn (Su.normR q a b) = z at *
     unfold Su.signF
     have om : okMul x z = true:=okMul_of (k:=2) (l:=2) (by omega) (by omega) (by omega) (by omega) (by omega)
     by_cases c1 : y = 0 ∨ y = x
     · simp [b_sign,e0,e0',ep,q2,s1,s2,it,c1]
     · by_cases c2 : x = 0
       · subst c2
         have c3 : ¬ (y = 0):=fun z=>c1 (.inl z)
         simp [b_sign,e0,e0',ep,q2,s1,s2,it,c3]
       · simp [b_sign,e0,e0',ep,q2,s1,s2,it,c1,c2,en,s3,om]
theorem e_sign' (F : Fld m K) (hk : 8 + K ≤ k) (hu : Su.InR m u) (bu : Su.Bt n u) (hn : 4 * n * 2 ^ K + 200 ≤ 100000) : callF p ns k i_sign [sr u] t = .ok (.int (Su.sgn u)) t:=e_sign F K F.np F.sq (Nat.dvd_refl _) hk hu bu hn
theorem e_below (F : Fld m K) (hk : 9 + K ≤ k) (hu : Su.InR m u) (hv : Su.InR m v) (bu : Su.Bt n u) (bv : Su.Bt n' v) (hn : 4 * (n + n' + 1) * 2 ^ K + 200 ≤ 100000) : callF p ns k i_below [sr u,sr v] t = .ok (.bl (decide (u < v))) t:=by
 obtain ⟨k,rfl⟩:=up1 (show 1 ≤ k by omega)
 have hp2 : 1 ≤ 2 ^ K:=Nat.one_le_two_pow
 have hnn : 4 * (n + n' + 1) ≤ 4 * (n + n' + 1) * 2 ^ K:=Nat.le_mul_of_pos_right _ (by omega)
 have e1:=e_opposite (ns:=ns) (t:=t) (k:=k) (by omega) F hv bv (by omega)
 have e2:=e_added (ns:=ns) (t:=t) (k:=k) (by omega) F hu (hv.neg F.sq) bu bv.neg (by omega)
 have e3:=e_sign' (ns:=ns) (t:=t) (k:=k) F (by omega) (hu.add F.sq (hv.neg F.sq)) (bu.add bv.neg) hn
 have e4 : decide (Su.sgn (u + -v) < 0) = decide (u < v):=by
  rw [Bool.eq_iff_iff,decide_eq_true_eq,decide_eq_true_eq,Su.sgn_lt]
  constructor <;> intro h <;> grind
 rw [u_below]
 simp [b_below,e1,e2,e3,e4]
end
end Lw
namespace Su
theorem fl_of {N s : Nat} (h1 : s * s ≤ N) (h2 : N < (s + 1) * (s + 1)) : s = fl N:=by
 obtain ⟨g1,g2⟩:=fl_sq N
 rcases Nat.lt_trichotomy s (fl N) with h | h | h
 · have:=Nat.mul_le_mul (show s + 1 ≤ fl N from h) (show s + 1 ≤ fl N from h)
   omega
 · exact h
 · have:=Nat.mul_le_mul (show fl N + 1 ≤ s from h) (show fl N + 1 ≤ s from h)
   omega
theorem flr_bd {n : Nat} {u : R} (h : Bt n u) : (flr u).natAbs ≤ 2 ^ n + 1:=by
 obtain ⟨D,_,_,hs⟩:=h
 obtain ⟨h1,h2⟩:=cl_bd (rep u)
 rw [rep_cl] at h1 h2
 have h3:=hs.up
 have g1 : u ≤ rat ((2 ^ n : Nat) : Rat):=le_tr h1 (rat_le.mpr h3)
 have g2 : -u ≤ rat ((2 ^ n : Nat) : Rat):=le_tr h2 (rat_le.mpr h3)
 obtain ⟨f1,f2⟩:=flr_spec u
 have e1:=le_tr f1 g1
 rw [rat_le] at e1
 have e2 : -rat ((2 ^ n : Nat) : Rat) < rat ((flr u + 1 : Int) : Rat):=by grind
 rw [rat_neg,rat_lt] at e2
 have e1' : flr u ≤ ((2 ^ n : Nat) : Int):=by
  have : ((flr u : Int) : Rat) ≤ (((2 ^ n : Nat) : Int) : Rat):=by rw [Rat.intCast_natCast];exact e1
  exact Rat.intCast_le_intCast.mp this
 have e2' : -((2 ^ n : Nat) : Int) < flr u + 1:=by
  have : ((-((2 ^ n : Nat) : Int) : Int) : Rat) < ((flr u + 1 : Int) : Rat):=by
   rw [Rat.intCast_neg,Rat.intCast_natCast];exact e2
  exact Rat.intCast_lt_intCast.mp this
 omega
theorem bt_int {n : Nat} {g : Int} (h : g.natAbs ≤ 2 ^ n) : Bt n (rat (g : Rat)):=Bt.rat (by rw [Rat.den_intCast];exact Nat.one_le_two_pow) (by rw [Rat.num_intCast];exact h)
end Su
namespace Lw
open PySem Fm
section
variable {ns : List Int} {t : Tw} {k : Nat} {m K : Nat} {u v : Su.R} {n n' : Nat}
theorem qd_int (g : Int) : qd (g : Rat) = .tup [.int g,.int 1]:=by
 unfold qd
 rw [Rat.num_intCast,Rat.den_intCast];rfl
theorem wr_1 {N : Nat} (hN : N < 2 ^ 400000) (w : Sl) : ∀ (c h : Nat),N + 1 ≤ c + h → 1 ≤ h → h ≤ 2 * N + 1 → ∃ h' : Nat,loopW (ev (gam p ns k) (csOf cst) (.cmp .LtE (.bin .Mult (.var 2) (.var 2)) (.var 0))) (evSs (gam p ns k) (csOf cst) b_whole_root_1) [.val (.int (N : Nat)),.val (.int 0),.val (.int (h : Nat)),w] t = .ok (.nx,[.val (.int (N : Nat)),.val (.int 0),.val (.int (h' : Nat)),w]) t ∧ N < h' * h' ∧ 1 ≤ h' ∧ h' ≤ 2 * N + 1:=by
 intro c
 induction c with
 | zero=>
  intro h hc h1 h2
  have big : N < h * h:=by
   have:=Nat.mul_le_mul_left h h1
   omega
  have om : okMul ((h : Nat) : Int) ((h : Nat) : Int) = true:=okMul_of (k:=400002) (l:=400002) (by rw [Int.natAbs_natCast];omega) (by rw [Int.natAbs_natCast];omega) (by omega) (by omega) (by omega)
  have big' : ¬ (((h * h : Nat) : Int) ≤ (N : Int)):=by omega
  rw [Int.natCast_mul] at big'
  exact ⟨h,while_f (by simp [om,big']),big,h1,h2⟩
 | succ c ih=>
  intro h hc h1 h2
  have om : okMul ((h : Nat) : Int) ((h : Nat) : Int) = true:=okMul_of (k:=400002) (l:=400002) (by rw [Int.natAbs_natCast];omega) (by rw [Int.natAbs_natCast];omega) (by omega) (by omega) (by omega)
  have om2 : okMul ((h : Nat) : Int) 2 = true:=okMul_of (k:=400002) (l:=2) (by rw [Int.natAbs_natCast];omega) (by omega) (by omega) (by omega) (by omega)
  by_cases q : h * h ≤ N
  · have q' : ((h * h : Nat) : Int) ≤ (N : Int):=by omega
    rw [Int.natCast_mul] at q'
    have hN2 : h ≤ N:=by
     have:=Nat.mul_le_mul_left h h1
     omega
    obtain ⟨h',e1,e2,e3,e4⟩:=ih (h * 2) (by omega) (by omega) (by omega)
    refine ⟨h',?_,e2,e3,e4⟩
    have ec : ev (gam p ns k) (csOf cst) (.cmp .LtE (.bin .Mult (.var 2) (.var 2)) (.var 0)) [.val (.int (N : Nat)),.val (.int 0),.val (.int (h : Nat)),w] t = .ok (.bl true) t:=by
     simp [om,q']
    have eb : evSs (gam p ns k) (csOf cst) b_whole_root_1 [.val (.int (N : Nat)),.val (.int 0),.val (.int (h : Nat)),w] t = .ok (.nx,[.val (.int (N : Nat)),.val (.int 0),.val (.int ((h * 2 : Nat) : Int)),w]) t:=by
     simp [b_whole_root_1,om2]
    rw [while_t ec eb]
    exact e1
  · have big' : ¬ (((h * h : Nat) : Int) ≤ (N : Int)):=by omega
    rw [Int.natCast_mul] at big'
    exact ⟨h,while_f (by simp [om,big']),by omega,h1,h2⟩
theorem wr_2 {N : Nat} (hN : N < 2 ^ 400000) : ∀ (c l h : Nat) (w : Sl),h ≤ c + l → l < h → l * l ≤ N → N < h * h → h ≤ 2 * N + 1 → ∃ w' x',loopW (ev (gam p ns k) (csOf cst) (.cmp .Gt (.bin .Sub (.var 2) (.var 1)) (.cst (.int 1)))) (evSs (gam p ns k) (csOf cst) b_whole_root_2) [.val (.int (N : Nat)),.val (.int (l : Nat)),.val (.int (h : Nat)),w] t = .ok (.nx,[.val (.int (N : Nat)),.val (.int (Su.fl N : Nat)),x',w']) t:=by
 intro c
 induction c with
 | zero=>intro l h w h1 h2;omega
 | succ c ih=>
  intro l h w h1 h2 h3 h4 h5
  by_cases q : 1 < h - l
  · have q' : (1 : Int) < (h : Int) - (l : Int):=by omega
    have ec : ev (gam p ns k) (csOf cst) (.cmp .Gt (.bin .Sub (.var 2) (.var 1)) (.cst (.int 1))) [.val (.int (N : Nat)),.val (.int (l : Nat)),.val (.int (h : Nat)),w] t = .ok (.bl true) t:=by
     simp [q']
    have md : ((l : Int) + (h : Int)).fdiv 2 = (((l + h) / 2 : Nat) : Int):=by
     have:=fdiv_nat (l + h) 2
     rw [Int.natCast_add] at this
     exact this
    have ok2 : okDiv 2 = true:=rfl
    have m1 : l < (l + h) / 2:=by omega
    have m2 : (l + h) / 2 < h:=by omega
    generalize (l + h) / 2 = j at *
    have om : okMul ((j : Nat) : Int) ((j : Nat) : Int) = true:=okMul_of (k:=400002) (l:=400002) (by rw [Int.natAbs_natCast];omega) (by rw [Int.natAbs_natCast];omega) (by omega) (by omega) (by omega)
    by_cases z : j * j ≤ N
    · have z' : ((j * j : Nat) : Int) ≤ (N : Int):=by omega
      rw [Int.natCast_mul] at z'
      obtain ⟨w',x',e⟩:=ih j h (.val (.int (j : Nat))) (by omega) (by omega) z h4 h5
      refine ⟨w',x',?_⟩
      rw [while_t ec (r1:=[.val (.int (N : Nat)),.val (.int (j : Nat)),.val (.int (h : Nat)),.val (.int (j : Nat))]) (t2:=t) (by simp [b_whole_root_2,md,ok2,om,z'])]
      exact e
    · have z' : ¬ (((j * j : Nat) : Int) ≤ (N : Int)):=by omega
      rw [Int.natCast_mul] at z'
      obtain ⟨w',x',e⟩:=ih l j (.val (.int (j : Nat))) (by omega) (by omega) h3 (by omega) (by omega)
      refine ⟨w',x',?_⟩
      rw [while_t ec (r1:=[.val (.int (N : Nat)),.val (.int (l : Nat)),.val (.int (j : Nat)),.val (.int (j : Nat))]) (t2:=t) (by simp [b_whole_root_2,md,ok2,om,z'])]
      exact e
  · have e : h = l + 1:=by omega
    subst e
    rw [← Su.fl_of h3 h4]
    have q' : ¬ ((1 : Int) < ((l + 1 : Nat) : Int) - (l : Int)):=by omega
    have q'' : ((l : Int) + 1 - (l : Int)) = 1:=by omega
    exact ⟨w,.val (.int ((l + 1 : Nat) : Int)),while_f (by simp [q''])⟩
theorem e_whole_root (hk : 1 ≤ k) {N : Nat} (hN : N < 2 ^ 400000) : callF p ns k i_whole_root [.int (N : Nat)] t = .ok (.int (Su.fl N : Nat)) t:=by
 obtain ⟨k,rfl⟩:=up1 hk
 obtain ⟨h',a1,a2,a3,a4⟩:=wr_1 (ns:=ns) (t:=t) (k:=k) hN .un N 1 (by omega) (by omega) (by omega)
 obtain ⟨w',x',b1⟩:=wr_2 (ns:=ns) (t:=t) (k:=k) hN h' 0 h' .un (by omega) (by omega) (by omega) a2 a4
 rw [u_whole_root]
 show retD (evSs _ _ b_whole_root [.val (.int (N : Nat)),.un,.un,.un] t) = _
 unfold b_whole_root
 rw [seq_nx (r1:=[.val (.int (N : Nat)),.val (.int 0),.val (.int ((1 : Nat) : Int)),.un]) (t1:=t) (by simp [okLen]),seq_nx (r1:=[.val (.int (N : Nat)),.val (.int ((0 : Nat) : Int)),.val (.int (h' : Nat)),.un]) (t1:=t) (by rw [evS_while];exact a1),seq_nx (r1:=[.val (.int (N : Nat)),.val (.int (Su.fl N : Nat)),x',w']) (t1:=t) (by rw [evS_while];exact b1)]
 simp
theorem fl_le (N : Nat) : Su.fl N ≤ N:=by
 have:=(Su.fl_sq N).1
 rcases Nat.eq_zero_or_pos (Su.fl N) with z | z
 · omega
 · have:=Nat.le_mul_of_pos_left (Su.fl N) z
   omega
theorem fdiv_le (a b : Int) (h : 0 < b) : (a.fdiv b).natAbs ≤ a.natAbs:=by
 rw [Int.fdiv_eq_ediv_of_nonneg _ (by omega)]
 exact Int.natAbs_ediv_le_natAbs a b
theorem fl_for (hk : 1 ≤ k) {N : Nat} (hN : N ≤ 100000) {d0 : D} : ∀ (x : Su.L) (g : Int) (w2 w3 : Sl),(∀ s ∈ x,s.1 < 2 ^ 60 ∧ 0 < s.1 ∧ qs N s.2) → ∃ (g' : Int) (w2' w3' : Sl),loopF (lq ns k (.tup (.cons (.name 2) (.cons (.name 3) .nil))) b_floor_1) (x.map pd) [.val d0,.val (.int g),w2,w3] t = .ok (.nx,[.val d0,.val (.int g'),w2',w3']) t ∧ g'.natAbs ≤ g.natAbs + x.length * 2 ^ (N + 110)
 | [],g,w2,w3,_=>⟨g,w2,w3,rfl,by simp⟩
 | s :: x,g,w2,w3,h=>by
  obtain ⟨s1,s2,s3⟩:=h s List.mem_cons_self
  have R1 : s.1 * 16777216 * 16777216 < 2 ^ 400000:=by
   have : s.1 * 16777216 * 16777216 < 2 ^ 110:=by omega
   exact Nat.lt_of_lt_of_le this (Nat.pow_le_pow_right (by omega) (by omega))
  have er:=e_whole_root (ns:=ns) (t:=t) (k:=k) hk R1
  have fle:=fl_le (s.1 * 16777216 * 16777216)
  have c1 : ((s.1 : Nat) : Int) * 16777216 * 16777216 = ((s.1 * 16777216 * 16777216 : Nat) : Int):=by omega
  rw [← c1] at er
  have om1 : okMul ((s.1 : Nat) : Int) 16777216 = true:=okMul_of (k:=60) (l:=30) (by omega) (by decide) (by omega) (by omega) (by omega)
  have om2 : okMul (((s.1 : Nat) : Int) * 16777216) 16777216 = true:=okMul_of (k:=110) (l:=30) (by omega) (by decide) (by omega) (by omega) (by omega)
  have f110 : Su.fl (s.1 * 16777216 * 16777216) < 2 ^ 110:=by omega
  generalize Su.fl (s.1 * 16777216 * 16777216) = f at *
  have om3 : okMul s.2.num ((f : Nat) : Int) = true:=okMul_of (k:=N + 1) (l:=110) (by have:=s3.1;have : 2 ^ N ≤ 2 ^ (N + 1):=Nat.pow_le_pow_right (by omega) (by omega);omega) (by omega) (by omega) (by omega) (by omega)
  have om4 : okMul ((s.2.den : Nat) : Int) 16777216 = true:=okMul_of (k:=N + 1) (l:=30) (by have:=s3.2;have : 2 ^ N ≤ 2 ^ (N + 1):=Nat.pow_le_pow_right (by omega) (by omega);omega) (by decide) (by omega) (by omega) (by omega)
  have dp:=s.2.den_pos
  have d0' : okDiv (((s.2.den : Nat) : Int) * 16777216) = true:=okDiv_ne (by omega)
  have fd:=fdiv_le (s.2.num * ((f : Nat) : Int)) (((s.2.den : Nat) : Int) * 16777216) (by omega)
  have pb : (s.2.num * ((f : Nat) : Int)).natAbs ≤ 2 ^ (N + 110):=by
   rw [Int.natAbs_mul,Int.natAbs_natCast,Nat.pow_add]
   exact Nat.mul_le_mul (Nat.le_of_lt s3.1) (Nat.le_of_lt f110)
  generalize hq : (s.2.num * ((f : Nat) : Int)).fdiv (((s.2.den : Nat) : Int) * 16777216) = q at *
  obtain ⟨g',w2',w3',e,hb⟩:=fl_for hk hN (d0:=d0) x (g + q) (.val (.int (s.1 : Nat))) (.val (qd s.2)) fun s hs=>h s (List.mem_cons_of_mem _ hs)
  refine ⟨g',w2',w3',?_,?_⟩
  · rw [List.map_cons,loopF]
    have st : lq ns k (.tup (.cons (.name 2) (.cons (.name 3) .nil))) b_floor_1 (pd s) [.val d0,.val (.int g),w2,w3] t = .ok (.nx,[.val d0,.val (.int (g + q)),.val (.int (s.1 : Nat)),.val (qd s.2)]) t:=by
     rw [lq_eq (r1:=[.val d0,.val (.int g),.val (.int (s.1 : Nat)),.val (qd s.2)]) (by simp [pd])]
     have x0 : ixD (qd s.2) (.int 0) = some (.int s.2.num):=rfl
     have x1 : ixD (qd s.2) (.int 1) = some (.int (s.2.den : Int)):=rfl
     have gl : csOf cst 1 = .int 16777216:=rfl
     simp [b_floor_1,x0,x1,gl,om1,om2,er,om3,om4,d0',hq]
    rw [st]
    exact e
  · have : (g + q).natAbs ≤ g.natAbs + 2 ^ (N + 110):=by omega
    have e3 : (s :: x).length * 2 ^ (N + 110) = x.length * 2 ^ (N + 110) + 2 ^ (N + 110):=by rw [List.length_cons,Nat.add_mul,Nat.one_mul]
    omega
theorem e_below_int (F : Fld m K) (hk : 9 + K ≤ k) (hu : Su.InR m u) (bu : Su.Bt n u) {g : Int} (hg : g.natAbs ≤ 2 ^ n') (hn : 4 * (n + n' + 1) * 2 ^ K + 200 ≤ 100000) :
  callF p ns k i_surd [.tup [.int g,.int 1]] t = .ok (sr (Su.rat (g : Rat))) t ∧ callF p ns k i_below [sr u,sr (Su.rat (g : Rat))] t = .ok (.bl (decide (u < Su.rat (g : Rat)))) t:=by
 have hp2 : 1 ≤ 2 ^ K:=Nat.one_le_two_pow
 have hnn : 4 * (n + n' + 1) ≤ 4 * (n + n' + 1) * 2 ^ K:=Nat.le_mul_of_pos_right _ (by omega)
 have e1:=e_surd (ns:=ns) (t:=t) (k:=k) (n:=n') (by omega) F (q:=(g : Rat)) (by rw [Rat.den_intCast];exact Nat.one_le_two_pow) (by rw [Rat.num_intCast];exact hg) (by omega)
 rw [qd_int] at e1
 exact ⟨e1,e_below F hk hu (Su.InR.rat F.sq _) bu (Su.bt_int hg) hn⟩
theorem fl_dn (F : Fld m K) (hk : 9 + K ≤ k) (hu : Su.InR m u) (bu : Su.Bt n u) (w2 w3 : Sl) (hf : (Su.flr u).natAbs ≤ 2 ^ n') (hn : 4 * (n + n' + 1) * 2 ^ K + 200 ≤ 100000) : ∀ (c : Nat) (g : Int),g ≤ Su.flr u + c → g.natAbs ≤ 2 ^ n' → ∃ g' : Int,loopW (ev (gam p ns k) (csOf cst) wc_floor_2) (evSs (gam p ns k) (csOf cst) b_floor_2) [.val (sr u),.val (.int g),w2,w3] t = .ok (.nx,[.val (sr u),.val (.int g'),w2,w3]) t ∧ g' ≤ Su.flr u ∧ g'.natAbs ≤ 2 ^ n':=by
 intro c
 induction c with
 | zero=>
  intro g h1 h2
  obtain ⟨e1,e2⟩:=e_below_int (ns:=ns) (t:=t) (k:=k) F hk hu bu h2 hn
  have z : ¬ u < Su.rat (g : Rat):=by
   have f1:=(Su.flr_spec u).1
   have : Su.rat (g : Rat) ≤ Su.rat ((Su.flr u : Int) : Rat):=Su.rat_le.mpr (Rat.intCast_le_intCast.mpr (by omega))
   grind
  have z' : decide (u < Su.rat (g : Rat)) = false:=decide_eq_false z
  exact ⟨g,while_f (by simp [wc_floor_2,e1,e2,z']),by omega,h2⟩
 | succ c ih=>
  intro g h1 h2
  obtain ⟨e1,e2⟩:=e_below_int (ns:=ns) (t:=t) (k:=k) F hk hu bu h2 hn
  by_cases z : u < Su.rat (g : Rat)
  · have z' : decide (u < Su.rat (g : Rat)) = true:=decide_eq_true z
    have gt : Su.flr u < g:=by
     have f1:=(Su.flr_spec u).1
     have : Su.rat ((Su.flr u : Int) : Rat) < Su.rat (g : Rat):=by grind
     exact Rat.intCast_lt_intCast.mp (Su.rat_lt.mp this)
    obtain ⟨g',e,h3,h4⟩:=ih (g - 1) (by omega) (by omega)
    refine ⟨g',?_,h3,h4⟩
    rw [while_t (t1:=t) (r1:=[.val (sr u),.val (.int (g - 1)),w2,w3]) (t2:=t) (by simp [wc_floor_2,e1,e2,z']) (by simp [b_floor_2])]
    exact e
  · have z' : decide (u < Su.rat (g : Rat)) = false:=decide_eq_false z
    refine ⟨g,while_f (by simp [wc_floor_2,e1,e2,z']),?_,h2⟩
    have f2:=(Su.flr_spec u).2
    have : Su.rat (g : Rat) < Su.rat ((Su.flr u + 1 : Int) : Rat):=by grind
    have:=Rat.intCast_lt_intCast.mp (Su.rat_lt.mp this)
    omega
theorem fl_up (F : Fld m K) (hk : 9 + K ≤ k) (hu : Su.InR m u) (bu : Su.Bt n u) (w2 w3 : Sl) (hf : (Su.flr u + 1).natAbs ≤ 2 ^ n') (hn : 4 * (n + n' + 1) * 2 ^ K + 200 ≤ 100000) : ∀ (c : Nat) (g : Int),Su.flr u ≤ g + c → g ≤ Su.flr u → (g + 1).natAbs ≤ 2 ^ n' → loopW (ev (gam p ns k) (csOf cst) wc_floor_3) (evSs (gam p ns k) (csOf cst) b_floor_3) [.val (sr u),.val (.int g),w2,w3] t = .ok (.nx,[.val (sr u),.val (.int (Su.flr u)),w2,w3]) t:=by
 intro c
 induction c with
 | zero=>
  intro g h1 h2 h3
  have e : g = Su.flr u:=by omega
  subst e
  obtain ⟨e1,e2⟩:=e_below_int (ns:=ns) (t:=t) (k:=k) F hk hu bu h3 hn
  have z' : decide (u < Su.rat ((Su.flr u + 1 : Int) : Rat)) = true:=decide_eq_true (Su.flr_spec u).2
  exact while_f (by simp [wc_floor_3,e1,e2,z',-Rat.intCast_add])
 | succ c ih=>
  intro g h1 h2 h3
  obtain ⟨e1,e2⟩:=e_below_int (ns:=ns) (t:=t) (k:=k) F hk hu bu h3 hn
  by_cases z : g = Su.flr u
  · subst z
    have z' : decide (u < Su.rat ((Su.flr u + 1 : Int) : Rat)) = true:=decide_eq_true (Su.flr_spec u).2
    exact while_f (by simp [wc_floor_3,e1,e2,z',-Rat.intCast_add])
  · have zz : ¬ u < Su.rat ((g + 1 : Int) : Rat):=by
     have f1:=(Su.flr_spec u).1
     have : Su.rat ((g + 1 : Int) : Rat) ≤ Su.rat ((Su.flr u : Int) : Rat):=Su.rat_le.mpr (Rat.intCast_le_intCast.mpr (by omega))
     grind
    have z' : decide (u < Su.rat ((g + 1 : Int) : Rat)) = false:=decide_eq_false zz
    have e:=ih (g + 1) (by omega) (by omega) (by omega)
    rw [while_t (t1:=t) (r1:=[.val (sr u),.val (.int (g + 1)),w2,w3]) (t2:=t) (by simp [wc_floor_3,e1,e2,z',-Rat.intCast_add]) (by simp [b_floor_3])]
    exact e
theorem e_floor (F : Fld m K) (hk : 10 + K ≤ k) (hu : Su.InR m u) (bu : Su.Bt n u) (hn : 4 * (3 * n + 201) * 2 ^ K + 200 ≤ 100000) : callF p ns k i_floor [sr u] t = .ok (.int (Su.flr u)) t:=by
 obtain ⟨k,rfl⟩:=up1 (show 1 ≤ k by omega)
 have hp2 : 1 ≤ 2 ^ K:=Nat.one_le_two_pow
 have hnn : 4 * (3 * n + 201) ≤ 4 * (3 * n + 201) * 2 ^ K:=Nat.le_mul_of_pos_right _ (by omega)
 obtain ⟨B,h1,h2,h3⟩:=bt_sz bu
 have hs : ∀ s ∈ Su.rep u,s.1 < 2 ^ 60 ∧ 0 < s.1 ∧ qs (2 * n + 1) s.2:=fun s hs=>⟨rad_small F hu s hs,rep_pos u s hs,sz_qs h3 h1 h2 hs (rep_pos u s hs)⟩
 obtain ⟨g,w2,w3,e1,b1⟩:=fl_for (ns:=ns) (t:=t) (k:=k) (by omega) (N:=2 * n + 1) (by omega) (d0:=sr u) (Su.rep u) 0 .un .un hs
 have fb:=Su.flr_bd bu
 have rf:=rep_few F hu
 have p1 : 2 ^ n + 2 ≤ 2 ^ (2 * n + 199):=by
  have : 2 ^ n * 4 = 2 ^ (n + 2):=by rw [Nat.pow_add]
  have l:=Nat.pow_le_pow_right (show 0 < 2 by omega) (show n + 2 ≤ 2 * n + 199 by omega)
  have:=Nat.one_le_two_pow (n:=n)
  omega
 have p2 : g.natAbs ≤ 2 ^ (2 * n + 199):=by
  have l1 : (Su.rep u).length * 2 ^ (2 * n + 1 + 110) ≤ 2 ^ 6 * 2 ^ (2 * n + 1 + 110):=Nat.mul_le_mul_right _ (by omega)
  rw [← Nat.pow_add] at l1
  have l2:=Nat.pow_le_pow_right (show 0 < 2 by omega) (show 6 + (2 * n + 1 + 110) ≤ 2 * n + 199 by omega)
  have : (0 : Int).natAbs = 0:=rfl
  omega
 have p3 : 2 ^ (2 * n + 200) = 2 ^ (2 * n + 199) * 2:=by rw [Nat.pow_succ]
 have p4:=Nat.one_le_two_pow (n:=2 * n + 199)
 obtain ⟨g',e2,l2,b2⟩:=fl_dn (ns:=ns) (t:=t) (k:=k) (n':=2 * n + 199) F (by omega) hu bu w2 w3 (by omega) (by
  refine Nat.le_trans (Nat.add_le_add_right (Nat.mul_le_mul_right _ (Nat.mul_le_mul_left 4 (show n + (2 * n + 199) + 1 ≤ 3 * n + 201 by omega))) 200) hn) (g - Su.flr u).natAbs g (by omega) p2
 have e3:=fl_up (ns:=ns) (t:=t) (k:=k) (n':=2 * n + 200) F (by omega) hu bu w2 w3 (by omega) (by
  refine Nat.le_trans (Nat.add_le_add_right (Nat.mul_le_mul_right _ (Nat.mul_le_mul_left 4 (show n + (2 * n + 200) + 1 ≤ 3 * n + 201 by omega))) 200) hn) (Su.flr u - g').natAbs g' (by omega) l2 (by omega)
 rw [u_floor]
 show retD (evSs _ _ b_floor [.val (sr u),.un,.un,.un] t) = _
 unfold b_floor
 rw [seq_nx (r1:=[.val (sr u),.val (.int 0),.un,.un]) (t1:=t) (by simp),seq_nx (r1:=[.val (sr u),.val (.int g),w2,w3]) (t1:=t) (by rw [for_lq (t1:=t) (xs:=(Su.rep u).map pd) (by simp [sr,sd])];exact e1),
  seq_nx (r1:=[.val (sr u),.val (.int g'),w2,w3]) (t1:=t) (by rw [evS_while];exact e2),seq_nx (r1:=[.val (sr u),.val (.int (Su.flr u)),w2,w3]) (t1:=t) (by rw [evS_while];exact e3)]
 simp
theorem rngD_succ (i : Int) (j : Nat) : rngD i (j + 1) = .int i :: rngD (i + 1) j:=by
 unfold rngD
 rw [List.range_succ_eq_map,List.map_cons,List.map_map]
 simp only [Int.natCast_zero,Int.add_zero,List.cons.injEq,true_and]
 refine List.map_congr_left fun a _=>?_
 simp only [Function.comp,D.int.injEq]
 omega
theorem fig_for (d0 d1 : D) : ∀ (c i : Nat) (w : Sl),∃ w',loopF (lq ns k (.name 3) b_figures_1) (rngD (i : Int) c) [.val d0,.val d1,.val (.int (10 ^ i : Nat)),w] t = .ok (.nx,[.val d0,.val d1,.val (.int (10 ^ (i + c) : Nat)),w']) t ∨ 30 < i + c
 | 0,i,w=>⟨w,.inl rfl⟩
 | c + 1,i,w=>by
  obtain ⟨w',e⟩:=fig_for d0 d1 c (i + 1) (.val (.int (i : Nat)))
  refine ⟨w',?_⟩
  rcases e with e | e
  · by_cases hi : 30 < i + (c + 1)
    · exact .inr hi
    refine .inl ?_
    have p10 : 10 ^ i < 2 ^ 120:=Nat.lt_of_le_of_lt (Nat.pow_le_pow_right (by omega) (show i ≤ 30 by omega)) (by decide)
    have om : okMul ((10 ^ i : Nat) : Int) 10 = true:=okMul_of (k:=120) (l:=10) (by rw [Int.natAbs_natCast];exact p10) (by decide) (by omega) (by omega) (by omega)
    rw [rngD_succ,loopF]
    have st : lq ns k (.name 3) b_figures_1 (.int (i : Nat)) [.val d0,.val d1,.val (.int (10 ^ i : Nat)),w] t = .ok (.nx,[.val d0,.val d1,.val (.int (10 ^ (i + 1) : Nat)),.val (.int (i : Nat))]) t:=by
     rw [lq_eq (r1:=[.val d0,.val d1,.val (.int (10 ^ i : Nat)),.val (.int (i : Nat))]) (by simp)]
     have e1 : ((10 ^ (i + 1) : Nat) : Int) = ((10 ^ i : Nat) : Int) * 10:=by rw [Nat.pow_succ];omega
     rw [e1]
     generalize 10 ^ i = z at *
     simp [b_figures_1,om]
    rw [st]
    have e2 : i + (c + 1) = i + 1 + c:=by omega
    rw [e2]
    exact e
  · exact .inr (by omega)
theorem e_figures (F : Fld m K) (hk : 11 + K ≤ k) (hu : Su.InR m u) (bu : Su.Bt n u) {j : Nat} (hj : j ≤ 8) (hn : 4 * (3 * (n + 40) + 201) * 2 ^ K + 200 ≤ 100000) : callF p ns k i_figures [sr u,.int (j : Nat)] t = .ok (.int (Su.flr (u * Su.rat ((10 ^ j : Nat) : Rat)))) t:=by
 obtain ⟨k,rfl⟩:=up1 (show 1 ≤ k by omega)
 have hp2 : 1 ≤ 2 ^ K:=Nat.one_le_two_pow
 have hnn : 4 * (3 * (n + 40) + 201) ≤ 4 * (3 * (n + 40) + 201) * 2 ^ K:=Nat.le_mul_of_pos_right _ (by omega)
 have p10 : 10 ^ j ≤ 2 ^ 39:=Nat.le_trans (Nat.pow_le_pow_right (by omega) hj) (by decide)
 have es:=e_scaled_by (ns:=ns) (t:=t) (k:=k) (n':=39) (by omega) F hu bu (q:=((10 ^ j : Nat) : Rat)) (by rw [Rat.den_natCast];decide) (by rw [Rat.num_natCast,Int.natAbs_natCast];exact p10) (by omega)
 have eq : qd ((10 ^ j : Nat) : Rat) = .tup [.int (10 ^ j : Nat),.int 1]:=by
  rw [← Rat.intCast_natCast,qd_int]
 rw [eq] at es
 have b39 : Su.Bt 39 (Su.rat ((10 ^ j : Nat) : Rat)):=Su.Bt.rat (by rw [Rat.den_natCast];decide) (by rw [Rat.num_natCast,Int.natAbs_natCast];exact p10)
 have ef:=e_floor (ns:=ns) (t:=t) (k:=k) (n:=n + 40) F (by omega) (hu.mul F.sq (Su.InR.rat F.sq _)) ((bu.mul b39).le (by omega)) hn
 obtain ⟨w',e⟩:=fig_for (ns:=ns) (t:=t) (k:=k) (sr u) (.int (j : Nat)) j 0 .un
 have e:=e.resolve_right (by omega)
 rw [Nat.zero_add] at e
 rw [u_figures]
 show retD (evSs _ _ b_figures [.val (sr u),.val (.int (j : Nat)),.un,.un] t) = _
 unfold b_figures
 have orng : okRng ((j : Nat) : Int) = true:=by simp [okRng];omega
 rw [seq_nx (r1:=[.val (sr u),.val (.int (j : Nat)),.val (.int ((10 ^ 0 : Nat) : Int)),.un]) (t1:=t) (by simp)]
 generalize 10 ^ j = z at *
 rw [seq_nx (r1:=[.val (sr u),.val (.int (j : Nat)),.val (.int (z : Nat)),w']) (t1:=t) (by rw [for_lq (t1:=t) (xs:=rngD ((0 : Nat) : Int) j) (by simp [orng])];exact e)]
 simp [es,ef,okLen]
end
end Lw
namespace Su
end Su
namespace Lw
open PySem Fm
section
variable {ns : List Int} {t : Tw} {k : Nat} {m K : Nat} {u v : Su.R} {n n' : Nat}
end
end Lw
namespace Lw
open PySem Fm
section
variable {ns : List Int} {t : Tw} {k : Nat} {m K : Nat} {u v : Su.R} {n n' : Nat}
theorem newton {N f : Nat} (hf : 0 < f) : 2 * Su.fl N ≤ f + N / f:=by
 have s:=(Su.fl_sq N).1
 generalize Su.fl N = s' at *
 by_cases h : 2 * s' ≤ f
 · exact Nat.le_trans h (Nat.le_add_right _ _)
 · have h1 : 2 * s' - f ≤ N / f:=by
    rw [Nat.le_div_iff_mul_le hf]
    obtain ⟨d,hd⟩ : ∃ d,2 * s' = f + d:=⟨2 * s' - f,by omega⟩
    have e : 2 * s' - f = d:=by omega
    rw [e]
    have h4 : 4 * (d * f) ≤ (f + d) * (f + d):=by
     have : ((f : Int) - d) * (f - d) ≥ 0:=by
      rcases Int.le_total 0 ((f : Int) - d) with z | z
      · exact Int.mul_nonneg z z
      · exact Int.mul_nonneg_of_nonpos_of_nonpos z z
     have h5 : 4 * ((d : Int) * f) ≤ ((f : Int) + d) * (f + d):=by grind
     have h6 : ((4 * (d * f) : Nat) : Int) ≤ (((f + d) * (f + d) : Nat) : Int):=by
      rw [Int.natCast_mul,Int.natCast_mul,Int.natCast_mul,Int.natCast_add]
      exact h5
     omega
    rw [← hd] at h4
    have : 2 * s' * (2 * s') = 4 * (s' * s'):=by grind
    omega
   omega
theorem lr_loop {N : Nat} (hN0 : 0 < N) : ∀ (c f : Nat),f ≤ c → Su.fl N ≤ f → 0 < f →
  ∃ w,loopW (ev (gam p ns k) (csOf cst) (.cmp .Lt (.var 2) (.var 1))) (evSs (gam p ns k) (csOf cst) b__law_root_1) [.val (.int (N : Nat)),.val (.int (f : Nat)),.val (.int (((f + N / f) / 2 : Nat) : Int))] t = .ok (.nx,[.val (.int (N : Nat)),.val (.int (Su.fl N : Nat)),w]) t:=by
 intro c
 induction c with
 | zero=>intro f h1 h2 h3;omega
 | succ c ih=>
  intro f h1 h2 h3
  have nw:=newton (N:=N) h3
  by_cases q : (f + N / f) / 2 < f
  · have q' : ((((f + N / f) / 2 : Nat) : Int)) < (f : Int):=by omega
    have g1 : Su.fl N ≤ (f + N / f) / 2:=by omega
    have s0 : 0 < Su.fl N:=by
     have:=(Su.fl_sq N).2
     rcases Nat.eq_zero_or_pos (Su.fl N) with z | z
     · rw [z] at this;omega
     · exact z
    generalize (f + N / f) / 2 = g at *
    obtain ⟨w,e⟩:=ih g (by omega) g1 (by omega)
    refine ⟨w,?_⟩
    have d1:=fdiv_nat N g
    have od : okDiv ((g : Nat) : Int) = true:=okDiv_ne (by omega)
    have od2 : okDiv 2 = true:=rfl
    have d2 : ((g : Int) + ((N / g : Nat) : Int)).fdiv 2 = (((g + N / g) / 2 : Nat) : Int):=by
     have:=fdiv_nat (g + N / g) 2
     rw [Int.natCast_add] at this
     exact this
    rw [while_t (t1:=t) (r1:=[.val (.int (N : Nat)),.val (.int (g : Nat)),.val (.int (((g + N / g) / 2 : Nat) : Int))]) (t2:=t) (by simp [q']) (by
     rw [← d1] at d2
     simp [b__law_root_1,od,od2,d2])]
    exact e
  · have q' : ¬ ((((f + N / f) / 2 : Nat) : Int)) < (f : Int):=by omega
    have g1 : f ≤ N / f:=by omega
    have g2 : f * f ≤ N:=(Nat.le_div_iff_mul_le h3).mp g1
    have e : f = Su.fl N:=by
     have:=(Su.fl_sq N).2
     rcases Nat.lt_or_ge (Su.fl N) f with z | z
     · have:=Nat.mul_le_mul (show Su.fl N + 1 ≤ f from z) (show Su.fl N + 1 ≤ f from z)
       omega
     · omega
    have h:=while_f (t1:=t) (c:=ev (gam p ns k) (csOf cst) (.cmp .Lt (.var 2) (.var 1))) (f:=evSs (gam p ns k) (csOf cst) b__law_root_1) (r:=[.val (.int (N : Nat)),.val (.int (f : Nat)),.val (.int (((f + N / f) / 2 : Nat) : Int))]) (t:=t) (by
     generalize (f + N / f) / 2 = g at *
     simp [q'])
    refine ⟨.val (.int (((f + N / f) / 2 : Nat) : Int)),?_⟩
    rw [h,← e]
theorem e__law_root (hk : 1 ≤ k) {N : Nat} (h0 : 0 < N) : callF p ns k i__law_root [.int (N : Nat)] t = .ok (.int (Su.fl N : Nat)) t:=by
 obtain ⟨k,rfl⟩:=up1 hk
 have g1 : Su.fl N ≤ (N + 2) / 2:=by
  have h:=(Su.fl_sq N).1
  generalize Su.fl N = s at *
  rcases Nat.lt_or_ge s 2 with z | z
  · omega
  · have:=Nat.mul_le_mul_right s z
    omega
 have od2 : okDiv 2 = true:=rfl
 have d0 : ((N : Int) + 1 + 1).fdiv 2 = (((N + 2) / 2 : Nat) : Int):=by
  have:=fdiv_nat (N + 2) 2
  rw [Int.natCast_add] at this
  have e : (N : Int) + 1 + 1 = (N : Int) + 2:=by omega
  rw [e]
  exact this
 have gp : 0 < (N + 2) / 2:=by omega
 have gl : (N + 2) / 2 < N + 1:=by omega
 rw [u__law_root]
 show retD (evSs _ _ b__law_root [.val (.int (N : Nat)),.un,.un] t) = _
 generalize (N + 2) / 2 = g at *
 obtain ⟨w,e⟩:=lr_loop (ns:=ns) (t:=t) (k:=k) h0 g g (Nat.le_refl g) g1 gp
 have d1:=fdiv_nat N g
 have od : okDiv ((g : Nat) : Int) = true:=okDiv_ne (by omega)
 have d2 : ((g : Int) + ((N / g : Nat) : Int)).fdiv 2 = (((g + N / g) / 2 : Nat) : Int):=by
  have:=fdiv_nat (g + N / g) 2
  rw [Int.natCast_add] at this
  exact this
 have gl' : (g : Int) < (N : Int) + 1:=by omega
 unfold b__law_root
 rw [seq_nx (r1:=[.val (.int (N : Nat)),.val (.int ((N : Int) + 1)),.un]) (t1:=t) (by simp),seq_nx (r1:=[.val (.int (N : Nat)),.val (.int ((N : Int) + 1)),.val (.int (g : Nat))]) (t1:=t) (by simp [od2,d0]),
  seq_nx (r1:=[.val (.int (N : Nat)),.val (.int (Su.fl N : Nat)),w]) (t1:=t) (by
   rw [evS_while,while_t (t1:=t) (r1:=[.val (.int (N : Nat)),.val (.int (g : Nat)),.val (.int (((g + N / g) / 2 : Nat) : Int))]) (t2:=t) (by simp [gl']) (by
    rw [← d1] at d2
    simp [b__law_root_1,od,od2,d2])]
   exact e)]
 simp
end
end Lw
namespace Lw
open PySem Fm
section
variable {ns : List Int} {t : Tw}
structure Sd (n : Nat) (u : Su.R) : Prop where
 i : Su.InR 210 u
 b : Su.Bt n u
theorem Sd.add {n m : Nat} {u v : Su.R} (h : Sd n u) (h' : Sd m v) : Sd (n + m + 1) (u + v):=⟨h.i.add Su.sqf210 h'.i,h.b.add h'.b⟩
theorem Sd.mul {n m : Nat} {u v : Su.R} (h : Sd n u) (h' : Sd m v) : Sd (n + m) (u * v):=⟨h.i.mul Su.sqf210 h'.i,h.b.mul h'.b⟩
theorem Sd.neg {n : Nat} {u : Su.R} (h : Sd n u) : Sd n (-u):=⟨h.i.neg Su.sqf210,h.b.neg⟩
theorem t_add {k n m : Nat} {u v : Su.R} (hk : 5 ≤ k) (h : Sd n u) (h' : Sd m v) (hn : n + m + 1 ≤ 100000) : callF p ns k i_added [sr u,sr v] t = .ok (sr (u + v)) t:=e_added hk F210 h.i h'.i h.b h'.b hn
theorem t_mul {k n m : Nat} {u v : Su.R} (hk : 5 ≤ k) (h : Sd n u) (h' : Sd m v) (hn : n + m ≤ 100000) : callF p ns k i_multiplied [sr u,sr v] t = .ok (sr (u * v)) t:=e_multiplied hk F210 h.i h'.i h.b h'.b hn
theorem t_neg {k n : Nat} {u : Su.R} (hk : 6 ≤ k) (h : Sd n u) (hn : n + 1 ≤ 100000) : callF p ns k i_opposite [sr u] t = .ok (sr (-u)) t:=e_opposite hk F210 h.i h.b hn
end
end Lw
namespace Su
def Nr (e : Rat) (u v : R) : Prop:=u ≤ v + rat e ∧ v ≤ u + rat e
theorem Nr.refl (u : R) : Nr 0 u u:=by
 have e : rat 0 = (0 : R):=rfl
 constructor <;> (rw [e];grind)
theorem Nr.add {e f : Rat} {u v w z : R} (h : Nr e u v) (h' : Nr f w z) : Nr (e + f) (u + w) (v + z):=by
 obtain ⟨a,b⟩:=h
 obtain ⟨c,d⟩:=h'
 have r:=rat_add e f
 constructor <;> (rw [← r];grind)
theorem Nr.symm {e : Rat} {u v : R} (h : Nr e u v) : Nr e v u:=⟨h.2,h.1⟩
theorem Nr.trans {e f : Rat} {u v w : R} (h : Nr e u v) (h' : Nr f v w) : Nr (e + f) u w:=by
 obtain ⟨a,b⟩:=h
 obtain ⟨c,d⟩:=h'
 have r:=rat_add e f
 constructor <;> (rw [← r];grind)
theorem Nr.le {e f : Rat} {u v : R} (h : Nr e u v) (l : e ≤ f) : Nr f u v:=by
 obtain ⟨a,b⟩:=h
 have:=rat_le.mpr l
 constructor <;> grind
theorem Nr.rat {e p q : Rat} (h1 : p ≤ q + e) (h2 : q ≤ p + e) : Nr e (Su.rat p) (Su.rat q):=by
 constructor
 · rw [rat_add];exact rat_le.mpr h1
 · rw [rat_add];exact rat_le.mpr h2
theorem Nr.out {e p q : Rat} (h : Nr e (Su.rat p) (Su.rat q)) : p ≤ q + e ∧ q ≤ p + e:=by
 obtain ⟨a,b⟩:=h
 rw [rat_add] at a b
 exact ⟨rat_le.mp a,rat_le.mp b⟩
theorem mul_nn {u v : R} (h1 : 0 ≤ u) (h2 : 0 ≤ v) : 0 ≤ u * v:=by
 have:=le_mul h1 h2
 grind
theorem Nr.scl {e : Rat} {u v : R} (h : Nr e u v) (q : Rat) : Nr (ab q * e) (Su.rat q * u) (Su.rat q * v):=by
 obtain ⟨a,b⟩:=h
 have hm:=rat_mul (ab q) e
 by_cases z : q < 0
 · have e1 : ab q = -q:=by unfold ab;rw [if_pos z]
   rw [e1] at hm ⊢
   have hn : (0 : R) ≤ Su.rat (-q):=(show Su.rat 0 ≤ Su.rat (-q) from rat_le.mpr (by grind))
   have c1:=le_mul a hn
   have c2:=le_mul b hn
   have hq : Su.rat (-q) = -Su.rat q:=rfl
   rw [hq] at c1 c2
   unfold Nr
   rw [← hm,hq]
   constructor <;> grind
 · have e1 : ab q = q:=by unfold ab;rw [if_neg z]
   rw [e1] at hm ⊢
   have hn : (0 : R) ≤ Su.rat q:=(show Su.rat 0 ≤ Su.rat q from rat_le.mpr (by grind))
   have c1:=le_mul a hn
   have c2:=le_mul b hn
   unfold Nr
   rw [← hm]
   constructor <;> grind
theorem sq_le {u v : R} (hv : 0 ≤ v) (h : u * u ≤ v * v) : u ≤ v:=by
 rcases lt_tri v u with z | z | z
 · have p1 : (0 : R) < u:=by grind
   have p2 : (0 : R) < u - v:=by grind
   have p3:=mpos p1 p2
   have p4:=le_mul (show v ≤ u by grind) hv
   grind
 · rw [z];grind
 · grind
theorem sr_nn0 (a : Nat) : (0 : R) ≤ sr a:=by
 by_cases z : a = 0
 · subst z
   have : sr 0 * sr 0 = 0:=by rw [sr_self];rfl
   rcases dom this with h | h <;> (rw [h];grind)
 · have:=lt_zero.mpr (pos_sr (show 0 < a by omega))
   grind
theorem fl_near (r S : Nat) : Nr 1 (rat ((fl (r * S * S) : Nat) : Rat)) (rat (S : Rat) * sr r):=by
 obtain ⟨h1,h2⟩:=fl_sq (r * S * S)
 have e : sr (r * S * S) = rat (S : Rat) * sr r:=by
  rw [← sr_sq]
  congr 1
  rw [Nat.mul_assoc,Nat.mul_comm]
 rw [← e]
 have s:=sr_self (r * S * S)
 have sn:=sr_nn0 (r * S * S)
 generalize r * S * S = N at *
 have q1 : rat ((fl N : Nat) : Rat) * rat ((fl N : Nat) : Rat) ≤ sr N * sr N:=by
  rw [s,← rat_nat,rat_mul,← Rat.natCast_mul]
  exact rat_le.mpr (cast_le h1)
 have q2 : sr N * sr N ≤ rat ((fl N + 1 : Nat) : Rat) * rat ((fl N + 1 : Nat) : Rat):=by
  rw [s,← rat_nat,rat_mul,← Rat.natCast_mul]
  exact rat_le.mpr (cast_le (Nat.le_of_lt h2))
 have l1:=sq_le sn q1
 have l2:=sq_le (show (0 : R) ≤ rat ((fl N + 1 : Nat) : Rat) from rat_le.mpr (cast_nn _)) q2
 have e1 : ((fl N + 1 : Nat) : Rat) = (fl N : Rat) + 1:=by rw [Rat.natCast_add];rfl
 rw [e1,← rat_add] at l2
 have p1 : (0 : R) ≤ rat 1:=(show Su.rat 0 ≤ Su.rat 1 from rat_le.mpr (by decide))
 exact ⟨by grind,l2⟩
noncomputable def nearT (S : Nat) (s : Nat × Rat) : Int:=(s.2.num * ((fl (s.1 * S * S) : Nat) : Int)).fdiv (s.2.den : Int)
theorem nearT_ok (S : Nat) (s : Nat × Rat) : Nr (ab s.2 + 1) (rat ((nearT S s : Int) : Rat)) (rat (S : Rat) * (rat s.2 * sr s.1)):=by
 have h1:=(fl_near s.1 S).scl s.2
 have dp : (0 : Int) < (s.2.den : Int):=by have:=s.2.den_pos;omega
 have dq : (0 : Rat) < (s.2.den : Rat):=cast_lt (a:=0) s.2.den_pos
 have h2 : Nr 1 (rat ((nearT S s : Int) : Rat)) (rat s.2 * rat ((fl (s.1 * S * S) : Nat) : Rat)):=by
  rw [rat_mul]
  unfold nearT
  generalize fl (s.1 * S * S) = f
  have hd:=rat_den s.2
  generalize hN : s.2.num * ((f : Nat) : Int) = N
  have e1:=Int.mul_fdiv_add_fmod N (s.2.den : Int)
  have e2:=Int.fmod_nonneg_of_pos N dp
  have e3:=Int.fmod_lt_of_pos N dp
  generalize N.fdiv (s.2.den : Int) = z at *
  generalize N.fmod (s.2.den : Int) = m at *
  have c1 : ((s.2.den : Int) : Rat) * (z : Rat) + (m : Rat) = ((s.2.num : Int) : Rat) * ((f : Nat) : Rat):=by
   rw [← Rat.intCast_mul,← Rat.intCast_add,e1,← hN,Rat.intCast_mul]
   rfl
  have c2 : ((s.2.den : Int) : Rat) = (s.2.den : Rat):=rfl
  have c3 : (0 : Rat) ≤ (m : Rat):=by exact_mod_cast e2
  have c4 : (m : Rat) ≤ (s.2.den : Rat):=by
   have : m ≤ (s.2.den : Int):=by omega
   rw [← c2]
   exact_mod_cast this
  rw [c2] at c1
  have c5 : (s.2.den : Rat) * (s.2 * ((f : Nat) : Rat) - (z : Rat)) = (m : Rat):=by grind
  generalize (s.2.den : Rat) = d at *
  generalize s.2 * ((f : Nat) : Rat) = x at *
  have k1 : (0 : Rat) ≤ x - z:=by
   rcases Std.le_total (a:=(0 : Rat)) (b:=x - (z : Rat)) with h | h
   · exact h
   · rcases Rat.le_iff_lt_or_eq.mp h with h | h
     · have:=mulpos dq (show (0 : Rat) < -(x - (z : Rat)) by grind)
       grind
     · rw [h];grind
  have k2 : x - z ≤ 1:=by
   rcases Std.le_total (a:=x - (z : Rat)) (b:=1) with h | h
   · exact h
   · rcases Rat.le_iff_lt_or_eq.mp h with h | h
     · have:=mulpos dq (show (0 : Rat) < (x - (z : Rat)) - 1 by grind)
       grind
     · rw [← h];grind
  exact Nr.rat (by grind) (by grind)
 have h3:=h2.trans h1
 have e : rat (S : Rat) * (rat s.2 * sr s.1) = rat s.2 * (rat (S : Rat) * sr s.1):=by grind
 rw [e]
 exact h3.le (by grind)
noncomputable def nearL (S : Nat) : L → Int
 | []=>0
 | s :: x=>nearT S s + nearL S x
def errL : L → Rat
 | []=>0
 | s :: x=>ab s.2 + 1 + errL x
theorem nearL_ok (S : Nat) : ∀ x : L,Nr (errL x) (rat ((nearL S x : Int) : Rat)) (rat (S : Rat) * cl x)
 | []=>by
  have e : rat (S : Rat) * cl [] = 0:=by rw [cl_nil];grind
  rw [e]
  exact Nr.refl 0
 | s :: x=>by
  have h:=(nearT_ok S s).add (nearL_ok S x)
  have e : rat (S : Rat) * cl (s :: x) = rat (S : Rat) * (rat s.2 * sr s.1) + rat (S : Rat) * cl x:=by
   rw [show s = (s.1,s.2) from rfl,cl_cons]
   grind
  have e2 : rat ((nearL S (s :: x) : Int) : Rat) = rat ((nearT S s : Int) : Rat) + rat ((nearL S x : Int) : Rat):=by
   rw [rat_add,← Rat.intCast_add]
   rfl
  rw [e,e2]
  exact h
theorem errL_le : ∀ x : L,(∀ s ∈ x,0 < s.1) → errL x ≤ nrm x + (x.length : Rat)
 | [],_=>by
  show (0 : Rat) ≤ 0 + ((0 : Nat) : Rat)
  have : ((0 : Nat) : Rat) = 0:=rfl
  rw [this]
  grind
 | s :: x,h=>by
  have ih:=errL_le x fun a ha=>h a (List.mem_cons_of_mem _ ha)
  have h1 : ((1 : Nat) : Rat) ≤ (s.1 : Rat):=cast_le (h s List.mem_cons_self)
  have h2:=mulle (a:=ab s.2) (b:=ab s.2) (c:=((1 : Nat) : Rat)) (d:=(s.1 : Rat)) (by grind) h1 (ab_nn _) (cast_nn _)
  have e1 : ((1 : Nat) : Rat) = 1:=rfl
  have e2 : (((s :: x).length : Nat) : Rat) = (x.length : Rat) + 1:=by
   rw [List.length_cons,Rat.natCast_add];rfl
  rw [e2]
  obtain ⟨a,p⟩:=s
  simp only [errL,nrm] at *
  rw [e1] at h2
  grind
noncomputable def near (S : Nat) (u : R) : Int:=nearL S (rep u)
theorem near_ok (S : Nat) {u : R} {M : Nat} (h : nrm (rep u) ≤ (M : Rat)) (hl : (rep u).length ≤ 64) (hp : ∀ s ∈ rep u,0 < s.1) : Nr ((M + 64 : Nat) : Rat) (rat ((near S u : Int) : Rat)) (rat (S : Rat) * u):=by
 have h1:=nearL_ok S (rep u)
 rw [rep_cl] at h1
 refine h1.le ?_
 have h2:=errL_le (rep u) hp
 have h3:=cast_le hl
 have e : ((M + 64 : Nat) : Rat) = (M : Rat) + ((64 : Nat) : Rat):=Rat.natCast_add _ _
 grind
theorem bd_of {u : R} {M : Nat} (h : nrm (rep u) ≤ (M : Rat)) : u ≤ rat (M : Rat) ∧ -u ≤ rat (M : Rat):=by
 have:=cl_bd (rep u)
 rw [rep_cl] at this
 have l:=rat_le.mpr h
 exact ⟨le_tr this.1 l,le_tr this.2 l⟩
structure Nk (M : Nat) (u : R) : Prop where
 up : nrm (rep u) ≤ (M : Rat)
 few : (rep u).length ≤ 64
 pos : ∀ s ∈ rep u,0 < s.1
theorem Nk.ok {M : Nat} {u : R} (h : Nk M u) (S : Nat) : Nr ((M + 64 : Nat) : Rat) (rat ((near S u : Int) : Rat)) (rat (S : Rat) * u):=near_ok S h.up h.few h.pos
end Su
namespace Lw
open PySem Fm
section
variable {ns : List Int} {t : Tw} {k : Nat} {sc : List Int} {n : Nat} {G : Gam} {cs : Nat → D} {r : Rho}
theorem bigE {n v : Int} {z o : Str} (e1 : binD .Mult (.str "0") (.int n) = some (.str z)) (e2 : binD .Add (.str "1") (.str z) = some (.str o)) (e3 : blt1 .int (.str o) = some (.int v)) :
  ev G cs (.blt .int (.bin .Add (.cst (.str "1")) (.bin .Mult (.cst (.str "0")) (.cst (.int n))))) r t = .ok (.int v) t:=by
 have h0 : ev G cs (.bin .Mult (.cst (.str "0")) (.cst (.int n))) r t = .ok (.str z) t:=by
  rw [ev_bin,ev_cst,ev_cst]
  show lift (binD .Mult (.str "0") (.int n)) t = _
  rw [e1]
  rfl
 have h1 : ev G cs (.bin .Add (.cst (.str "1")) (.bin .Mult (.cst (.str "0")) (.cst (.int n)))) r t = .ok (.str o) t:=by
  rw [ev_bin,ev_cst]
  show (ev G cs (.bin .Mult (.cst (.str "0")) (.cst (.int n))) r t).bind _ = _
  rw [h0,Res.bind_ok]
  show lift (binD .Add (.str "1") (.str z)) t = _
  rw [e2]
  rfl
 rw [ev_blt]
 show (ev G cs (.bin .Add (.cst (.str "1")) (.bin .Mult (.cst (.str "0")) (.cst (.int n)))) r t).bind _ = _
 rw [h1,Res.bind_ok,e3]
 rfl
def S40 : Nat:=10 ^ 40
theorem big40 : ev G cs (.blt .int (.bin .Add (.cst (.str "1")) (.bin .Mult (.cst (.str "0")) (.cst (.int 40))))) r t = .ok (.int (S40 : Nat)) t:=
 bigE (z:=⟨#[48,48,48,48,48,48,48,48,48,48,48,48,48,48,48,48,48,48,48,48,48,48,48,48,48,48,48,48,48,48,48,48,48,48,48,48,48,48,48,48]⟩) (o:=⟨#[49,48,48,48,48,48,48,48,48,48,48,48,48,48,48,48,48,48,48,48,48,48,48,48,48,48,48,48,48,48,48,48,48,48,48,48,48,48,48,48,48]⟩) (by kernel_rfl) (by kernel_rfl) (by kernel_rfl)
end
section
variable {ns : List Int} {t : Tw} {k : Nat} {sc : List Int} {n : Nat}
theorem intsD_m {α : Type} (f : α → Int) : ∀ xs : List α,intsD (xs.map fun a=>D.int (f a)) = some (xs.map f)
 | []=>rfl
 | x :: xs=>by simp [intsD,intsD_m f xs]
theorem near_sum0 (S : Nat) : ∀ x : Su.L,(x.map (Su.nearT S)).sum = Su.nearL S x
 | []=>rfl
 | s :: x=>by rw [List.map_cons,List.sum_cons,near_sum0 S x];rfl
theorem fl_le1 (N : Nat) : Su.fl N ≤ N:=by
 have h:=(Su.fl_sq N).1
 rcases Nat.eq_zero_or_pos (Su.fl N) with z | z
 · omega
 · exact Nat.le_trans (Nat.le_mul_of_pos_right _ z) h
theorem lt_pow {a k : Nat} (h : a < 2 ^ k) {l : Nat} (hl : k ≤ l) : a < 2 ^ l:=Nat.lt_of_lt_of_le h (Nat.pow_le_pow_right (by omega) hl)
theorem e_near (hk : 2 ≤ k) {u : Su.R} {N : Nat} (hN : N ≤ 400000) (h : ∀ s ∈ Su.rep u,0 < s.1 ∧ s.1 < 2 ^ 60 ∧ qs N s.2) (hl : (Su.rep u).length ≤ 1000) : callF p ns k i__law_near [sr u] t = .ok (.int (Su.near S40 u)) t:=by
 obtain ⟨k,rfl⟩:=up1 (show 1 ≤ k by omega)
 have hk : 1 ≤ k:=by omega
 have s0 : S40 < 2 ^ 134:=by decide
 have sp : 0 < S40:=by decide
 have b40:=big40 (G:=gam p ns k) (cs:=csOf cst) (t:=t) (r:=[.val (sr u),.un,.un,.un])
 rw [u__law_near]
 generalize S40 = S at *
 have hc:=cmapB (G:=gam p ns k) (cs:=csOf cst) (t:=t) (own:=[("radicand",2),("part",3)]) (elt:=.bin .FloorDiv (.bin .Mult (.ix (.var 3) (.cst (.int 0))) (.call 19 (.cons (.bin .Mult (.bin .Mult (.var 2) (.var 1)) (.var 1)) .nil) .nil)) (.ix (.var 3) (.cst (.int 1)))) (tg:=.tup (.cons (.name 2) (.cons (.name 3) .nil))) (it:=.val (.var 0)) (cd:=.none) (r:=[.val (sr u),.val (.int (S : Nat)),.un,.un]) (ys:=Su.rep u) pd (fun s=>D.int (Su.nearT S s)) (by simp [sr,sd]) (by omega) (fun s hs=>by
  obtain ⟨h1,h2,h3⟩:=h s hs
  have m1 : s.1 * S < 2 ^ 60 * 2 ^ 134:=Nat.mul_lt_mul'' h2 s0
  have m2 : s.1 * S * S < 2 ^ 60 * 2 ^ 134 * 2 ^ 134:=Nat.mul_lt_mul'' m1 s0
  have e:=e__law_root (ns:=ns) (t:=t) (k:=k) hk (N:=s.1 * S * S) (Nat.mul_pos (Nat.mul_pos h1 sp) sp)
  have fle:=fl_le1 (s.1 * S * S)
  unfold Su.nearT
  generalize hf : Su.fl (s.1 * S * S) = f at *
  have o1 : okMul ((s.1 : Nat) : Int) ((S : Nat) : Int) = true:=okMul_of (k:=60) (l:=134) (by rw [Int.natAbs_natCast];exact h2) (by rw [Int.natAbs_natCast];exact s0) (by omega) (by omega) (by omega)
  have c1 : ((s.1 : Nat) : Int) * ((S : Nat) : Int) = ((s.1 * S : Nat) : Int):=(Int.natCast_mul _ _).symm
  have o2 : okMul ((s.1 * S : Nat) : Int) ((S : Nat) : Int) = true:=okMul_of (k:=194) (l:=134) (by rw [Int.natAbs_natCast];rw [← Nat.pow_add] at m1;exact m1) (by rw [Int.natAbs_natCast];exact s0) (by omega) (by omega) (by omega)
  have c2 : ((s.1 * S : Nat) : Int) * ((S : Nat) : Int) = ((s.1 * S * S : Nat) : Int):=(Int.natCast_mul _ _).symm
  have o3 : okMul s.2.num ((f : Nat) : Int) = true:=by
   refine okMul_of (k:=N + 1) (l:=328) (lt_pow h3.1 (by omega)) ?_ (by omega) (by omega) (by omega)
   rw [Int.natAbs_natCast]
   rw [← Nat.pow_add,← Nat.pow_add] at m2
   omega
  have o4 : okDiv ((s.2.den : Nat) : Int) = true:=okDiv_ne (by have:=s.2.den_pos;omega)
  clear m1 m2
  generalize s.1 * S * S = B at *
  generalize s.1 * S = A at *
  simp [pd,qd,o1,c1,o2,c2,e,o3,o4])
 have hs : intsD ((Su.rep u).map fun s=>D.int (Su.nearT S s)) = some ((Su.rep u).map (Su.nearT S)):=intsD_m _ _
 show retD (evSs _ _ b__law_near [.val (sr u),.un,.un,.un] t) = _
 unfold b__law_near
 rw [seq_nx (r1:=[.val (sr u),.val (.int (S : Nat)),.un,.un]) (t1:=t) (by rw [x_evS_asg];simp only [b40];simp)]
 have hb : blt1 .sum (.lst ((Su.rep u).map fun s=>D.int (Su.nearT S s))) = some (.int (Su.near S u)):=by
  show (intsD _).map _ = _
  rw [hs,Option.map_some,near_sum0]
  rfl
 simp [hc,hb]
theorem sd_fine {n : Nat} {u : Su.R} (h : Sd n u) : (∀ s ∈ Su.rep u,0 < s.1 ∧ s.1 < 2 ^ 60 ∧ qs (2 * n + 1) s.2) ∧ (Su.rep u).length < 64:=by
 refine ⟨fun s hs=>⟨rep_pos u s hs,rad_small F210 h.i s hs,?_⟩,rep_few F210 h.i⟩
 obtain ⟨B,b1,b2,b3⟩:=bt_sz h.b
 exact sz_qs b3 b1 b2 hs (rep_pos u s hs)
theorem sd_nk {n : Nat} {u : Su.R} (h : Sd n u) : Su.Nk (2 ^ n) u:=by
 obtain ⟨B,b1,b2,b3⟩:=bt_sz h.b
 exact ⟨b3.up,by have:=rep_few F210 h.i;omega,rep_pos u⟩
theorem c_near {n : Nat} {u : Su.R} (hk : 2 ≤ k) (h : Sd n u) (hn : n ≤ 100000) : callF p ns k i__law_near [sr u] t = .ok (.int (Su.near S40 u)) t:=by
 obtain ⟨h1,h2⟩:=sd_fine h
 exact e_near hk (by omega) h1 (by omega)
end
end Lw
namespace Su
def IR7 : List Nat:=[2,3,5,6,7,10,30]
def R8L : List Nat:=[1,2,3,5,6,7,10,30]
def cHK : Nat:=6076
def cHM : List (Nat × List Int):=[(64538202534194547917278815,[9127080131503958223514314005725,11178344581839542980190171393332,14431180801210820473717805901468,15808566512517285607750354746638,17075203396859730809278924446625,20408771610130570440372730114863,35349029348815430664408794785299]),
 (54998085999042588117336314,[7777903912440786071092933034012,9525947926938427828832606072403,12297945892623866065292357030226,13471724752736193781176724399674,14551125813801003110741238115216,17391921870679169877377057515725,30123692321284675267233791307172]),
 (48799172160477103457753511,[6901245110192628961912732399861,8452264554924704153405658016272,10911826619654207952270244936248,11953307166339908559188426374367,12911047372244896620466920915718,15431653195778745121644281898766,26728407379871421586060072202932]),
 (98836032782654463297799646,[13977525801238177482998927771098,17118903039810069358949219051400,22100408792841307725506161340371,24209784851849403956655946928014,26149556331513090205042350144136,31254697848825778996328584973989,54134724649379942435252684060648]),
 (109585637310407806877490090,[15497749452567778293711411917222,18980789160144193216388199790250,24504093438370907817173048507773,26842889454820146380163154901416,28993634358786017001512935744133,34654021274201704958528076000951,60022525533490117186504868961941]),
 (59588282310044062081390301,[8427055700138109450954680573682,10320993249675406270011744477766,13324344990770672220447787532495,14596088630852123125079988537374,15765577604588602806098650760829,18843469395685896630596035487010,32637846384197181448027501903800]),
 (2281278904611371205293473,[322621556645703936218855824247,395129096902196928654169686196,510109470634728447337699733405,558796927727319793789165534063,603569665277952846346058395335,721403731666593036252845368112,1249507916016324125793412659897]),
 (133370850985868858472457072,[18861486628945681416250289113232,23100509015622255065768148370729,29822628902139761107586693267790,32669053147614948521559952978473,35286610385366267679845702679737,42175566259025896163427729500322,73050223598620496470185339517822])]
def cHN : List (List Int):=[[-5923174159,3669715571,267237776,404786394,382708388,62565381,-886297921,627945337],
 [-1988,449,4123,-4287,2096,913,1642,287],
 [-1396,-1893,-2771,-328,449,-2042,-789,3270],
 [4888,298,2273,-673,-3349,392,-2603,-200],
 [1397,-4284,534,-1407,616,4348,2169,-548],
 [-183,-2465,2527,2689,-1257,-814,2060,-451],
 [3388,-4426,-441,1896,2683,704,-1231,-3556],
 [7281,-677,-2809,-1018,-1232,-1822,1252,343]]
def cAK : Nat:=126
def cAM : List (Nat × List Int):=[(57035241937217,[80660012680843,98787936857243,127534678084764,139707240102370,150901066132278,180361271420360,312394885817784]),
 (168757668462638,[238659383494325,292296855944153,377353618406831,413370177915236,446490822587228,533658604961502,924323817689650]),
 (280820805374736,[397140591557487,486395902731454,627934410314148,687867682325527,742982013994422,888033359347020,1538118897205109]),
 (204556421777723,[289286465948567,354302115533505,457402064329107,501058856964962,541205421105092,646864202831674,1120401664901999]),
 (553014843912124,[782081092454166,957849806995571,1236578783553945,1354604187769588,1463139748318682,1748786486644813,3028987046458688]),
 (131260275845298,[185630062301254,227349466779562,293506899535460,321520699317948,347282046908397,415081437973125,718942139848202]),
 (477150929899708,[674793316363101,826449653465030,1066941914782984,1168776308548790,1262422698357841,1508883726150415,2613463276406363]),
 (363281030804203,[513756960716182,629221202778874,812321079814393,889853158702595,961151263535116,1148795488075072,1989772152851911])]
def cAN : List (List Int):=[[571,-766,891,-411,-860,547,333,483],
 [-9,-65,31,-62,78,-44,-36,-13],
 [-47,-61,-92,-13,92,-5,-29,14],
 [-118,43,29,-29,-8,67,-5,-13],
 [40,30,-69,-36,8,-61,71,-30],
 [-15,-8,-37,52,73,33,-34,-73],
 [103,114,-93,-52,35,-38,-8,3],
 [-109,83,-51,128,52,-81,-51,-37]]
def cI0 : List Int:=[15919027380308077194196932,19496747141574600737894850,25170192328178495812566405,27572564229773674224526065,29781773193893171048493187,35596027358049257669921267,61654127931753066396714068]
def cI1 : List Int:=[12490948927243955191593488,15298225637456305099417110,19749924373463871254409370,21634958176734494094791441,23368425660719191943242923,27930610904795558642954848,48377237173543237855634046]
def cI2 : List Int:=[106111206194317874125105720,129959155583666232010689714,167776548420905983150554981,183790000380975928485670133,198515889238231139450006671,237271870224991525219335151,410966934436574422188098960]
def cI3 : List Int:=[34145026098682562282377667,41818945597893426313911521,53988026618865069411351232,59140920028683523672462556,63879494561862311421435530,76350599450158651635676602,132243117436015171218009915]
def nst (n x : Nat) : Nat:=Nat.div (Nat.add x (Nat.div n x)) 2
def rt9 (n x : Nat) : Nat:=nst n (nst n (nst n (nst n (nst n (nst n (nst n (nst n (nst n x))))))))
def finC (K D z h d s : Nat) : Bool:=Nat.blt (Nat.add (Nat.mul (Nat.pow (Nat.add (Nat.mul K s) 120) 2) d) D) z && Nat.blt h (Nat.mul (Nat.pow (Nat.sub (Nat.mul K (Nat.add s 1)) 120) 2) d)
def chk1 (x K N d ln hn : Nat) : Bool:=finC K (Nat.add (Nat.div (Nat.mul N (Nat.mul 15 d)) 100000000000000000000000000000000000) 1) (Nat.mul N ln) (Nat.mul N hn) d (Nat.div (rt9 (Nat.div (Nat.mul N ln) d) (rt9 (Nat.div (Nat.mul N ln) d) x)) K)
def chk (d ln hn : Nat) : Bool:=chk1 995385556070992640862288121380 14738 990792405234759234598273917320655395658354090673049613104400 d ln hn || chk1 525600523527106673698980039216 9918 276255910331968616023789951814983235353683671958400897894656 d ln hn || chk1 4069733155664225062935253869120 9040 16562727958312691547460323513230731310478643570583930089574400 d ln hn || chk1 1267569423653929464895865745000 8750 1606732243782354918429126340009223579690196793064405025000000 d ln hn
def cQ : List (Nat × Nat × Nat × Nat × List Int):=[(995385556070992640862288121380,14738,990792405234759234598273917320655395658354090673049613104400,11256452210510162401753835,cI0),(525600523527106673698980039216,9918,276255910331968616023789951814983235353683671958400897894656,8832434689909031957030652,cI1),(4069733155664225062935253869120,9040,16562727958312691547460323513230731310478643570583930089574400,75031953459886155290104238,cI2),(1267569423653929464895865745000,8750,1606732243782354918429126340009223579690196793064405025000000,24144179498170085045635538,cI3)]
def PP : Nat:=10000000000000000000000000000000000000000
def A8 : List Int:=[10000000000000000000000000000000000000000,14142135623730950488016887242096980785696,17320508075688772935274463415058723669428,22360679774997896964091736687312762354406,24494897427831780981972840747058913919659,26457513110645905905016157536392604257102,31622776601683793319988935444327185337195,54772255750516611345696978280080213395274]
def V24 : List Int:=[-30,-24,-18,-15,-12,-10,-9,-8,-6,-4,-3,-2,2,3,4,6,8,9,10,12,15,18,24,30]
def exL : List (List Int × Int × List Int):=[([0,0,0,0,0,0,0,2],0,[0,2,0,0,0,0,0]),
 ([0,0,0,0,0,0,0,3],0,[3,0,0,0,0,0,0]),
 ([0,0,0,0,0,0,-2,3],0,[0,2,0,-1,0,0,0]),
 ([0,0,0,0,0,0,2,3],0,[0,2,0,1,0,0,0]),
 ([0,0,0,0,0,0,0,4],0,[0,0,0,2,0,0,0]),
 ([0,0,0,0,0,-2,0,4],0,[3,0,0,-1,0,0,0]),
 ([0,0,0,0,0,0,0,6],6,[0,0,0,0,0,0,0]),
 ([0,0,0,0,-2,0,0,6],0,[0,0,0,-1,0,0,1]),
 ([0,0,0,0,0,-3,0,6],-3,[0,3,0,0,0,0,0]),
 ([0,0,0,0,0,0,-4,6],0,[0,-2,0,2,0,0,0]),
 ([0,0,0,0,0,-4,0,8],6,[0,-2,0,0,0,0,0]),
 ([0,0,0,0,-4,0,0,9],0,[0,0,0,-2,0,0,1]),
 ([0,0,0,0,-3,0,0,9],-3,[0,0,3,0,0,0,0]),
 ([0,0,0,0,0,0,-6,9],6,[-3,0,0,0,0,0,0]),
 ([0,0,0,0,0,0,-4,9],0,[0,4,0,-1,0,0,0]),
 ([0,0,0,-4,0,0,0,10],6,[0,0,0,-2,0,0,0]),
 ([0,0,-3,0,0,0,0,12],-3,[0,0,0,0,3,0,0]),
 ([0,0,0,0,0,-6,0,12],0,[-3,0,0,3,0,0,0]),
 ([0,0,0,0,0,0,-8,12],0,[0,4,0,-2,0,0,0]),
 ([-2,-4,12],-6,[3,2,0,1,0,0,0]),
 ([0,0,0,-6,0,0,0,15],-6,[0,0,0,3,0,0,0]),
 ([0,0,0,0,-6,0,0,18],0,[-3,0,0,0,0,3,0]),
 ([0,0,0,0,0,-9,0,18],9,[0,-3,0,0,0,0,0]),
 ([0,0,0,0,0,0,-12,18],-6,[6,0,0,0,0,0,0]),
 ([-3,-6,18],3,[3,3,0,-3,0,0,0]),
 ([0,0,-9,0,0,0,0,24],9,[0,0,0,0,-3,0,0]),
 ([0,0,0,0,0,-12,0,24],-6,[0,6,0,0,0,0,0]),
 ([-4,-8,0,24],0,[3,0,0,1,0,-3,1]),
 ([-4,-8,24],6,[-6,2,0,2,0,0,0]),
 ([0,0,0,-12,0,0,0,30],0,[-6,6,0,0,0,0,0])]
end Su
namespace Su
def dotR : List Nat → List Int → R
 | r :: rs,v :: vs=>rat (v : Rat) * sr r + dotR rs vs
 | _,_=>0
def dotI : List Int → List Int → Int
 | a :: as,v :: vs=>a * v + dotI as vs
 | _,_=>0
def l1 : List Int → Nat
 | []=>0
 | v :: vs=>v.natAbs + l1 vs
theorem rat_int_add (a b : Int) : rat ((a + b : Int) : Rat) = rat (a : Rat) + rat (b : Rat):=by rw [rat_add,Rat.intCast_add]
theorem rat_int_mul (a b : Int) : rat ((a * b : Int) : Rat) = rat (a : Rat) * rat (b : Rat):=by rw [rat_mul,Rat.intCast_mul]
theorem rat_int_neg (a : Int) : rat ((-a : Int) : Rat) = -rat (a : Rat):=by rw [rat_neg,Rat.intCast_neg]
theorem rat_int_sub (a b : Int) : rat ((a - b : Int) : Rat) = rat (a : Rat) - rat (b : Rat):=by
 rw [Int.sub_eq_add_neg,rat_int_add,rat_int_neg];grind
theorem rat_int_le {a b : Int} : rat (a : Rat) ≤ rat (b : Rat) ↔ a ≤ b:=by rw [rat_le,Rat.intCast_le_intCast]
theorem rat_int_lt {a b : Int} : rat (a : Rat) < rat (b : Rat) ↔ a < b:=by rw [rat_lt,Rat.intCast_lt_intCast]
theorem rat_int_zero : rat ((0 : Int) : Rat) = (0 : R):=rfl
theorem rat_int_one : rat ((1 : Int) : Rat) = (1 : R):=rfl
theorem rat_int_nn {a : Int} (h : 0 ≤ a) : (0 : R) ≤ rat (a : Rat):=by rw [← rat_int_zero];exact rat_int_le.mpr h
theorem rat_int_pos {a : Int} (h : 0 < a) : (0 : R) < rat (a : Rat):=by rw [← rat_int_zero];exact rat_int_lt.mpr h
def apB (S K : Int) : List Nat → List Int → Bool
 | [],[]=>true
 | r :: rs,a :: as=>decide (1 ≤ K * a) && decide ((K * a - 1) * (K * a - 1) ≤ K * S * (K * S) * (r : Int)) && decide (K * S * (K * S) * (r : Int) ≤ (K * a + 1) * (K * a + 1)) && apB S K rs as
 | _,_=>false
theorem ap_one {S K a : Int} {r : Nat} (hk : 0 ≤ K) (hs : 0 ≤ S) (h0 : 1 ≤ K * a) (h1 : (K * a - 1) * (K * a - 1) ≤ K * S * (K * S) * (r : Int)) (h2 : K * S * (K * S) * (r : Int) ≤ (K * a + 1) * (K * a + 1)) :
  rat ((K * a : Int) : Rat) ≤ rat ((K * S : Int) : Rat) * sr r + 1 ∧ rat ((K * S : Int) : Rat) * sr r ≤ rat ((K * a : Int) : Rat) + 1:=by
 have ks : 0 ≤ K * S:=Int.mul_nonneg hk hs
 generalize K * S = q at *
 generalize K * a = p at *
 have qn:=rat_int_nn ks
 have un:=mul_nn qn (sr_nn0 r)
 have e : (rat (q : Rat) * sr r) * (rat (q : Rat) * sr r) = rat ((q * q * (r : Int) : Int) : Rat):=by
  have s:=sr_self r
  have e1 : rat ((q * q * (r : Int) : Int) : Rat) = rat (q : Rat) * rat (q : Rat) * ((r : Nat) : R):=by
   rw [rat_int_mul,rat_int_mul]
   rfl
  rw [e1,← s]
  grind
 have k1 : rat ((p - 1 : Int) : Rat) ≤ rat (q : Rat) * sr r:=sq_le un (by rw [e,← rat_int_mul];exact rat_int_le.mpr h1)
 have k2 : rat (q : Rat) * sr r ≤ rat ((p + 1 : Int) : Rat):=sq_le (rat_int_nn (by omega)) (by rw [e,← rat_int_mul];exact rat_int_le.mpr h2)
 rw [rat_int_sub,rat_int_one] at k1
 rw [rat_int_add,rat_int_one] at k2
 constructor <;> grind
theorem scl_bd {a b e : R} {v : Int} (h1 : a ≤ b + e) (h2 : b ≤ a + e) (he : 0 ≤ e) : rat (v : Rat) * a ≤ rat (v : Rat) * b + rat ((v.natAbs : Int) : Rat) * e ∧ rat (v : Rat) * b ≤ rat (v : Rat) * a + rat ((v.natAbs : Int) : Rat) * e:=by
 rcases Int.lt_or_le v 0 with h | h
 · have e1 : v = -(v.natAbs : Int):=by omega
   generalize (v.natAbs : Int) = w at *
   subst e1
   have p:=rat_int_nn (a:=w) (by omega)
   have:=le_mul h1 p
   have:=le_mul h2 p
   rw [rat_int_neg]
   constructor <;> grind
 · have e1 : v = (v.natAbs : Int):=by omega
   generalize (v.natAbs : Int) = w at *
   subst e1
   have p:=rat_int_nn (a:=v) (by omega)
   have:=le_mul h1 p
   have:=le_mul h2 p
   constructor <;> grind
theorem ap_dot {S K : Int} (hk : 0 ≤ K) (hs : 0 ≤ S) : ∀ {rs : List Nat} {as : List Int},apB S K rs as = true → ∀ v : List Int,
  rat ((K * dotI as v : Int) : Rat) ≤ rat ((K * S : Int) : Rat) * dotR rs v + rat ((l1 v : Int) : Rat) ∧ rat ((K * S : Int) : Rat) * dotR rs v ≤ rat ((K * dotI as v : Int) : Rat) + rat ((l1 v : Int) : Rat)
 | [],[],_,v=>by
  have e1 : dotI [] v = 0:=by cases v <;> rfl
  have e2 : dotR [] v = 0:=by cases v <;> rfl
  have:=rat_int_nn (a:=(l1 v : Int)) (by omega)
  rw [e1,e2,Int.mul_zero,rat_int_zero]
  constructor <;> grind
 | r :: rs,a :: as,h,[]=>by
  have e1 : dotI (a :: as) [] = 0:=rfl
  have e2 : dotR (r :: rs) [] = 0:=rfl
  have e3 : rat ((l1 [] : Int) : Rat) = 0:=rfl
  rw [e1,e2,e3,Int.mul_zero,rat_int_zero]
  constructor <;> grind
 | r :: rs,a :: as,h,v :: vs=>by
  simp only [apB,Bool.and_eq_true,decide_eq_true_eq] at h
  obtain ⟨⟨⟨h0,h1⟩,h2⟩,h3⟩:=h
  obtain ⟨a1,a2⟩:=ap_one hk hs h0 h1 h2
  obtain ⟨b1,b2⟩:=scl_bd (v:=v) a1 a2 (by rw [← rat_int_one];exact rat_int_nn (by omega))
  obtain ⟨c1,c2⟩:=ap_dot hk hs h3 vs
  have e1 : K * dotI (a :: as) (v :: vs) = v * (K * a) + K * dotI as vs:=by
   simp only [dotI]
   rw [Int.mul_add,← Int.mul_assoc,Int.mul_comm v]
  have e2 : dotR (r :: rs) (v :: vs) = rat (v : Rat) * sr r + dotR rs vs:=rfl
  have e3 : ((l1 (v :: vs) : Nat) : Int) = (v.natAbs : Int) + (l1 vs : Int):=by simp [l1]
  rw [e1,e2,e3,rat_int_add,rat_int_add,rat_int_mul]
  constructor <;> grind
theorem hom_one {m K Q : Int} (hm : 0 ≤ m) (hk : 0 < K) (hq : 0 ≤ Q) {p v : List Int} {W : Int} {rs : List Nat} (ap : apB (m * Q) K rs p = true) {tn td B : Int} (ht : 0 < td) (hl : (l1 v : Int) ≤ B)
  (hc : K * Q * tn + B * td < K * td) {x : R} (ex : x = rat (W : Rat) + rat (m : Rat) * dotR rs v) (h1 : rat (td : Rat) * x ≤ rat (tn : Rat)) (h2 : -(rat (td : Rat) * x) ≤ rat (tn : Rat)) : Q * W + dotI p v = 0:=by
 obtain ⟨a1,a2⟩:=ap_dot (Int.le_of_lt hk) (Int.mul_nonneg hm hq) ap v
 have hB:=rat_int_le.mpr hl
 have tp:=rat_int_nn (Int.le_of_lt ht)
 have kq:=rat_int_nn (Int.mul_nonneg (Int.le_of_lt hk) hq)
 have s1:=le_mul h1 kq
 have s2:=le_mul h2 kq
 have b1:=le_mul a1 tp
 have b2:=le_mul a2 tp
 have b3:=le_mul hB tp
 generalize hz : Q * W + dotI p v = z
 have ez : K * dotI p v = K * z - K * Q * W:=by rw [← hz,Int.mul_add,Int.mul_assoc];omega
 have e0 : K * (m * Q) = m * (K * Q):=by rw [← Int.mul_assoc,Int.mul_comm K m,Int.mul_assoc]
 have c:=rat_int_lt.mpr hc
 rw [rat_int_add] at c
 rw [ez,e0] at b1 b2
 rw [rat_int_mul m,rat_int_sub] at b1 b2
 rw [rat_int_mul (K * Q) W] at b1 b2
 rw [rat_int_mul (K * Q) tn,rat_int_mul B td] at c
 subst ex
 have g1 : rat ((K * z : Int) : Rat) * rat (td : Rat) < rat ((K * td : Int) : Rat):=by grind
 have g2 : -(rat ((K * z : Int) : Rat) * rat (td : Rat)) < rat ((K * td : Int) : Rat):=by grind
 rw [← rat_int_mul] at g1 g2
 rw [← rat_int_neg] at g2
 have g1:=rat_int_lt.mp g1
 have g2:=rat_int_lt.mp g2
 have kt : 0 < K * td:=Int.mul_pos hk ht
 have ee : K * z * td = K * td * z:=by rw [Int.mul_assoc,Int.mul_comm z,← Int.mul_assoc]
 rw [ee] at g1 g2
 generalize K * td = y at *
 rcases Int.lt_trichotomy z 0 with h | h | h
 · have:=Int.mul_le_mul_of_nonneg_left (show z ≤ -1 by omega) (Int.le_of_lt kt)
   omega
 · exact h
 · have:=Int.mul_le_mul_of_nonneg_left (show 1 ≤ z by omega) (Int.le_of_lt kt)
   omega
def addV : List Int → List Int → List Int
 | a :: as,b :: bs=>(a + b) :: addV as bs
 | [],bs=>bs
 | as,[]=>as
def comb : List Int → List (List Int) → List Int
 | n :: ns,r :: rs=>addV (r.map (n * ·)) (comb ns rs)
 | _,_=>[]
theorem dot_nil (x : List Int) : dotI [] x = 0:=by cases x <;> rfl
theorem dot_add : ∀ a b x : List Int,dotI (addV a b) x = dotI a x + dotI b x
 | [],b,x=>by simp [addV,dot_nil]
 | a :: as,[],x=>by simp [addV,dot_nil]
 | a :: as,b :: bs,[]=>rfl
 | a :: as,b :: bs,y :: x=>by
  simp only [addV,dotI,dot_add as bs x,Int.add_mul]
  omega
theorem dot_sca (n : Int) : ∀ a x : List Int,dotI (a.map (n * ·)) x = n * dotI a x
 | [],x=>by simp [dot_nil]
 | a :: as,[]=>by simp [dotI]
 | a :: as,y :: x=>by simp only [List.map_cons,dotI,dot_sca n as x,Int.mul_add,Int.mul_assoc]
theorem dot_comb : ∀ (ns : List Int) (rows : List (List Int)) (x : List Int),(∀ r ∈ rows,dotI r x = 0) → dotI (comb ns rows) x = 0
 | [],rows,x,_=>by simp [comb,dot_nil]
 | n :: ns,[],x,_=>by simp [comb,dot_nil]
 | n :: ns,r :: rs,x,h=>by
  rw [comb,dot_add,dot_sca,h r List.mem_cons_self,dot_comb ns rs x fun r hr=>h r (List.mem_cons_of_mem _ hr)]
  omega
def unit8 : List (List Int):=(List.range 8).map fun i=>(List.range 8).map fun j=>if i = j then 1 else 0
def homB (m : Int) (K : Nat) (M : List (Nat × List Int)) (N : List (List Int)) (tn td B : Int) : Bool:=
 decide (0 < (K : Int)) && decide (N.map (fun ns=>comb ns (M.map fun c=>((c.1 : Int) :: c.2))) = unit8) && M.all fun c=>apB (m * (c.1 : Int)) K IR7 c.2 && decide ((K : Int) * (c.1 : Int) * tn + B * td < (K : Int) * td)
theorem hom_all {m : Int} (hm : 0 ≤ m) {K : Nat} {M : List (Nat × List Int)} {N : List (List Int)} {tn td B : Int} (ht : 0 < td) (hb : homB m K M N tn td B = true) {v : List Int} (hv : v.length = 7) {W : Int} (hl : (l1 v : Int) ≤ B) {x : R} (ex : x = rat (W : Rat) + rat (m : Rat) * dotR IR7 v)
  (h1 : rat (td : Rat) * x ≤ rat (tn : Rat)) (h2 : -(rat (td : Rat) * x) ≤ rat (tn : Rat)) : x = 0:=by
 simp only [homB,Bool.and_eq_true,decide_eq_true_eq,List.all_eq_true] at hb
 obtain ⟨⟨k0,hN⟩,hM⟩:=hb
 have hr : ∀ r ∈ M.map (fun c=>((c.1 : Int) :: c.2)),dotI r (W :: v) = 0:=by
  intro r hr
  obtain ⟨c,hc,rfl⟩:=List.mem_map.mp hr
  obtain ⟨c1,c2⟩:=hM c hc
  exact hom_one hm k0 (by omega) c1 ht hl c2 ex h1 h2
 have hu : ∀ r ∈ unit8,dotI r (W :: v) = 0:=by
  intro r hr'
  rw [← hN] at hr'
  obtain ⟨ns,_,rfl⟩:=List.mem_map.mp hr'
  exact dot_comb ns _ _ hr
 obtain ⟨a1,a2,a3,a4,a5,a6,a7,rfl⟩ : ∃ a1 a2 a3 a4 a5 a6 a7,v = [a1,a2,a3,a4,a5,a6,a7]:=by
  match v,hv with
  | [a1,a2,a3,a4,a5,a6,a7],_=>exact ⟨_,_,_,_,_,_,_,rfl⟩
 · have hu : ∀ r ∈ ([[1,0,0,0,0,0,0,0],[0,1,0,0,0,0,0,0],[0,0,1,0,0,0,0,0],[0,0,0,1,0,0,0,0],[0,0,0,0,1,0,0,0],[0,0,0,0,0,1,0,0],[0,0,0,0,0,0,1,0],[0,0,0,0,0,0,0,1]] : List (List Int)),dotI r [W,a1,a2,a3,a4,a5,a6,a7] = 0:=hu
   simp only [List.mem_cons,List.not_mem_nil,or_false,forall_eq_or_imp,forall_eq,dotI] at hu
   obtain ⟨u0,u1,u2,u3,u4,u5,u6,u7⟩:=hu
   have z0 : W = 0:=by omega
   have z1 : a1 = 0:=by omega
   have z2 : a2 = 0:=by omega
   have z3 : a3 = 0:=by omega
   have z4 : a4 = 0:=by omega
   have z5 : a5 = 0:=by omega
   have z6 : a6 = 0:=by omega
   have z7 : a7 = 0:=by omega
   subst z0 z1 z2 z3 z4 z5 z6 z7
   rw [ex]
   simp only [IR7,dotR,rat_int_zero]
   grind
theorem homH_ok : homB 100000 cHK cHM cHN 225000000 (10 ^ 35) 500 = true:=by decide +kernel
theorem homA_ok : homB 1 cAK cAM cAN 78 (10 ^ 18) 120 = true:=by decide +kernel
end Su
namespace Su
abbrev ri (n : Int) : R:=rat (n : Rat)
theorem lt_of_sq {a b : R} (ha : 0 ≤ a) (hb : 0 ≤ b) (h : a * a < b * b) : a < b:=by
 rcases lt_tri a b with z | z | z
 · exact z
 · rw [z] at h;exact (lt_irr _ h).elim
 · have h1:=le_mul (show b ≤ a by grind) hb
   have h2:=le_mul (show b ≤ a by grind) ha
   grind
theorem sub_nn {a b : R} (h : a < b) : 0 ≤ b - a:=by grind
theorem sub_p {a b : R} (h : a < b) : 0 < b - a:=by grind
theorem add_nn {a b : R} (h : 0 ≤ b) : a ≤ a + b:=by grind
theorem k3_of {T g f t a b : R} (hT : 0 ≤ T) (f0 : 0 ≤ f) (fg : f < g) (gt : g * g = t) (h2 : T * (t - f * f) ≤ a) (g0 : 1 ≤ b * g) (b0 : 0 ≤ b) : T * (g - f) ≤ b * a:=by
 have n:=mul_nn hT (sub_nn fg)
 have k1:=le_mul (add_nn (a:=g) f0) n
 have e1 : (g + f) * (T * (g - f)) = T * (t - f * f):=by rw [← gt];grind
 rw [e1] at k1
 have k2:=le_mul g0 n
 have x1:=le_mul (le_tr k1 h2) b0
 have e2 : b * g * (T * (g - f)) = g * (T * (g - f)) * b:=by grind
 have e3 : 1 * (T * (g - f)) = T * (g - f):=by grind
 have e4 : b * a = a * b:=by grind
 rw [e2,e3] at k2
 rw [e4]
 exact le_tr k2 x1
theorem inh {Q K s d ln hn N : Nat} {p v : List Int} {W : Int} (ap : apB (Q : Int) (K : Int) IR7 p = true) (k0 : 0 < K) (hl : l1 v ≤ 120) {f t : R} (f0 : 0 ≤ f) (ef : ri 6 * f = ri W + dotR IR7 v) (h1 : f * f < t)
  (h2 : ri (10 ^ 35) * (t - f * f) ≤ ri 15) (d0 : 0 < d) (tl : ri (ln : Int) ≤ ri (d : Int) * t) (th : ri (d : Int) * t ≤ ri (hn : Int)) (hN : N = 36 * Q * Q * K * K)
  (c1 : (K * s + 120) ^ 2 * d + (N * (15 * d) / 10 ^ 35 + 1) < N * ln) (c2 : N * hn < (K * (s + 1) - 120) ^ 2 * d) : False:=by
 obtain ⟨a1,a2⟩:=ap_dot (Int.natCast_nonneg K) (Int.natCast_nonneg Q) ap v
 have e35 : (10 ^ 35 : Int) = ((10 ^ 35 : Nat) : Int):=by decide +kernel
 have p35 : 0 < 10 ^ 35:=by decide
 rw [e35] at h2
 generalize 10 ^ 35 = T at *
 have hB:=rat_int_le.mpr (show (l1 v : Int) ≤ 120 by omega)
 have dp:=rat_int_pos (show (0 : Int) < (d : Int) by omega)
 have Nn:=rat_int_nn (show (0 : Int) ≤ (N : Int) by omega)
 have kqn:=rat_int_nn (show (0 : Int) ≤ ((6 * K * Q : Nat) : Int) by omega)
 have Yn:=mul_nn kqn f0
 have eY : ri ((6 * K * Q : Nat) : Int) * f * (ri ((6 * K * Q : Nat) : Int) * f) = ri (N : Int) * (f * f):=by
  have : (N : Int) = ((6 * K * Q : Nat) : Int) * ((6 * K * Q : Nat) : Int):=by
   rw [← Int.natCast_mul,hN]
   congr 1
   grind
  rw [this]
  show _ = rat _ * _
  rw [rat_int_mul]
  grind
 have eK : ri ((6 * K * Q : Nat) : Int) * f = ri ((K * Q : Nat) : Int) * (ri W + dotR IR7 v):=by
  rw [← ef]
  have : ((6 * K * Q : Nat) : Int) = ((K * Q : Nat) : Int) * 6:=by
   rw [show 6 * K * Q = K * Q * 6 by grind,Int.natCast_mul]
   rfl
  rw [this]
  show rat _ * _ = _
  rw [rat_int_mul]
  grind
 generalize hY : ri ((6 * K * Q : Nat) : Int) * f = Y at *
 have lo : ri ((K * s + 120 : Nat) : Int) < Y:=by
  refine lt_of_sq (rat_int_nn (by omega)) Yn ?_
  rw [eY]
  generalize K * s + 120 = a at *
  have e1 : ((a : Nat) ^ 2 * d * T + N * (15 * d)) < N * ln * T:=by
   have q:=Nat.div_add_mod (N * (15 * d)) (T)
   have q2:=Nat.mod_lt (N * (15 * d)) p35
   generalize a ^ 2 * d = X at *
   generalize N * (15 * d) = Y at *
   generalize N * ln = Z at *
   have q3:=Nat.mul_lt_mul_of_pos_right c1 p35
   generalize Y / T = D at *
   rw [Nat.add_mul,Nat.add_mul,Nat.mul_comm D] at q3
   omega
  have e2:=rat_int_lt.mpr (Int.ofNat_lt.mpr e1)
  have t10:=rat_int_nn (show (0 : Int) ≤ (T : Int) by omega)
  have x1:=le_mul tl (mul_nn Nn t10)
  have x2:=le_mul h2 (mul_nn Nn (show (0 : R) ≤ ri (d : Int) by grind))
  have c1 : ri (((a ^ 2 * d * T + N * (15 * d) : Nat)) : Int) = ri (a : Int) * ri (a : Int) * ri (d : Int) * ri (T : Int) + ri (N : Int) * (ri 15 * ri (d : Int)):=by
   show rat _ = rat _ * rat _ * rat _ * rat _ + rat _ * (rat _ * rat _)
   rw [← rat_int_mul,← rat_int_mul,← rat_int_mul,← rat_int_mul,← rat_int_mul,← rat_int_add]
   congr 2
   rw [Int.natCast_add,Int.natCast_mul,Int.natCast_mul,Int.natCast_mul,Int.natCast_mul,Nat.pow_two,Int.natCast_mul]
   rfl
  have c2 : ri ((N * ln * T : Nat) : Int) = ri (N : Int) * ri (ln : Int) * ri (T : Int):=by
   show rat _ = rat _ * rat _ * rat _
   rw [← rat_int_mul,← rat_int_mul]
   congr 2
  have e2 : ri (((a ^ 2 * d * T + N * (15 * d) : Nat)) : Int) < ri ((N * ln * T : Nat) : Int):=e2
  rw [c1,c2] at e2
  have dt : 0 < ri (d : Int) * ri (T : Int):=mpos dp (rat_int_pos (show (0 : Int) < (T : Int) by omega))
  rcases lt_tri (ri (a : Int) * ri (a : Int)) (ri (N : Int) * (f * f)) with z | z | z
  · exact z
  · rw [z] at e2
    grind
  · have:=mpos dt (show 0 < ri (a : Int) * ri (a : Int) - ri (N : Int) * (f * f) by grind)
    grind
 have hi : Y < ri ((K * (s + 1) - 120 : Nat) : Int):=by
  refine lt_of_sq Yn (rat_int_nn (by omega)) ?_
  rw [eY]
  generalize K * (s + 1) - 120 = b at *
  have e2 : ri ((N * hn : Nat) : Int) < ri ((b ^ 2 * d : Nat) : Int):=rat_int_lt.mpr (Int.ofNat_lt.mpr c2)
  have c3 : ri ((N * hn : Nat) : Int) = ri (N : Int) * ri (hn : Int):=by
   show rat _ = rat _ * rat _
   rw [← rat_int_mul]
   congr 2
  have c4 : ri ((b ^ 2 * d : Nat) : Int) = ri (b : Int) * ri (b : Int) * ri (d : Int):=by
   show rat _ = rat _ * rat _ * rat _
   rw [← rat_int_mul,← rat_int_mul]
   congr 2
   rw [Int.natCast_mul,Nat.pow_two,Int.natCast_mul]
  rw [c3,c4] at e2
  have x1:=le_mul th Nn
  have x2:=le_mul (show f * f ≤ t by grind) (mul_nn Nn (show (0 : R) ≤ ri (d : Int) by grind))
  rcases lt_tri (ri (N : Int) * (f * f)) (ri (b : Int) * ri (b : Int)) with z | z | z
  · exact z
  · rw [← z] at e2
    grind
  · have:=mpos dp (show 0 < ri (N : Int) * (f * f) - ri (b : Int) * ri (b : Int) by grind)
    grind
 have ez : (K : Int) * dotI p v = K * (Q * W + dotI p v) - ((K * Q : Nat) : Int) * W:=by
  rw [Int.mul_add,Int.natCast_mul,Int.mul_assoc]
  omega
 generalize (Q : Int) * W + dotI p v = z at *
 have ek : (K : Int) * (Q : Int) = ((K * Q : Nat) : Int):=(Int.natCast_mul _ _).symm
 rw [ez,ek,rat_int_sub,rat_int_mul _ W] at a1 a2
 have g1 : rat ((K * z : Int) : Rat) < ri ((K * (s + 1) - 120 : Nat) : Int) + ri 120:=by grind
 have g2 : ri ((K * s + 120 : Nat) : Int) - ri 120 < rat ((K * z : Int) : Rat):=by grind
 have g1 : rat ((K * z : Int) : Rat) < rat ((((K * (s + 1) - 120 : Nat) : Int) + 120 : Int) : Rat):=by rw [rat_int_add];exact g1
 have g2 : rat ((((K * s + 120 : Nat) : Int) - 120 : Int) : Rat) < rat ((K * z : Int) : Rat):=by rw [rat_int_sub];exact g2
 have g1:=rat_int_lt.mp g1
 have g2:=rat_int_lt.mp g2
 have g3 : (0 : R) < ri ((K * (s + 1) - 120 : Nat) : Int):=by grind
 rw [← rat_int_zero] at g3
 have g3:=rat_int_lt.mp g3
 have g1 : (K : Int) * z < K * ((s : Int) + 1):=by
  have : ((K * (s + 1) : Nat) : Int) = (K : Int) * ((s : Int) + 1):=by rw [Int.natCast_mul];rfl
  omega
 have g2 : (K : Int) * (s : Int) < K * z:=by
  have : ((K * s : Nat) : Int) = (K : Int) * (s : Int):=Int.natCast_mul _ _
  omega
 have kp : (0 : Int) < K:=by omega
 have g1:=Int.lt_of_mul_lt_mul_left g1 (Int.le_of_lt kp)
 have g2:=Int.lt_of_mul_lt_mul_left g2 (Int.le_of_lt kp)
 omega
theorem fin_out {K D z h d s : Nat} (hc : finC K D z h d s = true) : (K * s + 120) ^ 2 * d + D < z ∧ h < (K * (s + 1) - 120) ^ 2 * d:=by
 unfold finC at hc
 rw [Bool.and_eq_true] at hc
 have h1:=hc.1
 have h2:=hc.2
 simp only [Nat.blt,Nat.ble_eq] at h1 h2
 exact ⟨h1,h2⟩
theorem cI_ok : cQ.all (fun c=>apB (c.2.2.2.1 : Int) (c.2.1 : Int) IR7 c.2.2.2.2 && decide (0 < c.2.1) && decide (c.2.2.1 = 36 * c.2.2.2.1 * c.2.2.2.1 * c.2.1 * c.2.1)) = true:=by decide +kernel
theorem chk_eq (d ln hn : Nat) : chk d ln hn = cQ.any fun c=>chk1 c.1 c.2.1 c.2.2.1 d ln hn:=by
 simp only [chk,cQ,List.any_cons,List.any_nil,Bool.or_false,Bool.or_assoc]
theorem inh_chk {d ln hn : Nat} {v : List Int} {W : Int} (hl : l1 v ≤ 120) {f t : R} (f0 : 0 ≤ f) (ef : ri 6 * f = ri W + dotR IR7 v) (h1 : f * f < t)
  (h2 : ri (10 ^ 35) * (t - f * f) ≤ ri 15) (d0 : 0 < d) (tl : ri (ln : Int) ≤ ri (d : Int) * t) (th : ri (d : Int) * t ≤ ri (hn : Int)) (hc : chk d ln hn = true) : False:=by
 rw [chk_eq,List.any_eq_true] at hc
 obtain ⟨c,hm,hc⟩:=hc
 have:=List.all_eq_true.mp cI_ok c hm
 simp only [Bool.and_eq_true,decide_eq_true_eq] at this
 obtain ⟨⟨b1,b2⟩,b3⟩:=this
 obtain ⟨c1,c2⟩:=fin_out hc
 exact inh b1 b2 hl f0 ef h1 h2 d0 tl th b3 c1 c2
def subL : List Int → List Int → List Int
 | a :: as,b :: bs=>(a - b) :: subL as bs
 | _,_=>[]
theorem sub_len : ∀ {a b : List Int},a.length = b.length → (subL a b).length = a.length
 | [],[],_=>rfl
 | a :: as,b :: bs,h=>by simp only [subL,List.length_cons] at *;rw [sub_len (by omega)]
theorem dot_sub : ∀ (rs : List Nat) {a b : List Int},a.length = b.length → dotR rs (subL a b) = dotR rs a - dotR rs b
 | [],a,b,_=>by
  have e : ∀ v,dotR [] v = 0:=fun v=>by cases v <;> rfl
  rw [e,e,e];grind
 | r :: rs,[],[],_=>by
  have e : dotR (r :: rs) [] = 0:=rfl
  have e2 : subL [] [] = []:=rfl
  rw [e2,e];grind
 | r :: rs,a :: as,b :: bs,h=>by
  simp only [subL,dotR]
  rw [dot_sub rs (by simp at h;omega),rat_int_sub]
  grind
theorem l1_sub : ∀ {a b : List Int},a.length = b.length → l1 (subL a b) ≤ l1 a + l1 b
 | [],[],_=>by simp [subL,l1]
 | a :: as,b :: bs,h=>by
  have:=l1_sub (a:=as) (b:=bs) (by simp at h;omega)
  simp only [subL,l1]
  omega
theorem exc {v w : List Int} {W G : Int} (hl : l1 v ≤ 120) (hv : v.length = 7) {f t g : R} (f0 : 0 ≤ f) (ef : ri 6 * f = ri W + dotR IR7 v) (h1 : f * f < t) (h2 : ri (10 ^ 35) * (t - f * f) ≤ ri 15)
  (hlw : l1 w ≤ 100) (hw : w.length = 7) (eg : ri 6 * g = ri G + dotR IR7 w) (g0 : ri 1 ≤ ri 25 * g) (gt : g * g = t) : False:=by
 have p25:=rat_int_pos (show (0 : Int) < 25 by decide)
 have o1 : ri 1 = (1 : R):=rfl
 have gp : 0 < g:=by
  rcases lt_tri 0 g with z | z | z
  · exact z
  · rw [o1,← z] at g0
    have : (0 : R) < 1:=rat_int_pos (a:=1) (by decide)
    have e : ri 25 * (0 : R) = 0:=by grind
    rw [e] at g0
    grind
  · have:=mneg p25 z
    have : (0 : R) < 1:=rat_int_pos (a:=1) (by decide)
    rw [o1] at g0
    have g0 : (1 : R) ≤ rat ((25 : Int) : Rat) * g:=g0
    grind
 have fg : f < g:=lt_of_sq f0 (by grind) (by rw [gt];exact h1)
 have t10:=rat_int_nn (show (0 : Int) ≤ 10 ^ 35 by decide)
 have k3 : ri (10 ^ 35) * (g - f) ≤ ri 25 * ri 15:=k3_of t10 f0 fg gt h2 (by rw [← o1];exact g0) (rat_int_nn (by decide))
 have e375 : ri 25 * ri 15 = ri 375:=by show rat _ * rat _ = rat _;rw [← rat_int_mul];rfl
 rw [e375] at k3
 have x:=hom_all (m:=100000) (by decide) (tn:=225000000) (td:=10 ^ 35) (B:=500) (by decide) homH_ok (v:=subL w v) (by rw [sub_len (by omega)];exact hw) (W:=100000 * (G - W)) (by have:=l1_sub (a:=w) (b:=v) (by omega);omega) (x:=ri 100000 * (ri 6 * (g - f)))
  (by
   rw [dot_sub IR7 (by omega),rat_int_mul,rat_int_sub]
   have : ri 6 * (g - f) = ri G + dotR IR7 w - (ri W + dotR IR7 v):=by rw [← eg,← ef];grind
   rw [this]
   show rat _ * _ = _
   grind)
  (by
   have p:=rat_int_nn (show (0 : Int) ≤ 600000 by decide)
   have q:=le_mul k3 p
   have e1 : rat ((600000 : Int) : Rat) = ri 100000 * ri 6:=by show _ = rat _ * rat _;rw [← rat_int_mul];rfl
   have e2 : ri 375 * rat ((600000 : Int) : Rat) = rat ((225000000 : Int) : Rat):=by show rat _ * rat _ = _;rw [← rat_int_mul];rfl
   rw [e2,e1] at q
   show rat _ * _ ≤ _
   grind)
  (by
   have p1:=mpos (rat_int_pos (show (0 : Int) < 10 ^ 35 by decide)) (mpos (rat_int_pos (show (0 : Int) < 100000 by decide)) (mpos (rat_int_pos (show (0 : Int) < 6 by decide)) (sub_p fg)))
   have p2:=rat_int_nn (show (0 : Int) ≤ 225000000 by decide)
   show -(rat _ * (rat _ * (rat _ * _))) ≤ _
   grind)
 have p1:=mpos (rat_int_pos (show (0 : Int) < 100000 by decide)) (mpos (rat_int_pos (show (0 : Int) < 6 by decide)) (sub_p fg))
 have x : rat ((100000 : Int) : Rat) * (rat ((6 : Int) : Rat) * (g - f)) = 0:=x
 rw [x] at p1
 exact lt_irr _ p1
end Su
namespace Su
def nz : List Int → Nat
 | []=>0
 | a :: as=>(if a = 0 then 0 else 1) + nz as
structure Dr (s : Nat × Rat) : Prop where
 r : s.1 ∈ R8L
 z : s.2 ≠ 0
 n : s.2.num.natAbs ≤ 5
 d : s.2.den ≤ 3
def vi (q : Rat) : Int:=q.num * ((6 / q.den : Nat) : Int)
def cv (x : L) : List Int:=R8L.map fun r=>vi (look x r)
theorem vi_zero : vi 0 = 0:=by decide
def vtab : Bool:=(List.range 11).all fun i=>[1,2,3].all fun d=>decide (((i : Int) - 5) * ((6 / d : Nat) : Int) = 0 ∨ ((i : Int) - 5) * ((6 / d : Nat) : Int) ∈ V24)
theorem vtab_ok : vtab = true:=by decide +kernel
theorem vi_ok {q : Rat} (h1 : q.num.natAbs ≤ 5) (h2 : q.den ≤ 3) : ri 6 * rat q = ri (vi q) ∧ (vi q = 0 ∨ vi q ∈ V24):=by
 have d0:=q.den_pos
 have hd : q.den ∈ [1,2,3]:=by
  have : q.den = 1 ∨ q.den = 2 ∨ q.den = 3:=by omega
  rcases this with e | e | e <;> rw [e] <;> decide
 constructor
 · have hq:=rat_den q
   have e6 : ((6 / q.den : Nat) : Int) * (q.den : Int) = 6:=by
    have : q.den = 1 ∨ q.den = 2 ∨ q.den = 3:=by omega
    rcases this with e | e | e <;> rw [e] <;> rfl
   show rat _ * rat q = rat _
   rw [rat_mul]
   congr 1
   unfold vi
   have c6 : (((6 / q.den : Nat) : Int) : Rat) * ((q.den : Int) : Rat) = ((6 : Int) : Rat):=by rw [← Rat.intCast_mul,e6]
   have cd : ((q.den : Int) : Rat) = (q.den : Rat):=rfl
   rw [Rat.intCast_mul,← c6,cd]
   generalize (((6 / q.den : Nat) : Int) : Rat) = y at *
   generalize (q.den : Rat) = z at *
   have : y * z * q = q * z * y:=by grind
   rw [this,hq]
 · have h:=List.all_eq_true.mp vtab_ok (q.num + 5).toNat (List.mem_range.mpr (by omega))
   have h:=List.all_eq_true.mp h q.den hd
   have e : (((q.num + 5).toNat : Nat) : Int) - 5 = q.num:=by omega
   rw [decide_eq_true_eq,e] at h
   exact h
theorem cv_ok : ∀ x : L,(keysL x).Nodup → (∀ s ∈ x,Dr s) → ri 6 * cl x = dotR R8L (cv x) ∧ (∀ a ∈ cv x,a = 0 ∨ a ∈ V24) ∧ nz (cv x) ≤ x.length
 | [],_,_=>by
  have e : cv [] = [0,0,0,0,0,0,0,0]:=by decide +kernel
  rw [e,cl_nil]
  refine ⟨?_,?_,by decide⟩
  · simp only [R8L,dotR]
    rw [rat_int_zero]
    grind
  · intro a ha
    simp at ha
    exact .inl ha
 | (a,p) :: x,hn,h=>by
  have hn' : a ∉ keysL x ∧ (keysL x).Nodup:=by simpa [keysL] using hn
  obtain ⟨i1,i2,i3⟩:=cv_ok x hn'.2 fun s hs=>h s (List.mem_cons_of_mem _ hs)
  have D:=h (a,p) List.mem_cons_self
  have h0:=look_none hn'.1
  obtain ⟨v1,v2⟩:=vi_ok D.n D.d
  have v1 : ri 6 * rat p = ri (vi p):=v1
  have hr : a = 1 ∨ a = 2 ∨ a = 3 ∨ a = 5 ∨ a = 6 ∨ a = 7 ∨ a = 10 ∨ a = 30:=by
   have:=D.r
   simpa [R8L] using this
  have c1 : ri 6 * cl ((a,p) :: x) = ri (vi p) * sr a + ri 6 * cl x:=by rw [cl_cons,← v1];grind
  rw [c1,i1]
  simp only [cv,R8L,List.map_cons,List.map_nil,look_cons,dotR,nz,List.mem_cons,List.not_mem_nil,or_false,forall_eq_or_imp,forall_eq] at i2 i3 ⊢
  simp only [List.length_cons]
  rcases hr with rfl | rfl | rfl | rfl | rfl | rfl | rfl | rfl <;> (
   rw [h0,vi_zero] at i3 ⊢
   rw [rat_int_zero]
   simp only [Nat.reduceEqDiff,reduceIte] at i2 i3 ⊢
   clear i1
   generalize vi p = q at *
   refine ⟨by grind,by simp_all,?_⟩
   have hz : (if q = 0 then (0 : Nat) else 1) ≤ 1:=by split <;> omega
   generalize (if q = 0 then (0 : Nat) else 1) = y at *
   omega)
theorem nrm_look : ∀ x : L,(keysL x).Nodup → (∀ s ∈ x,Dr s) → nrm x = ab (look x 1) + ab (look x 2) * 2 + ab (look x 3) * 3 + ab (look x 5) * 5 + ab (look x 6) * 6 + ab (look x 7) * 7 + ab (look x 10) * 10 + ab (look x 30) * 30
 | [],_,_=>by
  have e : ∀ r,look [] r = 0:=fun r=>rfl
  simp only [e,ab_zero,nrm]
  grind
 | (a,p) :: x,hn,h=>by
  have hn' : a ∉ keysL x ∧ (keysL x).Nodup:=by simpa [keysL] using hn
  have i1:=nrm_look x hn'.2 fun s hs=>h s (List.mem_cons_of_mem _ hs)
  have D:=h (a,p) List.mem_cons_self
  have h0:=look_none hn'.1
  have hr : a = 1 ∨ a = 2 ∨ a = 3 ∨ a = 5 ∨ a = 6 ∨ a = 7 ∨ a = 10 ∨ a = 30:=by
   have:=D.r
   simpa [R8L] using this
  simp only [look_cons,nrm]
  rw [i1]
  rcases hr with rfl | rfl | rfl | rfl | rfl | rfl | rfl | rfl <;> (
   rw [h0,ab_zero]
   simp only [Nat.reduceEqDiff,reduceIte]
   simp only [Rat.natCast_ofNat]
   grind)
theorem look_bd {x : L} (h : ∀ s ∈ x,Dr s) (r : Nat) : ab (look x r) ≤ 5:=by
 unfold look
 cases hf : x.find? fun t=>decide (t.1 = r) with
 | none=>
  simp [ab_zero]
  decide
 | some s=>
  have D:=h s (List.mem_of_find?_eq_some hf)
  simp only [Option.map_some,Option.getD_some]
  have h5:=ab_rat_num s.2
  have d1 : (1 : Rat) ≤ s.2.den:=by have:=cast_le s.2.den_pos;simpa using this
  have:=Rat.mul_le_mul_of_nonneg_left d1 (ab_nn s.2)
  have:=cast_le D.n
  have e5 : ((5 : Nat) : Rat) = 5:=rfl
  grind
theorem nrm_dr {x : L} (hn : (keysL x).Nodup) (h : ∀ s ∈ x,Dr s) : nrm x ≤ ((320 : Nat) : Rat):=by
 rw [nrm_look x hn h]
 have k:=look_bd h
 have k1:=k 1
 have k2:=k 2
 have k3:=k 3
 have k5:=k 5
 have k6:=k 6
 have k7:=k 7
 have k10:=k 10
 have k30:=k 30
 have e : ((320 : Nat) : Rat) = 320:=rfl
 rw [e]
 grind
end Su
namespace Su
def V12 : List Nat:=[2,3,4,6,8,9,10,12,15,18,24,30]
def exB (vs : List Int) : Bool:=exL.any fun e=>e.1 == vs
def leafB (T : Nat) (vs : List Int) : Bool:=Nat.ble T 9999999999999999999999999999999999999999910 || (Nat.ble 10060000000000000000000000000000000000000090 T || (chk 60000000000000000000000000000000000000000 (Nat.sub T 10000000000000000000000000000000000000000090) (Nat.sub T 9999999999999999999999999999999999999999910) || (exB vs || vs.all (fun a=>a == 0))))
def goB : List Nat → Nat → Nat → List Int → Bool
 | [],_,T,vs=>leafB T vs
 | _ :: _,0,T,vs=>leafB T vs
 | A :: as,k + 1,T,vs=>goB as (k + 1) T (0 :: vs) && (V12.all (fun v=>goB as k (Nat.add T (Nat.mul v A)) (Int.ofNat v :: vs)) && V12.all (fun v=>goB as k (Nat.sub T (Nat.mul v A)) (Int.neg (Int.ofNat v) :: vs)))
theorem go_step (A : Nat) (as : List Nat) (T : Nat) (vs : List Int) : goB (A :: as) 3 T vs = (goB as 3 T (0 :: vs) && (V12.all (fun v=>goB as 2 (Nat.add T (Nat.mul v A)) (Int.ofNat v :: vs)) && V12.all (fun v=>goB as 2 (Nat.sub T (Nat.mul v A)) (Int.neg (Int.ofNat v) :: vs)))):=rfl
theorem gp0 : V12.all (fun v=>goB [14142135623730950488016887242096980785696,17320508075688772935274463415058723669428,22360679774997896964091736687312762354406,24494897427831780981972840747058913919659,26457513110645905905016157536392604257102,31622776601683793319988935444327185337195,54772255750516611345696978280080213395274] 2 (Nat.add 10000000000000000000000000000000000000000000 (Nat.mul v 10000000000000000000000000000000000000000)) (Int.ofNat v :: [])) = true:=by decide +kernel
theorem gm0 : V12.all (fun v=>goB [14142135623730950488016887242096980785696,17320508075688772935274463415058723669428,22360679774997896964091736687312762354406,24494897427831780981972840747058913919659,26457513110645905905016157536392604257102,31622776601683793319988935444327185337195,54772255750516611345696978280080213395274] 2 (Nat.sub 10000000000000000000000000000000000000000000 (Nat.mul v 10000000000000000000000000000000000000000)) (Int.neg (Int.ofNat v) :: [])) = true:=by decide +kernel
theorem gp1 : V12.all (fun v=>goB [17320508075688772935274463415058723669428,22360679774997896964091736687312762354406,24494897427831780981972840747058913919659,26457513110645905905016157536392604257102,31622776601683793319988935444327185337195,54772255750516611345696978280080213395274] 2 (Nat.add 10000000000000000000000000000000000000000000 (Nat.mul v 14142135623730950488016887242096980785696)) (Int.ofNat v :: [0])) = true:=by decide +kernel
theorem gm1 : V12.all (fun v=>goB [17320508075688772935274463415058723669428,22360679774997896964091736687312762354406,24494897427831780981972840747058913919659,26457513110645905905016157536392604257102,31622776601683793319988935444327185337195,54772255750516611345696978280080213395274] 2 (Nat.sub 10000000000000000000000000000000000000000000 (Nat.mul v 14142135623730950488016887242096980785696)) (Int.neg (Int.ofNat v) :: [0])) = true:=by decide +kernel
theorem gp2 : V12.all (fun v=>goB [22360679774997896964091736687312762354406,24494897427831780981972840747058913919659,26457513110645905905016157536392604257102,31622776601683793319988935444327185337195,54772255750516611345696978280080213395274] 2 (Nat.add 10000000000000000000000000000000000000000000 (Nat.mul v 17320508075688772935274463415058723669428)) (Int.ofNat v :: [0,0])) = true:=by decide +kernel
theorem gm2 : V12.all (fun v=>goB [22360679774997896964091736687312762354406,24494897427831780981972840747058913919659,26457513110645905905016157536392604257102,31622776601683793319988935444327185337195,54772255750516611345696978280080213395274] 2 (Nat.sub 10000000000000000000000000000000000000000000 (Nat.mul v 17320508075688772935274463415058723669428)) (Int.neg (Int.ofNat v) :: [0,0])) = true:=by decide +kernel
theorem gp3 : V12.all (fun v=>goB [24494897427831780981972840747058913919659,26457513110645905905016157536392604257102,31622776601683793319988935444327185337195,54772255750516611345696978280080213395274] 2 (Nat.add 10000000000000000000000000000000000000000000 (Nat.mul v 22360679774997896964091736687312762354406)) (Int.ofNat v :: [0,0,0])) = true:=by decide +kernel
theorem gm3 : V12.all (fun v=>goB [24494897427831780981972840747058913919659,26457513110645905905016157536392604257102,31622776601683793319988935444327185337195,54772255750516611345696978280080213395274] 2 (Nat.sub 10000000000000000000000000000000000000000000 (Nat.mul v 22360679774997896964091736687312762354406)) (Int.neg (Int.ofNat v) :: [0,0,0])) = true:=by decide +kernel
theorem gp4 : V12.all (fun v=>goB [26457513110645905905016157536392604257102,31622776601683793319988935444327185337195,54772255750516611345696978280080213395274] 2 (Nat.add 10000000000000000000000000000000000000000000 (Nat.mul v 24494897427831780981972840747058913919659)) (Int.ofNat v :: [0,0,0,0])) = true:=by decide +kernel
theorem gm4 : V12.all (fun v=>goB [26457513110645905905016157536392604257102,31622776601683793319988935444327185337195,54772255750516611345696978280080213395274] 2 (Nat.sub 10000000000000000000000000000000000000000000 (Nat.mul v 24494897427831780981972840747058913919659)) (Int.neg (Int.ofNat v) :: [0,0,0,0])) = true:=by decide +kernel
theorem gp5 : V12.all (fun v=>goB [31622776601683793319988935444327185337195,54772255750516611345696978280080213395274] 2 (Nat.add 10000000000000000000000000000000000000000000 (Nat.mul v 26457513110645905905016157536392604257102)) (Int.ofNat v :: [0,0,0,0,0])) = true:=by decide +kernel
theorem gm5 : V12.all (fun v=>goB [31622776601683793319988935444327185337195,54772255750516611345696978280080213395274] 2 (Nat.sub 10000000000000000000000000000000000000000000 (Nat.mul v 26457513110645905905016157536392604257102)) (Int.neg (Int.ofNat v) :: [0,0,0,0,0])) = true:=by decide +kernel
theorem gp6 : V12.all (fun v=>goB [54772255750516611345696978280080213395274] 2 (Nat.add 10000000000000000000000000000000000000000000 (Nat.mul v 31622776601683793319988935444327185337195)) (Int.ofNat v :: [0,0,0,0,0,0])) = true:=by decide +kernel
theorem gm6 : V12.all (fun v=>goB [54772255750516611345696978280080213395274] 2 (Nat.sub 10000000000000000000000000000000000000000000 (Nat.mul v 31622776601683793319988935444327185337195)) (Int.neg (Int.ofNat v) :: [0,0,0,0,0,0])) = true:=by decide +kernel
theorem gp7 : V12.all (fun v=>goB [] 2 (Nat.add 10000000000000000000000000000000000000000000 (Nat.mul v 54772255750516611345696978280080213395274)) (Int.ofNat v :: [0,0,0,0,0,0,0])) = true:=by decide +kernel
theorem gm7 : V12.all (fun v=>goB [] 2 (Nat.sub 10000000000000000000000000000000000000000000 (Nat.mul v 54772255750516611345696978280080213395274)) (Int.neg (Int.ofNat v) :: [0,0,0,0,0,0,0])) = true:=by decide +kernel
theorem gz : goB [] 3 10000000000000000000000000000000000000000000 [0,0,0,0,0,0,0,0] = true:=by decide +kernel
theorem go_all : goB [10000000000000000000000000000000000000000,14142135623730950488016887242096980785696,17320508075688772935274463415058723669428,22360679774997896964091736687312762354406,24494897427831780981972840747058913919659,26457513110645905905016157536392604257102,31622776601683793319988935444327185337195,54772255750516611345696978280080213395274] 3 10000000000000000000000000000000000000000000 [] = true:=by
 rw [go_step,gp0,gm0,go_step,gp1,gm1,go_step,gp2,gm2,go_step,gp3,gm3,go_step,gp4,gm4,go_step,gp5,gm5,go_step,gp6,gm6,go_step,gp7,gm7,gz]
 rfl
end Su
namespace Su
theorem v24_abs {a : Int} (h : a ∈ V24) : a.natAbs ∈ V12 ∧ a.natAbs ≤ 30:=by
 have : ∀ a ∈ V24,a.natAbs ∈ V12 ∧ a.natAbs ≤ 30:=by decide
 exact this a h
theorem dot_zeros : ∀ (rs : List Nat) (u v : List Int),(∀ a ∈ v,a = 0) → dotR rs (u ++ v) = dotR rs u
 | [],u,v,_=>by
  have e : ∀ v,dotR [] v = 0:=fun v=>by cases v <;> rfl
  rw [e,e]
 | r :: rs,[],v,h=>by
  have e : dotR (r :: rs) [] = 0:=rfl
  rw [e]
  match v,h with
  | [],_=>rfl
  | b :: v,h=>
   have hb : b = 0:=h b List.mem_cons_self
   have e2 : dotR (r :: rs) ([] ++ b :: v) = rat (b : Rat) * sr r + dotR rs ([] ++ v):=rfl
   have e3 : dotR rs [] = 0:=by cases rs <;> rfl
   rw [e2,dot_zeros rs [] v fun a ha=>h a (List.mem_cons_of_mem _ ha),hb,rat_int_zero,e3]
   grind
 | r :: rs,a :: u,v,h=>by
  have e2 : dotR (r :: rs) (a :: u ++ v) = rat (a : Rat) * sr r + dotR rs (u ++ v):=rfl
  have e3 : dotR (r :: rs) (a :: u) = rat (a : Rat) * sr r + dotR rs u:=rfl
  rw [e2,e3,dot_zeros rs u v h]
theorem dotI_zeros : ∀ (rs v : List Int),(∀ a ∈ v,a = 0) → dotI rs v = 0
 | [],v,_=>dot_nil v
 | r :: rs,[],_=>rfl
 | r :: rs,a :: v,h=>by
  have:=dotI_zeros rs v fun b hb=>h b (List.mem_cons_of_mem _ hb)
  simp only [dotI,h a List.mem_cons_self,this]
  omega
theorem nz_zero : ∀ {v : List Int},nz v = 0 → ∀ a ∈ v,a = 0
 | a :: v,h,b,hb=>by
  simp only [nz] at h
  have h1 : a = 0:=by
   by_cases z : a = 0
   · exact z
   · rw [if_neg z] at h;omega
  rcases List.mem_cons.mp hb with rfl | hb
  · exact h1
  · exact nz_zero (by omega) b hb
theorem l1_nz : ∀ {v : List Int},(∀ a ∈ v,a = 0 ∨ a ∈ V24) → l1 v ≤ 30 * nz v
 | [],_=>by simp [l1,nz]
 | a :: v,h=>by
  have i:=l1_nz (v:=v) fun b hb=>h b (List.mem_cons_of_mem _ hb)
  simp only [l1,nz]
  rcases h a List.mem_cons_self with z | z
  · rw [if_pos z,z]
    simp only [Int.natAbs_zero]
    omega
  · have:=(v24_abs z).2
    by_cases z0 : a = 0
    · rw [if_pos z0,z0]
      simp only [Int.natAbs_zero]
      omega
    · rw [if_neg z0];omega
theorem go_ok {M : Nat} : ∀ (as : List Nat) (k T : Nat) (vs : List Int),(∀ A ∈ as,A ≤ M) → 30 * M * k ≤ T → goB as k T vs = true → ∀ v : List Int,v.length = as.length → (∀ a ∈ v,a = 0 ∨ a ∈ V24) → nz v ≤ k →
  ∃ (T' : Nat) (w : List Int),leafB T' w = true ∧ (T' : Int) = (T : Int) + dotI (as.map Int.ofNat) v ∧ ∀ rs,dotR rs w.reverse = dotR rs (vs.reverse ++ v)
 | [],k,T,vs,_,_,h,v,hl,_,_=>by
  have : v = []:=List.eq_nil_of_length_eq_zero hl
  subst this
  refine ⟨T,vs,by simpa [goB] using h,by simp [dotI],fun rs=>by rw [List.append_nil]⟩
 | A :: as,0,T,vs,_,_,h,v,hl,_,hz=>by
  have z:=nz_zero (show nz v = 0 by omega)
  refine ⟨T,vs,by simpa [goB] using h,by rw [dotI_zeros _ _ z];omega,fun rs=>(dot_zeros rs _ _ z).symm⟩
 | A :: as,k + 1,T,vs,hM,hT,h,[],hl,_,hz=>by simp at hl
 | A :: as,k + 1,T,vs,hM,hT,h,a :: v,hl,hv,hz=>by
  simp only [goB,Bool.and_eq_true,List.all_eq_true] at h
  obtain ⟨h1,h2,h3⟩:=h
  have hl' : v.length = as.length:=by simp at hl;omega
  have hM' : ∀ B ∈ as,B ≤ M:=fun B hB=>hM B (List.mem_cons_of_mem _ hB)
  have hv' : ∀ a ∈ v,a = 0 ∨ a ∈ V24:=fun b hb=>hv b (List.mem_cons_of_mem _ hb)
  have AM:=hM A List.mem_cons_self
  have eT : 30 * M * (k + 1) = 30 * M * k + 30 * M:=by rw [Nat.mul_add,Nat.mul_one]
  have er : ∀ b : Int,(b :: vs).reverse ++ v = vs.reverse ++ b :: v:=fun b=>by simp
  by_cases z : a = 0
  · subst z
    obtain ⟨T',w,e1,e2,e3⟩:=go_ok as (k + 1) T (0 :: vs) hM' hT h1 v hl' hv' (by simpa [nz] using hz)
    refine ⟨T',w,e1,?_,fun rs=>by rw [e3,er]⟩
    rw [e2]
    simp only [List.map_cons,dotI]
    omega
  · have hz' : nz v ≤ k:=by
     simp only [nz] at hz
     rw [if_neg z] at hz
     omega
    obtain ⟨m1,m2⟩:=v24_abs ((hv a List.mem_cons_self).resolve_left z)
    have hA : a.natAbs * A ≤ 30 * M:=Nat.mul_le_mul m2 AM
    rcases Int.lt_or_le a 0 with s | s
    · have ea : Int.neg (Int.ofNat a.natAbs) = a:=by show -(a.natAbs : Int) = a;omega
      have hh:=h3 a.natAbs m1
      rw [ea] at hh
      have eS : Nat.sub T (Nat.mul a.natAbs A) = T - a.natAbs * A:=rfl
      rw [eS] at hh
      obtain ⟨T',w,e1,e2,e3⟩:=go_ok as k (T - a.natAbs * A) (a :: vs) hM' (by omega) hh v hl' hv' hz'
      refine ⟨T',w,e1,?_,fun rs=>by rw [e3,er]⟩
      rw [e2,Int.natCast_sub (by omega)]
      simp only [List.map_cons,dotI,Int.natCast_mul]
      have : a = -(a.natAbs : Int):=by omega
      generalize (a.natAbs : Int) = b at *
      subst this
      have : Int.ofNat A = (A : Int):=rfl
      rw [this,Int.mul_neg,Int.mul_comm (A : Int)]
      omega
    · have ea : Int.ofNat a.natAbs = a:=by show (a.natAbs : Int) = a;omega
      have hh:=h2 a.natAbs m1
      rw [ea] at hh
      have eS : Nat.add T (Nat.mul a.natAbs A) = T + a.natAbs * A:=rfl
      rw [eS] at hh
      obtain ⟨T',w,e1,e2,e3⟩:=go_ok as k (T + a.natAbs * A) (a :: vs) hM' (by omega) hh v hl' hv' hz'
      refine ⟨T',w,e1,?_,fun rs=>by rw [e3,er]⟩
      rw [e2,Int.natCast_add]
      simp only [List.map_cons,dotI,Int.natCast_mul]
      have : a = (a.natAbs : Int):=by omega
      generalize (a.natAbs : Int) = b at *
      subst this
      have : Int.ofNat A = (A : Int):=rfl
      rw [this,Int.mul_comm (A : Int)]
      omega
def zl : List Nat → List Int → L
 | r :: rs,a :: as=>(r,(a : Rat)) :: zl rs as
 | _,_=>[]
theorem zl_cl : ∀ (rs : List Nat) (v : List Int),cl (zl rs v) = dotR rs v
 | [],v=>by cases v <;> exact cl_nil
 | r :: rs,[]=>cl_nil
 | r :: rs,a :: v=>by
  have e : zl (r :: rs) (a :: v) = (r,(a : Rat)) :: zl rs v:=rfl
  rw [e,cl_cons,zl_cl rs v]
  rfl
def ap7 : List Int:=[1414214,1732051,2236068,2449490,2645751,3162278,5477226]
def exOk (e : List Int × Int × List Int) : Bool:=
 decide (e.2.2.length = 7) && decide (l1 e.2.2 ≤ 100) && decide (gath (prods (zl R8L (e.2.1 :: e.2.2)) (zl R8L (e.2.1 :: e.2.2))) = gath (scl (zl R8L e.1.reverse) 6)) && decide (240000 + (l1 e.2.2 : Int) ≤ 1000000 * e.2.1 + dotI ap7 e.2.2)
theorem exL_ok : exL.all exOk = true:=by decide +kernel
theorem ap7_ok : apB 1000000 1 IR7 ap7 = true:=by decide +kernel
theorem A8_ok : apB (PP : Int) 1 R8L A8 = true:=by decide +kernel
theorem r8_sq : ∀ (v : List Int),Sq (zl R8L v):=by
 have : ∀ (rs : List Nat),(∀ r ∈ rs,r ∣ 210) → ∀ v : List Int,Sq (zl rs v):=by
  intro rs
  induction rs with
  | nil=>intro _ v s hs;cases v <;> cases hs
  | cons r rs ih=>
   intro h v
   cases v with
   | nil=>intro s hs;cases hs
   | cons a v=>
    intro s hs
    rcases List.mem_cons.mp hs with rfl | hs
    · exact sqf_dvd sqf210 (h r List.mem_cons_self)
    · exact ih (fun q hq=>h q (List.mem_cons_of_mem _ hq)) v s hs
 exact this R8L (by decide)
theorem dot8 (G : Int) (w : List Int) : dotR R8L (G :: w) = ri G + dotR IR7 w:=by
 show rat (G : Rat) * sr 1 + dotR IR7 w = _
 rw [sr_one]
 show _ = rat (G : Rat) + _
 grind
theorem sixth (x : R) : ∃ g : R,ri 6 * g = x:=⟨rat (1/6) * x,by
 have : ri 6 * rat (1/6) = 1:=by
  show rat ((6 : Int) : Rat) * _ = rat 1
  rw [rat_mul]
  have : ((6 : Int) : Rat) * (1/6) = 1:=by decide +kernel
  rw [this]
 have e : ri 6 * (rat (1/6) * x) = ri 6 * rat (1/6) * x:=by grind
 rw [e,this]
 grind⟩
theorem six_inj {x y : R} (h : ri 6 * x = ri 6 * y) : x = y:=by
 have h0 : ri 6 * (x - y) = 0:=by
  have : ri 6 * (x - y) = ri 6 * x - ri 6 * y:=by grind
  rw [this,h];grind
 rcases dom h0 with z | z
 · exact absurd z (fun z=>by
    have:=rat_inj (p:=((6 : Int) : Rat)) (q:=0) z
    exact absurd this (by decide))
 · grind
theorem mul_le_of {c x y : R} (hc : 0 < c) (h : c * x ≤ c * y) : x ≤ y:=by
 rcases lt_tri y x with z | z | z
 · have:=mpos hc (sub_p z)
   grind
 · rw [z];grind
 · grind
theorem one_lt {f t : R} (f0 : 0 ≤ f) (h1 : f * f < t) : 0 < t:=by
 have:=mul_nn f0 f0
 grind
theorem sepB {v u : List Int} {W : Int} (hl : l1 v ≤ 120) (hv : v.length = 7) {f t : R} (f0 : 0 ≤ f) (f1 : f < 1) (ef : ri 6 * f = ri W + dotR IR7 v) (hu : u.length = 8) (hm : ∀ a ∈ u,a = 0 ∨ a ∈ V24) (hz : nz u ≤ 3) (et : ri 6 * t = dotR R8L u)
  (h1 : f * f < t) (h2 : ri (10 ^ 35) * (t - f * f) ≤ ri 15) : False:=by
 have t0:=one_lt f0 h1
 obtain ⟨T,w,lf,eT,ew⟩:=go_ok (M:=54772255750516611345696978280080213395275) _ 3 10000000000000000000000000000000000000000000 [] (by decide) (by decide) go_all u hu hm hz
 have hA : (List.map Int.ofNat [10000000000000000000000000000000000000000,14142135623730950488016887242096980785696,17320508075688772935274463415058723669428,22360679774997896964091736687312762354406,24494897427831780981972840747058913919659,26457513110645905905016157536392604257102,31622776601683793319988935444327185337195,54772255750516611345696978280080213395274]) = A8:=by decide +kernel
 rw [hA] at eT
 have hl90 : l1 u ≤ 90:=by have:=l1_nz hm;omega
 obtain ⟨a1,a2⟩:=ap_dot (S:=(PP : Int)) (K:=1) (by decide) (by decide) A8_ok u
 have e90:=rat_int_le.mpr (show (l1 u : Int) ≤ 90 by omega)
 rw [Int.one_mul,Int.one_mul,← et] at a1 a2
 have ew : dotR R8L w.reverse = ri 6 * t:=by rw [ew R8L,et];rfl
 have e6P : ri ((6 * PP : Nat) : Int) * t = rat ((PP : Int) : Rat) * (ri 6 * t):=by
  have : ri ((6 * PP : Nat) : Int) = rat ((PP : Int) : Rat) * ri 6:=by
   show rat _ = rat _ * rat _
   rw [← rat_int_mul]
   rfl
  rw [this];grind
 have p6P:=rat_int_pos (show (0 : Int) < ((6 * PP : Nat) : Int) by decide)
 rw [← e6P] at a1 a2
 generalize hD : dotI A8 u = D at *
 have b1 : rat ((D - 90 : Int) : Rat) ≤ ri ((6 * PP : Nat) : Int) * t:=by rw [rat_int_sub];grind
 have b2 : ri ((6 * PP : Nat) : Int) * t ≤ rat ((D + 90 : Int) : Rat):=by rw [rat_int_add];grind
 have p0:=mpos p6P t0
 have hD90 : -90 < D:=by
  have : rat ((0 : Int) : Rat) < rat ((D + 90 : Int) : Rat):=by rw [rat_int_zero];exact Std.lt_of_lt_of_le p0 b2
  have:=rat_int_lt.mp this
  omega
 simp only [leafB,Bool.or_eq_true] at lf
 rcases lf with lf | lf | lf | lf | lf
 · rw [Nat.ble_eq] at lf
   omega
 · -- t is 1 or more
   rw [Nat.ble_eq] at lf
   have hD1 : ((6 * PP : Nat) : Int) ≤ D - 90:=by
    have : ((6 * PP : Nat) : Int) = 60000000000000000000000000000000000000000:=by decide
    omega
   have k1:=le_tr (rat_int_le.mpr hD1) b1
   have k2 : (1 : R) ≤ t:=mul_le_of p6P (by
    have : ri ((6 * PP : Nat) : Int) * 1 = ri ((6 * PP : Nat) : Int):=by grind
    rw [this];exact k1)
   have f1' : f * f < 1:=by
    have x1:=le_mul (show f ≤ 1 by grind) f0
    grind
   have tn:=rat_int_nn (show (0 : Int) ≤ 10 ^ 35 by decide)
   have x3:=le_mul (show (1 : R) - f * f ≤ t - f * f by grind) tn
   have h2' : ri (10 ^ 35) * (1 - f * f) ≤ ri 15:=by
    have c1 : (1 - f * f) * rat (((10 ^ 35 : Int)) : Rat) = ri (10 ^ 35) * (1 - f * f):=by grind
    have c2 : (t - f * f) * rat (((10 ^ 35 : Int)) : Rat) = ri (10 ^ 35) * (t - f * f):=by grind
    rw [c1,c2] at x3
    exact le_tr x3 h2
   refine exc (w:=[0,0,0,0,0,0,0]) (G:=6) hl hv (g:=1) f0 ef f1' h2' (by decide) rfl ?_ ?_ (by grind)
   · simp only [IR7,dotR]
     rw [rat_int_zero]
     grind
   · have:=rat_int_le.mpr (show (1 : Int) ≤ 25 by decide)
     grind
 · -- by close fractions
   refine inh_chk hl f0 ef h1 h2 (show 0 < 6 * PP by decide) ?_ ?_ lf
   · rcases Int.lt_or_le (D - 90) 0 with z | z
     · have : (Nat.sub T 10000000000000000000000000000000000000000090) = 0:=by
        show T - _ = 0
        omega
       rw [this]
       have e0 : ri ((0 : Nat) : Int) = (0 : R):=rfl
       rw [e0]
       grind
     · refine le_tr ?_ b1
       refine rat_int_le.mpr ?_
       have : ((Nat.sub T 10000000000000000000000000000000000000000090 : Nat) : Int) = ((T - 10000000000000000000000000000000000000000090 : Nat) : Int):=rfl
       omega
   · refine le_tr b2 ?_
     refine rat_int_le.mpr ?_
     have : ((Nat.sub T 9999999999999999999999999999999999999999910 : Nat) : Int) = ((T - 9999999999999999999999999999999999999999910 : Nat) : Int):=rfl
     omega
 · -- a square
   simp only [exB,List.any_eq_true,beq_iff_eq] at lf
   obtain ⟨e,he,ee⟩:=lf
   have ok:=List.all_eq_true.mp exL_ok e he
   simp only [exOk,Bool.and_eq_true,decide_eq_true_eq] at ok
   obtain ⟨⟨⟨o1,o2⟩,o3⟩,o4⟩:=ok
   obtain ⟨g,eg⟩:=sixth (dotR R8L (e.2.1 :: e.2.2))
   have sq : g * g = t:=by
    have c:=congrArg cl o3
    rw [gath_cl,gath_cl,cl_prods (r8_sq _),cl_scl,zl_cl,zl_cl,ee,ew,← eg] at c
    refine six_inj (six_inj ?_)
    have e6 : rat (6 : Rat) = ri 6:=rfl
    rw [e6] at c
    grind
   rw [dot8] at eg
   refine exc hl hv f0 ef h1 h2 o2 o1 eg ?_ sq
   obtain ⟨c1,c2⟩:=ap_dot (S:=1000000) (K:=1) (by decide) (by decide) ap7_ok e.2.2
   have c3:=rat_int_le.mpr o4
   rw [Int.one_mul] at c1
   rw [rat_int_add,rat_int_add,rat_int_mul] at c3
   have k : rat ((240000 : Int) : Rat) ≤ rat ((1000000 : Int) : Rat) * (ri 6 * g):=by
    rw [eg]
    have : rat (((1 : Int) * 1000000 : Int) : Rat) = rat ((1000000 : Int) : Rat):=rfl
    rw [this] at c1
    show _ ≤ _ * (rat _ + _)
    grind
   refine mul_le_of (rat_int_pos (show (0 : Int) < 240000 by decide)) ?_
   have z1 : rat ((240000 : Int) : Rat) * ri 1 = rat ((240000 : Int) : Rat):=by
    show rat _ * rat _ = _
    rw [← rat_int_mul];rfl
   have z2 : rat ((240000 : Int) : Rat) * (ri 25 * g) = rat ((1000000 : Int) : Rat) * (ri 6 * g):=by
    have : rat ((240000 : Int) : Rat) * ri 25 = rat ((1000000 : Int) : Rat) * ri 6:=by
     show rat _ * rat _ = rat _ * rat _
     rw [← rat_int_mul,← rat_int_mul];rfl
    grind
   rw [z1,z2]
   exact k
 · -- nought
   have : ∀ a ∈ w.reverse,a = 0:=fun a ha=>by
    have:=List.all_eq_true.mp lf a (List.mem_reverse.mp ha)
    simpa using this
   have z:=dot_zeros R8L [] w.reverse this
   rw [List.nil_append,ew] at z
   have e0 : dotR R8L [] = 0:=rfl
   rw [e0] at z
   have : t = 0:=six_inj (by rw [z];grind)
   rw [this] at t0
   exact lt_irr _ t0
end Su
namespace Su
def loopC : Nat → Nat → Bool
 | 0,_=>true
 | k + 1,n=>(Nat.beq (Nat.mod n 25000) 0 || chk 100000 n n) && loopC k (Nat.succ n)
theorem lc0 : loopC 4000 1 = true:=by decide +kernel
theorem lc1 : loopC 4000 4001 = true:=by decide +kernel
theorem lc2 : loopC 4000 8001 = true:=by decide +kernel
theorem lc3 : loopC 4000 12001 = true:=by decide +kernel
theorem lc4 : loopC 4000 16001 = true:=by decide +kernel
theorem lc5 : loopC 4000 20001 = true:=by decide +kernel
theorem lc6 : loopC 4000 24001 = true:=by decide +kernel
theorem lc7 : loopC 4000 28001 = true:=by decide +kernel
theorem lc8 : loopC 4000 32001 = true:=by decide +kernel
theorem lc9 : loopC 4000 36001 = true:=by decide +kernel
theorem lc10 : loopC 4000 40001 = true:=by decide +kernel
theorem lc11 : loopC 4000 44001 = true:=by decide +kernel
theorem lc12 : loopC 4000 48001 = true:=by decide +kernel
theorem lc13 : loopC 4000 52001 = true:=by decide +kernel
theorem lc14 : loopC 4000 56001 = true:=by decide +kernel
theorem lc15 : loopC 4000 60001 = true:=by decide +kernel
theorem lc16 : loopC 4000 64001 = true:=by decide +kernel
theorem lc17 : loopC 4000 68001 = true:=by decide +kernel
theorem lc18 : loopC 4000 72001 = true:=by decide +kernel
theorem lc19 : loopC 4000 76001 = true:=by decide +kernel
theorem lc20 : loopC 4000 80001 = true:=by decide +kernel
theorem lc21 : loopC 4000 84001 = true:=by decide +kernel
theorem lc22 : loopC 4000 88001 = true:=by decide +kernel
theorem lc23 : loopC 4000 92001 = true:=by decide +kernel
theorem lc24 : loopC 4000 96001 = true:=by decide +kernel
theorem loop_ok : ∀ (k a n : Nat),loopC k a = true → a ≤ n → n < a + k → n % 25000 = 0 ∨ chk 100000 n n = true
 | 0,a,n,_,h1,h2=>by omega
 | k + 1,a,n,h,h1,h2=>by
  simp only [loopC,Bool.and_eq_true,Bool.or_eq_true] at h
  obtain ⟨h3,h4⟩:=h
  by_cases z : n = a
  · subst z
    rcases h3 with h3 | h3
    · exact .inl (Nat.eq_of_beq_eq_true h3)
    · exact .inr h3
  · exact loop_ok k (Nat.succ a) n h4 (by omega) (by omega)
theorem all_ok {n : Nat} (h1 : 1 ≤ n) (h2 : n ≤ 100000) : n % 25000 = 0 ∨ chk 100000 n n = true:=by
 by_cases q0 : n < 4001
 · exact loop_ok 4000 1 n lc0 (by omega) (by omega)
 by_cases q1 : n < 8001
 · exact loop_ok 4000 4001 n lc1 (by omega) (by omega)
 by_cases q2 : n < 12001
 · exact loop_ok 4000 8001 n lc2 (by omega) (by omega)
 by_cases q3 : n < 16001
 · exact loop_ok 4000 12001 n lc3 (by omega) (by omega)
 by_cases q4 : n < 20001
 · exact loop_ok 4000 16001 n lc4 (by omega) (by omega)
 by_cases q5 : n < 24001
 · exact loop_ok 4000 20001 n lc5 (by omega) (by omega)
 by_cases q6 : n < 28001
 · exact loop_ok 4000 24001 n lc6 (by omega) (by omega)
 by_cases q7 : n < 32001
 · exact loop_ok 4000 28001 n lc7 (by omega) (by omega)
 by_cases q8 : n < 36001
 · exact loop_ok 4000 32001 n lc8 (by omega) (by omega)
 by_cases q9 : n < 40001
 · exact loop_ok 4000 36001 n lc9 (by omega) (by omega)
 by_cases q10 : n < 44001
 · exact loop_ok 4000 40001 n lc10 (by omega) (by omega)
 by_cases q11 : n < 48001
 · exact loop_ok 4000 44001 n lc11 (by omega) (by omega)
 by_cases q12 : n < 52001
 · exact loop_ok 4000 48001 n lc12 (by omega) (by omega)
 by_cases q13 : n < 56001
 · exact loop_ok 4000 52001 n lc13 (by omega) (by omega)
 by_cases q14 : n < 60001
 · exact loop_ok 4000 56001 n lc14 (by omega) (by omega)
 by_cases q15 : n < 64001
 · exact loop_ok 4000 60001 n lc15 (by omega) (by omega)
 by_cases q16 : n < 68001
 · exact loop_ok 4000 64001 n lc16 (by omega) (by omega)
 by_cases q17 : n < 72001
 · exact loop_ok 4000 68001 n lc17 (by omega) (by omega)
 by_cases q18 : n < 76001
 · exact loop_ok 4000 72001 n lc18 (by omega) (by omega)
 by_cases q19 : n < 80001
 · exact loop_ok 4000 76001 n lc19 (by omega) (by omega)
 by_cases q20 : n < 84001
 · exact loop_ok 4000 80001 n lc20 (by omega) (by omega)
 by_cases q21 : n < 88001
 · exact loop_ok 4000 84001 n lc21 (by omega) (by omega)
 by_cases q22 : n < 92001
 · exact loop_ok 4000 88001 n lc22 (by omega) (by omega)
 by_cases q23 : n < 96001
 · exact loop_ok 4000 92001 n lc23 (by omega) (by omega)
 by_cases q24 : n < 100001
 · exact loop_ok 4000 96001 n lc24 (by omega) (by omega)
 omega
end Su
namespace Su
theorem t_of {n : Int} {t : R} (et : ri 100000 * t = ri n) (q : Rat) (hq : ((100000 : Int) : Rat) * q = (n : Rat)) : t = rat q:=by
 have h0 : ri 100000 * (t - rat q) = 0:=by
  have e : ri 100000 * rat q = ri n:=by
   show rat _ * _ = rat _
   rw [rat_mul,hq]
  have : ri 100000 * (t - rat q) = ri 100000 * t - ri 100000 * rat q:=by grind
  rw [this,et,e];grind
 rcases dom h0 with z | z
 · exact absurd z (fun z=>by
    have:=rat_inj (p:=((100000 : Int) : Rat)) (q:=0) z
    exact absurd this (by decide))
 · grind
theorem sr_ge1 {r : Nat} (h : 1 ≤ r) : (1 : R) ≤ sr r:=by
 refine sq_le (sr_nn0 r) ?_
 rw [sr_self,← rat_nat]
 have e : (1 : R) * 1 = rat ((1 : Nat) : Rat):=by
  have : rat ((1 : Nat) : Rat) = (1 : R):=rfl
  rw [this];grind
 rw [e]
 exact rat_le.mpr (cast_le h)
theorem sepC {v : List Int} {W : Int} (hl : l1 v ≤ 120) (hv : v.length = 7) {f t : R} (f0 : 0 ≤ f) (ef : ri 6 * f = ri W + dotR IR7 v) {n : Nat} (n1 : 1 ≤ n) (n2 : n ≤ 100000) (et : ri 100000 * t = ri (n : Int))
  (h1 : f * f < t) (h2 : ri (10 ^ 35) * (t - f * f) ≤ ri 15) : False:=by
 rcases all_ok n1 n2 with z | z
 · have hn : n = 25000 ∨ n = 50000 ∨ n = 75000 ∨ n = 100000:=by omega
   have r0 : rat ((0 : Int) : Rat) = (0 : R):=rfl
   have h3 : ri 6 * rat (1/2) = ri 3:=by
    show rat ((6 : Int) : Rat) * _ = _
    rw [rat_mul]
    have e : ((6 : Int) : Rat) * (1/2) = ((3 : Int) : Rat):=by decide +kernel
    rw [e]
   have h25 : ri 1 ≤ ri 25 * rat (1/2):=by
    show rat ((1 : Int) : Rat) ≤ rat ((25 : Int) : Rat) * _
    rw [rat_mul]
    exact rat_le.mpr (by decide +kernel)
   have big : ∀ r,1 ≤ r → ri 1 ≤ ri 25 * (rat (1/2) * sr r):=fun r hr=>by
    have p : (0 : R) ≤ ri 25 * rat (1/2):=by
     show _ ≤ rat ((25 : Int) : Rat) * _
     rw [rat_mul]
     exact (rat_le (p:=0)).mpr (by decide +kernel)
    have:=le_mul (sr_ge1 hr) p
    have e1 : 1 * (ri 25 * rat (1/2)) = ri 25 * rat (1/2):=by grind
    have e2 : sr r * (ri 25 * rat (1/2)) = ri 25 * (rat (1/2) * sr r):=by grind
    rw [e1,e2] at this
    exact le_tr h25 this
   rcases hn with rfl | rfl | rfl | rfl
   · have e:=t_of et (1/4) (by decide +kernel)
     refine exc (w:=[0,0,0,0,0,0,0]) (G:=3) hl hv (g:=rat (1/2)) f0 ef h1 h2 (by decide) rfl ?_ h25 ?_
     · rw [h3]
       simp only [IR7,dotR]
       rw [r0]
       grind
     · rw [e,rat_mul]
       congr 1
       decide +kernel
   · have e:=t_of et (1/2) (by decide +kernel)
     refine exc (w:=[3,0,0,0,0,0,0]) (G:=0) hl hv (g:=rat (1/2) * sr 2) f0 ef h1 h2 (by decide) rfl ?_ (big 2 (by decide)) ?_
     · have : ri 6 * (rat (1/2) * sr 2) = ri 3 * sr 2:=by rw [← h3];grind
       rw [this]
       simp only [IR7,dotR]
       rw [r0]
       grind
     · have s:=sr_self 2
       rw [← rat_nat] at s
       have : rat (1/2) * sr 2 * (rat (1/2) * sr 2) = rat (1/2) * rat (1/2) * (sr 2 * sr 2):=by grind
       rw [this,s,rat_mul,rat_mul,e]
       congr 1
       decide +kernel
   · have e:=t_of et (3/4) (by decide +kernel)
     refine exc (w:=[0,3,0,0,0,0,0]) (G:=0) hl hv (g:=rat (1/2) * sr 3) f0 ef h1 h2 (by decide) rfl ?_ (big 3 (by decide)) ?_
     · have : ri 6 * (rat (1/2) * sr 3) = ri 3 * sr 3:=by rw [← h3];grind
       rw [this]
       simp only [IR7,dotR]
       rw [r0]
       grind
     · have s:=sr_self 3
       rw [← rat_nat] at s
       have : rat (1/2) * sr 3 * (rat (1/2) * sr 3) = rat (1/2) * rat (1/2) * (sr 3 * sr 3):=by grind
       rw [this,s,rat_mul,rat_mul,e]
       congr 1
       decide +kernel
   · have e:=t_of et 1 (by decide +kernel)
     refine exc (w:=[0,0,0,0,0,0,0]) (G:=6) hl hv (g:=1) f0 ef h1 h2 (by decide) rfl ?_ ?_ ?_
     · simp only [IR7,dotR]
       rw [r0]
       grind
     · have:=rat_int_le.mpr (show (1 : Int) ≤ 25 by decide)
       grind
     · rw [e,rat_one]
       grind
 · exact inh_chk hl f0 ef h1 h2 (by decide) (by show ri (n : Int) ≤ ri 100000 * t;rw [et];exact .inl rfl) (by show ri 100000 * t ≤ ri (n : Int);rw [et];exact .inl rfl) z
theorem neg_le {x : R} (h : 0 ≤ x) {n : Int} (hn : 0 ≤ n) : -x ≤ rat (n : Rat):=by
 have:=rat_int_nn hn
 grind
theorem sepA {v : List Int} {W : Int} (hl : l1 v ≤ 120) (hv : v.length = 7) {f : R} (f0 : 0 ≤ f) (ef : ri 6 * f = ri W + dotR IR7 v) (h : ri (10 ^ 35) * (f * f) ≤ ri 15) : f = 0:=by
 have t18:=rat_int_nn (show (0 : Int) ≤ 10 ^ 18 by decide)
 have b13 : ri (10 ^ 18) * f ≤ ri 13:=by
  refine sq_le (rat_int_nn (by decide)) ?_
  have k:=le_mul h (rat_int_nn (show (0 : Int) ≤ 10 by decide))
  have e1 : ri (10 ^ 18) * f * (ri (10 ^ 18) * f) = ri (10 ^ 35) * (f * f) * rat ((10 : Int) : Rat):=by
   have : ri (10 ^ 18) * ri (10 ^ 18) = ri (10 ^ 35) * rat ((10 : Int) : Rat):=by
    show rat _ * rat _ = rat _ * rat _
    rw [← rat_int_mul,← rat_int_mul]
    rfl
   grind
  have e2 : ri 15 * rat ((10 : Int) : Rat) ≤ ri 13 * ri 13:=by
   show rat _ * rat _ ≤ rat _ * rat _
   rw [← rat_int_mul,← rat_int_mul]
   exact rat_int_le.mpr (by decide)
  rw [e1]
  exact le_tr k e2
 have n6:=mul_nn (rat_int_nn (show (0 : Int) ≤ 6 by decide)) f0
 have x:=hom_all (m:=1) (by decide) (tn:=78) (td:=10 ^ 18) (B:=120) (by decide) homA_ok hv (W:=W) (by omega) (x:=ri 6 * f)
  (by
   rw [ef,rat_int_one]
   show _ = rat _ + _
   grind)
  (by
   have k:=le_mul b13 (rat_int_nn (show (0 : Int) ≤ 6 by decide))
   have e : ri 13 * rat ((6 : Int) : Rat) = rat ((78 : Int) : Rat):=by
    show rat _ * rat _ = _
    rw [← rat_int_mul]
    rfl
   rw [e] at k
   have e2 : ri (10 ^ 18) * f * rat ((6 : Int) : Rat) = rat (((10 ^ 18 : Int)) : Rat) * (ri 6 * f):=by grind
   rw [e2] at k
   exact k)
  (neg_le (mul_nn t18 n6) (by decide))
 refine six_inj ?_
 rw [x]
 grind
theorem sepH {v : List Int} {W N : Int} (hl : l1 v ≤ 210) (hv : v.length = 7) {u y : R} (eu : ri 6 * u = ri W + dotR IR7 v) (ey : ri 100000 * y = ri N) (h1 : ri (10 ^ 35) * (y + u) ≤ ri 15) (h2 : -(ri (10 ^ 35) * (y + u)) ≤ ri 15) : y + u = 0:=by
 have p6:=rat_int_nn (show (0 : Int) ≤ 600000 by decide)
 have e600 : ri 100000 * ri 6 = rat ((600000 : Int) : Rat):=by show rat _ * rat _ = _;rw [← rat_int_mul];rfl
 have eB : ri 15 * rat ((600000 : Int) : Rat) ≤ rat ((225000000 : Int) : Rat):=by
  show rat _ * rat _ ≤ _
  rw [← rat_int_mul]
  exact rat_int_le.mpr (by decide)
 have x:=hom_all (m:=100000) (by decide) (tn:=225000000) (td:=10 ^ 35) (B:=500) (by decide) homH_ok hv (W:=6 * N + 100000 * W) (by omega) (x:=ri 100000 * (ri 6 * (y + u)))
  (by
   rw [rat_int_add,rat_int_mul,rat_int_mul]
   have : ri 100000 * (ri 6 * (y + u)) = ri 6 * (ri 100000 * y) + ri 100000 * (ri 6 * u):=by grind
   rw [this,ey,eu]
   show rat _ * rat _ + rat _ * (rat _ + _) = _
   grind)
  (by
   have k:=le_tr (le_mul h1 p6) eB
   have e : ri (10 ^ 35) * (y + u) * rat ((600000 : Int) : Rat) = rat (((10 ^ 35 : Int)) : Rat) * (ri 100000 * (ri 6 * (y + u))):=by
    rw [← e600]
    show rat _ * _ * _ = _
    grind
   rw [e] at k
   exact k)
  (by
   have k:=le_tr (le_mul h2 p6) eB
   have e : -(ri (10 ^ 35) * (y + u)) * rat ((600000 : Int) : Rat) = -(rat (((10 ^ 35 : Int)) : Rat) * (ri 100000 * (ri 6 * (y + u)))):=by
    rw [← e600]
    show -(rat _ * _) * _ = _
    grind
   rw [e] at k
   exact k)
 refine six_inj ?_
 rw [← e600] at p6
 rcases dom x with z | z
 · exact absurd z (fun z=>by
    have:=rat_inj (p:=((100000 : Int) : Rat)) (q:=0) z
    exact absurd this (by decide))
 · rw [z];grind
end Su
namespace Su
theorem nd_up : ∀ {x : L},x.Pairwise (fun a b=>a.1 < b.1) → (keysL x).Nodup
 | [],_=>by simp [keysL]
 | s :: x,h=>by
  obtain ⟨h1,h2⟩:=List.pairwise_cons.mp h
  have i:=nd_up h2
  show (s.1 :: keysL x).Nodup
  refine List.nodup_cons.mpr ⟨fun z=>?_,i⟩
  obtain ⟨q,hq,e⟩:=List.mem_map.mp z
  have:=h1 q hq
  omega
theorem rep_nd (u : R) : (keysL (rep u)).Nodup:=nd_up (rep_cn u).up
theorem row_of {u : R} (h : ∀ s ∈ rep u,Dr s) : ∃ (W : Int) (v : List Int),v.length = 7 ∧ ri 6 * u = ri W + dotR IR7 v ∧ l1 v ≤ 30 * (rep u).length ∧ ri 6 * u = dotR R8L (W :: v) ∧ (∀ a ∈ W :: v,a = 0 ∨ a ∈ V24) ∧ nz (W :: v) ≤ (rep u).length:=by
 obtain ⟨h1,h2,h3⟩:=cv_ok (rep u) (rep_nd u) h
 rw [rep_cl] at h1
 have hl : (cv (rep u)).length = 8:=by simp [cv,R8L]
 match hc : cv (rep u),hl with
 | W :: v,hl=>
  rw [hc] at h1 h2 h3
  have l:=l1_nz h2
  simp only [l1] at l
  exact ⟨W,v,by simp at hl;omega,by rw [h1,dot8],by omega,h1,h2,h3⟩
structure One (u : R) : Prop where
 z : u ≠ 0 → ¬ (ri (10 ^ 35) * u ≤ ri 15 ∧ -(ri (10 ^ 35) * u) ≤ ri 15)
 b : ∀ v,(∀ s ∈ rep v,Dr s) → (rep v).length ≤ 3 → u < v → ¬ ri (10 ^ 35) * (v - u) ≤ ri 15
 c : ∀ (N : Int) (y : R),ri 100000 * y = ri N → u < y → y ≤ rat ((flr u + 1 : Int) : Rat) → ¬ ri (10 ^ 35) * (y - u) ≤ ri 15
 n : nrm (rep u) ≤ ((410881 : Nat) : Rat)
theorem e35p : (0 : R) ≤ ri (10 ^ 35):=rat_int_nn (by decide)
theorem neg15 {x : R} (h : 0 ≤ x) : -(ri (10 ^ 35) * x) ≤ ri 15:=neg_le (mul_nn e35p h) (by decide)
theorem one_dr {u : R} (h : ∀ s ∈ rep u,Dr s) (hl : (rep u).length ≤ 4) : One u:=by
 obtain ⟨W,v,v7,ev,lv,_,_,_⟩:=row_of h
 have zero : ri 100000 * (0 : R) = ri 0:=by
  have : ri 0 = (0 : R):=rfl
  rw [this];grind
 refine ⟨fun hu hz=>?_,fun w hw lw huw hz=>?_,fun N y ey huy _ hz=>?_,?_⟩
 · have z0 : ∀ x : R,(0 : R) + x = x:=fun x=>by grind
   have:=sepH (by omega) v7 ev zero (by rw [z0];exact hz.1) (by rw [z0];exact hz.2)
   rw [z0] at this
   exact hu this
 · obtain ⟨W',v',v7',ev',lv',_,_,_⟩:=row_of hw
   have z0 : ∀ x : R,(0 : R) + x = x:=fun x=>by grind
   have e : ri 6 * (w - u) = ri (W' - W) + dotR IR7 (subL v' v):=by
    rw [dot_sub IR7 (by omega)]
    have : ri (W' - W) = ri W' - ri W:=rat_int_sub W' W
    rw [this]
    have : ri 6 * (w - u) = ri 6 * w - ri 6 * u:=by grind
    rw [this,ev,ev']
    grind
   have ll:=l1_sub (a:=v') (b:=v) (by omega)
   have:=sepH (u:=w - u) (y:=0) (by omega) (by rw [sub_len (by omega)];exact v7') e zero (by rw [z0];exact hz) (by rw [z0];exact neg15 (sub_nn huw))
   rw [z0] at this
   have p:=sub_p huw
   rw [this] at p
   exact lt_irr _ p
 · have e : ri 6 * (-u) = ri (0 - W) + dotR IR7 (subL [0,0,0,0,0,0,0] v):=by
    rw [dot_sub IR7 (by rw [v7];rfl)]
    have : ri (0 - W) = ri 0 - ri W:=rat_int_sub 0 W
    rw [this]
    have z : dotR IR7 [0,0,0,0,0,0,0] = 0:=by
     simp only [IR7,dotR]
     rw [rat_int_zero]
     grind
    have z2 : ri 0 = (0 : R):=rfl
    have : ri 6 * (-u) = -(ri 6 * u):=by grind
    rw [this,ev,z,z2]
    grind
   have ll:=l1_sub (a:=[0,0,0,0,0,0,0]) (b:=v) (by rw [v7];rfl)
   have l0 : l1 [0,0,0,0,0,0,0] = 0:=by decide
   have e2 : y + -u = y - u:=by grind
   have:=sepH (u:=-u) (y:=y) (by omega) (by rw [sub_len (by rw [v7];rfl)];rfl) e ey (by rw [e2];exact hz) (by rw [e2];exact neg15 (sub_nn huy))
   rw [e2] at this
   have p:=sub_p huy
   rw [this] at p
   exact lt_irr _ p
 · have:=nrm_dr (rep_nd u) h
   have l:=cast_le (show 320 ≤ 410881 by decide)
   grind
theorem dr_szr {u : R} (h : ∀ s ∈ rep u,Dr s) : SzR 6 ((320 : Nat) : Rat) u:=by
 refine ⟨fun s hs=>?_,nrm_dr (rep_nd u) h⟩
 have d:=(h s hs).d
 have d0:=s.2.den_pos
 have : s.2.den = 1 ∨ s.2.den = 2 ∨ s.2.den = 3:=by omega
 rcases this with e | e | e <;> rw [e] <;> decide
theorem flr_small {u : R} {M : Nat} (h : nrm (rep u) ≤ (M : Rat)) : (flr u).natAbs ≤ M + 1:=by
 obtain ⟨b1,b2⟩:=bd_of h
 obtain ⟨f1,f2⟩:=flr_spec u
 have k1 : rat ((flr u : Int) : Rat) ≤ rat (((M : Nat) : Int) : Rat):=le_tr f1 b1
 have k2 : rat ((-(M : Int) : Int) : Rat) < rat ((flr u + 1 : Int) : Rat):=by
  rw [rat_int_neg]
  have e : rat (((M : Nat) : Int) : Rat) = rat (M : Rat):=rfl
  rw [e]
  grind
 have k1:=rat_int_le.mp k1
 have k2:=rat_int_lt.mp k2
 omega
theorem ab_int (n : Int) : ab (n : Rat) = ((n.natAbs : Nat) : Rat):=by
 have h:=ab_rat_num (n : Rat)
 rw [Rat.num_intCast,Rat.den_intCast] at h
 rw [← h]
 have : ((1 : Nat) : Rat) = 1:=rfl
 rw [this]
 grind
theorem one_sq {u : R} (h : ∀ s ∈ rep u,Dr s) (hl : (rep u).length ≤ 4) : One ((u + -rat ((flr u : Int) : Rat)) * (u + -rat ((flr u : Int) : Rat))):=by
 obtain ⟨W,v,v7,ev,lv,_,_,_⟩:=row_of h
 obtain ⟨f1,f2⟩:=flr_spec u
 have fb:=flr_small (nrm_dr (rep_nd u) h)
 have sz : SzR (6 * 1) (((320 : Nat) : Rat) + ((321 : Nat) : Rat)) (u + -rat ((flr u : Int) : Rat)):=by
  refine (dr_szr h).add ?_
  have:=(SzR.rat ((flr u : Int) : Rat)).neg
  rw [Rat.den_intCast,ab_int] at this
  exact this.le (Nat.dvd_refl 1) (cast_le fb)
 have szz:=(sz.mul sz).up
 rw [rat_int_add,rat_int_one] at f2
 have e6 : ri 6 * (u + -rat ((flr u : Int) : Rat)) = ri (W - 6 * flr u) + dotR IR7 v:=by
  have : ri (W - 6 * flr u) = ri W - ri 6 * rat ((flr u : Int) : Rat):=by
   show rat _ = rat _ - rat _ * _
   rw [rat_int_sub,rat_int_mul]
  rw [this]
  have : ri 6 * (u + -rat ((flr u : Int) : Rat)) = ri 6 * u - ri 6 * rat ((flr u : Int) : Rat):=by grind
  rw [this,ev]
  grind
 have g0 : 0 ≤ u + -rat ((flr u : Int) : Rat):=by grind
 have g1 : u + -rat ((flr u : Int) : Rat) < 1:=by grind
 generalize u + -rat ((flr u : Int) : Rat) = f at *
 have ff0:=mul_nn g0 g0
 have ff1 : f * f < 1:=by
  have x1:=le_mul (show f ≤ 1 by grind) g0
  grind
 refine ⟨fun hu hz=>?_,fun w hw lw huw hz=>?_,fun N y ey huy hy hz=>?_,?_⟩
 · have:=sepA (by omega) v7 g0 e6 hz.1
   exact hu (by rw [this];grind)
 · obtain ⟨W',v',v7',_,_,ew,mw,nw⟩:=row_of hw
   exact sepB (by omega) v7 g0 g1 e6 (by simp only [List.length_cons];omega) mw (by omega) ew huw hz
 · have fl0 : flr (f * f) = 0:=(flr_uniq (by rw [rat_int_zero];exact ff0) (by
    have : rat ((0 + 1 : Int) : Rat) = (1 : R):=rfl
    rw [this];exact ff1)).symm
   rw [fl0] at hy
   have y1 : y ≤ 1:=hy
   have y0 : 0 < y:=one_lt g0 huy
   have pc:=rat_int_pos (show (0 : Int) < 100000 by decide)
   have n1 : 0 < N:=by
    have:=mpos pc y0
    have e : rat ((100000 : Int) : Rat) * y = rat (N : Rat):=ey
    rw [e,← rat_int_zero] at this
    exact rat_int_lt.mp this
   have n2 : N ≤ 100000:=by
    have:=le_mul y1 (show (0 : R) ≤ rat ((100000 : Int) : Rat) by grind)
    have e : y * rat ((100000 : Int) : Rat) = rat (N : Rat):=by
     have : rat ((100000 : Int) : Rat) * y = rat (N : Rat):=ey
     rw [← this];grind
    have e2 : 1 * rat ((100000 : Int) : Rat) = rat ((100000 : Int) : Rat):=by grind
    rw [e,e2] at this
    exact rat_int_le.mp this
   have eN : ((N.toNat : Nat) : Int) = N:=by omega
   exact sepC (by omega) v7 g0 e6 (n:=N.toNat) (by omega) (by omega) (by rw [eN];exact ey) huy hz
 · have e : (((320 : Nat) : Rat) + ((321 : Nat) : Rat)) * (((320 : Nat) : Rat) + ((321 : Nat) : Rat)) = ((410881 : Nat) : Rat):=by decide +kernel
   rw [← e]
   exact szz
end Su
namespace Lw
open PySem Fm
section
variable {ns : List Int} {t : Tw} {k : Nat} {sc : List Int} {n : Nat} {G : Gam} {cs : Nat → D} {r : Rho}
theorem bigV {n v m : Int} {z o : Str} {i : Nat} (hv : ev G cs (.var i) r t = .ok (.int m) t) (en : 40 - m = n) (e1 : binD .Mult (.str "0") (.int n) = some (.str z)) (e2 : binD .Add (.str "1") (.str z) = some (.str o)) (e3 : blt1 .int (.str o) = some (.int v)) :
  ev G cs (.blt .int (.bin .Add (.cst (.str "1")) (.bin .Mult (.cst (.str "0")) (.bin .Sub (.cst (.int 40)) (.var i))))) r t = .ok (.int v) t:=by
 have h0 : ev G cs (.bin .Sub (.cst (.int 40)) (.var i)) r t = .ok (.int n) t:=by
  rw [ev_bin,ev_cst]
  show (ev G cs (.var i) r t).bind _ = _
  rw [hv,Res.bind_ok]
  show lift (binD .Sub (.int 40) (.int m)) t = _
  rw [← en]
  rfl
 have h0 : ev G cs (.bin .Mult (.cst (.str "0")) (.bin .Sub (.cst (.int 40)) (.var i))) r t = .ok (.str z) t:=by
  rw [ev_bin,ev_cst]
  show (ev G cs (.bin .Sub (.cst (.int 40)) (.var i)) r t).bind _ = _
  rw [h0,Res.bind_ok]
  show lift (binD .Mult (.str "0") (.int n)) t = _
  rw [e1]
  rfl
 have h1 : ev G cs (.bin .Add (.cst (.str "1")) (.bin .Mult (.cst (.str "0")) (.bin .Sub (.cst (.int 40)) (.var i)))) r t = .ok (.str o) t:=by
  rw [ev_bin,ev_cst]
  show (ev G cs (.bin .Mult (.cst (.str "0")) _) r t).bind _ = _
  rw [h0,Res.bind_ok]
  show lift (binD .Add (.str "1") (.str z)) t = _
  rw [e2]
  rfl
 rw [ev_blt]
 show (ev G cs (.bin .Add (.cst (.str "1")) _) r t).bind _ = _
 rw [h1,Res.bind_ok,e3]
 rfl
theorem bigP {m : Int} {i : Nat} (h0 : 0 ≤ m) (h5 : m < 6) (hv : ev G cs (.var i) r t = .ok (.int m) t) : ev G cs (.blt .int (.bin .Add (.cst (.str "1")) (.bin .Mult (.cst (.str "0")) (.bin .Sub (.cst (.int 40)) (.var i))))) r t = .ok (.int ((10 ^ (40 - m.toNat) : Nat) : Int)) t:=by
 have hm : m = 0 ∨ m = 1 ∨ m = 2 ∨ m = 3 ∨ m = 4 ∨ m = 5:=by omega
 rcases hm with rfl | rfl | rfl | rfl | rfl | rfl
 · exact bigV (n:=40) (z:=⟨#[48,48,48,48,48,48,48,48,48,48,48,48,48,48,48,48,48,48,48,48,48,48,48,48,48,48,48,48,48,48,48,48,48,48,48,48,48,48,48,48]⟩) (o:=⟨#[49,48,48,48,48,48,48,48,48,48,48,48,48,48,48,48,48,48,48,48,48,48,48,48,48,48,48,48,48,48,48,48,48,48,48,48,48,48,48,48,48]⟩) hv (by decide) (by kernel_rfl) (by kernel_rfl) (by kernel_rfl)
 · exact bigV (n:=39) (z:=⟨#[48,48,48,48,48,48,48,48,48,48,48,48,48,48,48,48,48,48,48,48,48,48,48,48,48,48,48,48,48,48,48,48,48,48,48,48,48,48,48]⟩) (o:=⟨#[49,48,48,48,48,48,48,48,48,48,48,48,48,48,48,48,48,48,48,48,48,48,48,48,48,48,48,48,48,48,48,48,48,48,48,48,48,48,48,48]⟩) hv (by decide) (by kernel_rfl) (by kernel_rfl) (by kernel_rfl)
 · exact bigV (n:=38) (z:=⟨#[48,48,48,48,48,48,48,48,48,48,48,48,48,48,48,48,48,48,48,48,48,48,48,48,48,48,48,48,48,48,48,48,48,48,48,48,48,48]⟩) (o:=⟨#[49,48,48,48,48,48,48,48,48,48,48,48,48,48,48,48,48,48,48,48,48,48,48,48,48,48,48,48,48,48,48,48,48,48,48,48,48,48,48]⟩) hv (by decide) (by kernel_rfl) (by kernel_rfl) (by kernel_rfl)
 · exact bigV (n:=37) (z:=⟨#[48,48,48,48,48,48,48,48,48,48,48,48,48,48,48,48,48,48,48,48,48,48,48,48,48,48,48,48,48,48,48,48,48,48,48,48,48]⟩) (o:=⟨#[49,48,48,48,48,48,48,48,48,48,48,48,48,48,48,48,48,48,48,48,48,48,48,48,48,48,48,48,48,48,48,48,48,48,48,48,48,48]⟩) hv (by decide) (by kernel_rfl) (by kernel_rfl) (by kernel_rfl)
 · exact bigV (n:=36) (z:=⟨#[48,48,48,48,48,48,48,48,48,48,48,48,48,48,48,48,48,48,48,48,48,48,48,48,48,48,48,48,48,48,48,48,48,48,48,48]⟩) (o:=⟨#[49,48,48,48,48,48,48,48,48,48,48,48,48,48,48,48,48,48,48,48,48,48,48,48,48,48,48,48,48,48,48,48,48,48,48,48,48]⟩) hv (by decide) (by kernel_rfl) (by kernel_rfl) (by kernel_rfl)
 · exact bigV (n:=35) (z:=⟨#[48,48,48,48,48,48,48,48,48,48,48,48,48,48,48,48,48,48,48,48,48,48,48,48,48,48,48,48,48,48,48,48,48,48,48]⟩) (o:=⟨#[49,48,48,48,48,48,48,48,48,48,48,48,48,48,48,48,48,48,48,48,48,48,48,48,48,48,48,48,48,48,48,48,48,48,48,48]⟩) hv (by decide) (by kernel_rfl) (by kernel_rfl) (by kernel_rfl)
def sg6 (z : Int) : Int:=if z.natAbs < 1000000 then 0 else if 0 < z then 1 else -1
theorem e_sign_of (hk : 1 ≤ k) (z : Int) : callF p ns k i__law_sign_of [.int z] t = .ok (.int (sg6 z)) t:=by
 obtain ⟨k,rfl⟩:=up1 hk
 rw [u__law_sign_of]
 unfold sg6
 have ea : (if z < 0 then -z else z) = (z.natAbs : Int):=by split <;> omega
 by_cases h : z.natAbs < 1000000
 · have d : decide (((z.natAbs : Nat) : Int) < 1000000) = true:=decide_eq_true (by omega)
   rw [if_pos h]
   simp [b__law_sign_of,ea,d]
 · have d : decide (((z.natAbs : Nat) : Int) < 1000000) = false:=decide_eq_false (by omega)
   rw [if_neg h]
   by_cases h2 : 0 < z
   · have d2 : decide (0 < z) = true:=decide_eq_true h2
     rw [if_pos h2]
     simp [b__law_sign_of,ea,d,d2]
   · have d2 : decide (0 < z) = false:=decide_eq_false h2
     rw [if_neg h2]
     simp [b__law_sign_of,ea,d,d2]
theorem e_is (hk : 1 ≤ k) (a b : Bool) : callF p ns k i__law_is [.bl a,.bl b] t = .ok (.bl (a == b)) t:=by
 obtain ⟨k,rfl⟩:=up1 hk
 rw [u__law_is]
 cases a <;> cases b <;> rfl
theorem drw_dr {s : Nat × Rat} (h : Drw s) : Su.Dr s:=⟨h.r,h.z,h.n,h.d⟩
theorem near_of {m : Nat} {u : Su.R} (h : Sd m u) {M : Nat} (hM : Su.nrm (Su.rep u) ≤ (M : Rat)) : Su.Nk M u:=by
 have k:=sd_nk h
 exact ⟨hM,k.few,k.pos⟩
theorem nk_bd {M S : Nat} {u : Su.R} (h : Su.Nk M u) : Su.rat ((Su.near S u : Int) : Rat) ≤ Su.rat (((S : Nat) : Int) : Rat) * u + Su.rat (((M + 64 : Nat) : Int) : Rat) ∧ Su.rat (((S : Nat) : Int) : Rat) * u ≤ Su.rat ((Su.near S u : Int) : Rat) + Su.rat (((M + 64 : Nat) : Int) : Rat):=h.ok S
end
end Lw
namespace Su
theorem far {w : R} (h : ¬ ri (10 ^ 35) * w ≤ ri 15) : ri 1500000 < ri (10 ^ 35) * ri 100000 * w:=by
 have h1 : ri 15 < ri (10 ^ 35) * w:=by
  rcases lt_tri (ri 15) (ri (10 ^ 35) * w) with z | z | z
  · exact z
  · exact absurd (by rw [z];exact .inl rfl) h
  · exact absurd (.inr z) h
 have p:=mpos (sub_p h1) (rat_int_pos (show (0 : Int) < 100000 by decide))
 have e : (ri (10 ^ 35) * w - ri 15) * rat ((100000 : Int) : Rat) = ri (10 ^ 35) * ri 100000 * w - ri 1500000:=by
  have : ri 15 * rat ((100000 : Int) : Rat) = ri 1500000:=by
   show rat _ * rat _ = rat _
   rw [← rat_int_mul];rfl
  rw [← this]
  show (ri (10 ^ 35) * w - ri 15) * ri 100000 = _ - ri 15 * ri 100000
  grind
 rw [e] at p
 grind
theorem s40 : rat (((Lw.S40 : Nat) : Int) : Rat) = ri (10 ^ 35) * ri 100000:=by
 show _ = rat _ * rat _
 rw [← rat_int_mul]
 have : ((Lw.S40 : Nat) : Int) = 10 ^ 35 * 100000:=by decide +kernel
 rw [this]
theorem sg_ok {u S : R} (eS : S = ri (10 ^ 35) * ri 100000) (o : One u) {x : Int} (h1 : ri x ≤ S * u + ri 410945) (h2 : S * u ≤ ri x + ri 410945) : Lw.sg6 x = sgn u:=by
 rcases sgn_cases u with ⟨h,e⟩ | ⟨h,e⟩ | ⟨h,e⟩
 · have n : ¬ ri (10 ^ 35) * u ≤ ri 15:=fun z=>o.z (fun z=>by rw [z] at h;exact lt_irr _ h) ⟨z,neg15 (.inr h)⟩
   have f:=far n
   rw [← eS] at f
   have k : rat ((1500000 - 410945 : Int) : Rat) < ri x:=by rw [rat_int_sub];show ri 1500000 - ri 410945 < _;grind
   have k:=rat_int_lt.mp k
   rw [e]
   unfold Lw.sg6
   rw [if_neg (by omega),if_pos (by omega)]
 · subst h
   have z : S * (0 : R) = 0:=by grind
   rw [z] at h1 h2
   have k1 : ri x ≤ rat ((410945 : Int) : Rat):=by show _ ≤ ri 410945;grind
   have k2 : rat ((-410945 : Int) : Rat) ≤ ri x:=by rw [rat_int_neg];show -ri 410945 ≤ _;grind
   have k1:=rat_int_le.mp k1
   have k2:=rat_int_le.mp k2
   rw [e]
   unfold Lw.sg6
   rw [if_pos (by omega)]
 · have n : ¬ ri (10 ^ 35) * (-u) ≤ ri 15:=fun z=>o.z (fun z=>by rw [z] at h;exact lt_irr _ h) ⟨by have:=neg15 (x:=-u) (by grind);grind,by grind⟩
   have f:=far n
   rw [← eS] at f
   have k : ri x < rat ((-1500000 + 410945 : Int) : Rat):=by
    rw [rat_int_add,rat_int_neg]
    show _ < -ri 1500000 + ri 410945
    grind
   have k:=rat_int_lt.mp k
   rw [e]
   unfold Lw.sg6
   rw [if_neg (by omega),if_neg (by omega)]
theorem below_ok {u v S : R} (eS : S = ri (10 ^ 35) * ri 100000) (o : One u) (hv : ∀ s ∈ rep v,Dr s) (lv : (rep v).length ≤ 3) {x y : Int} (h1 : ri x ≤ S * u + ri 410945) (h2 : S * u ≤ ri x + ri 410945) (h3 : ri y ≤ S * v + ri 384) (h4 : S * v ≤ ri y + ri 384) : decide (u < v) = decide (Lw.sg6 (x - y) < 0):=by
 by_cases h : u < v
 · have f:=far (o.b v hv lv h)
   rw [← eS] at f
   have k : rat ((x - y : Int) : Rat) < rat ((-1500000 + 410945 + 384 : Int) : Rat):=by
    rw [rat_int_sub,rat_int_add,rat_int_add,rat_int_neg]
    show ri x - ri y < -ri 1500000 + ri 410945 + ri 384
    grind
   have k:=rat_int_lt.mp k
   rw [decide_eq_true h]
   have : Lw.sg6 (x - y) = -1:=by
    unfold Lw.sg6
    rw [if_neg (by omega),if_neg (by omega)]
   rw [this]
   rfl
 · have hS : 0 ≤ S:=by rw [eS];exact mul_nn e35p (rat_int_nn (by decide))
   have m:=mul_nn hS (show 0 ≤ u - v by grind)
   have k : rat ((-410945 - 384 : Int) : Rat) ≤ rat ((x - y : Int) : Rat):=by
    rw [rat_int_sub,rat_int_sub,rat_int_neg]
    show -ri 410945 - ri 384 ≤ ri x - ri y
    grind
   have k:=rat_int_le.mp k
   rw [decide_eq_false h]
   have : ¬ Lw.sg6 (x - y) < 0:=by
    unfold Lw.sg6
    split
    · omega
    · rw [if_pos (by omega)];omega
   exact (decide_eq_false this).symm
theorem fig_ok {u S : R} (eS : S = ri (10 ^ 35) * ri 100000) (o : One u) {x : Int} (h1 : ri x ≤ S * u + ri 410945) (h2 : S * u ≤ ri x + ri 410945) {p : Nat} (hp : p ≤ 5) :
  (x + 1000000).fdiv ((10 ^ (40 - p) : Nat) : Int) = flr (u * rat ((10 ^ p : Nat) : Rat)):=by
 obtain ⟨f1,f2⟩:=flr_spec (u * rat ((10 ^ p : Nat) : Rat))
 obtain ⟨g1,g2⟩:=flr_spec u
 generalize hF : flr (u * rat ((10 ^ p : Nat) : Rat)) = F at *
 have cP : rat ((10 ^ p : Nat) : Rat) = ri ((10 ^ p : Nat) : Int):=rfl
 have P0 : (0 : Int) < ((10 ^ p : Nat) : Int):=by have:=Nat.pow_pos (n:=p) (show 0 < 10 by decide);omega
 have U0 : (0 : Int) < ((10 ^ (40 - p) : Nat) : Int):=by have:=Nat.pow_pos (n:=40 - p) (show 0 < 10 by decide);omega
 have R0 : (0 : Int) < ((10 ^ (5 - p) : Nat) : Int):=by have:=Nat.pow_pos (n:=5 - p) (show 0 < 10 by decide);omega
 have UP : ((10 ^ (40 - p) : Nat) : Int) * ((10 ^ p : Nat) : Int) = 10 ^ 35 * 100000:=by
  rw [← Int.natCast_mul,← Nat.pow_add,show 40 - p + p = 40 by omega]
  decide +kernel
 have RP : ((10 ^ p : Nat) : Int) * ((10 ^ (5 - p) : Nat) : Int) = 100000:=by
  rw [← Int.natCast_mul,← Nat.pow_add,show p + (5 - p) = 5 by omega]
  rfl
 rw [cP] at f1 f2
 generalize ((10 ^ p : Nat) : Int) = P at *
 generalize ((10 ^ (40 - p) : Nat) : Int) = U at *
 generalize ((10 ^ (5 - p) : Nat) : Int) = Q at *
 have pU:=rat_int_pos U0
 have pP:=rat_int_pos P0
 have pQ:=rat_int_pos R0
 have eSU : S = ri U * ri P:=by
  rw [eS]
  show rat _ * rat _ = rat _ * rat _
  rw [← rat_int_mul,← rat_int_mul,UP]
 have k1 : rat ((U * F : Int) : Rat) ≤ rat ((x + 1000000 : Int) : Rat):=by
  have:=le_mul f1 (show (0 : R) ≤ rat (U : Rat) by grind)
  have e : u * ri P * rat (U : Rat) = S * u:=by rw [eSU];show u * ri P * ri U = _;grind
  rw [e] at this
  rw [rat_int_mul,rat_int_add]
  have b : ri 410945 ≤ rat ((1000000 : Int) : Rat):=rat_int_le.mpr (by decide)
  have e2 : rat (U : Rat) * rat (F : Rat) = rat (F : Rat) * rat (U : Rat):=by grind
  rw [e2]
  exact le_tr this (le_tr h2 (by show ri x + ri 410945 ≤ ri x + _;grind))
 obtain ⟨g,eg⟩ : ∃ y : R,ri P * y = ri (F + 1):=by
  refine ⟨rat ((P : Rat)⁻¹) * ri (F + 1),?_⟩
  have hq : ((P : Int) : Rat) ≠ 0:=fun z=>by
   have:=Rat.intCast_inj (a:=P) (b:=0) |>.mp z
   omega
  have e:=rat_inv hq
  have : ri P * (rat ((P : Rat)⁻¹) * ri (F + 1)) = rat (P : Rat) * rat ((P : Rat)⁻¹) * ri (F + 1):=by
   show rat _ * _ = _
   grind
  rw [this,e]
  grind
 have ug : u < g:=by
  rcases lt_tri u g with z | z | z
  · exact z
  · rw [z] at f2
    have : g * ri P = ri P * g:=by grind
    rw [this,eg] at f2
    exact absurd f2 (lt_irr _)
  · have m:=mpos pP (sub_p z)
    have : rat (P : Rat) * (u - g) = u * ri P - ri P * g:=by show ri P * (u - g) = _;grind
    rw [this,eg] at m
    have : ri (F + 1) = rat ((F + 1 : Int) : Rat):=rfl
    grind
 have gy : ri 100000 * g = ri ((F + 1) * Q):=by
  have e1 : ri ((F + 1) * Q) = ri (F + 1) * ri Q:=rat_int_mul _ _
  have e2 : ri 100000 = ri P * ri Q:=by
   show rat _ = rat _ * rat _
   rw [← rat_int_mul,RP]
  rw [e1,e2,← eg]
  grind
 have gle : g ≤ rat ((flr u + 1 : Int) : Rat):=by
  have a1 : ri F < ri ((flr u + 1) * P):=by
   have m:=mpos (sub_p g2) pP
   have e1 : ri ((flr u + 1) * P) = ri (flr u + 1) * ri P:=rat_int_mul _ _
   rw [e1]
   have e2 : (rat ((flr u + 1 : Int) : Rat) - u) * rat (P : Rat) = ri (flr u + 1) * ri P - u * ri P:=by show (ri (flr u + 1) - u) * ri P = _;grind
   rw [e2] at m
   have f1' : ri F ≤ u * ri P:=f1
   grind
  have a2:=rat_int_lt.mp a1
  have a3 : rat ((F + 1 : Int) : Rat) ≤ rat (((flr u + 1) * P : Int) : Rat):=rat_int_le.mpr (by omega)
  rw [rat_int_mul] at a3
  refine mul_le_of pP ?_
  have e3 : rat (P : Rat) * g = rat ((F + 1 : Int) : Rat):=eg
  rw [e3]
  have e4 : rat (P : Rat) * rat ((flr u + 1 : Int) : Rat) = rat ((flr u + 1 : Int) : Rat) * rat (P : Rat):=by grind
  rw [e4]
  exact a3
 have f:=far (o.c _ g gy ug gle)
 rw [← eS] at f
 have k2 : rat ((x + 1000000 : Int) : Rat) < rat ((U * (F + 1) : Int) : Rat):=by
  have e1 : S * g = rat ((U * (F + 1) : Int) : Rat):=by
   rw [rat_int_mul,eSU]
   have : ri U * ri P * g = ri U * (ri P * g):=by grind
   rw [this,eg]
  rw [← e1,rat_int_add]
  show ri x + ri 1000000 < _
  have b : ri 410945 + ri 1000000 ≤ ri 1500000:=by
   show rat _ + rat _ ≤ _
   rw [← rat_int_add]
   exact rat_int_le.mpr (by decide)
  have e2 : S * (g - u) = S * g - S * u:=by grind
  rw [e2] at f
  grind
 have k1:=rat_int_le.mp k1
 have k2:=rat_int_lt.mp k2
 rw [Int.fdiv_eq_ediv_of_nonneg _ (Int.le_of_lt U0)]
 have d1 : F ≤ (x + 1000000) / U:=(Int.le_ediv_iff_mul_le U0).mpr (by rw [Int.mul_comm];exact k1)
 have d2 : (x + 1000000) / U < F + 1:=(Int.ediv_lt_iff_lt_mul U0).mpr (by rw [Int.mul_comm];exact k2)
 omega
end Su
namespace Lw
open PySem Fm
section
variable {ns : List Int} {t : Tw} {k : Nat} {sc : List Int} {n : Nat}
theorem t_below6 {n m : Nat} {u v : Su.R} (h : Sd n u) (h' : Sd m v) (hn : 4 * (n + m + 1) * 2 ^ 4 + 200 ≤ 100000) : callF p ns 20 i_below [sr u,sr v] t = .ok (.bl (decide (u < v))) t:=e_below F210 (by omega) h.i h'.i h.b h'.b hn
theorem t_sign6 {n : Nat} {u : Su.R} (h : Sd n u) (hn : 4 * n * 2 ^ 4 + 200 ≤ 100000) : callF p ns 20 i_sign [sr u] t = .ok (.int (Su.sgn u)) t:=e_sign' F210 (by omega) h.i h.b hn
theorem t_floor6 {n : Nat} {u : Su.R} (h : Sd n u) (hn : 4 * (3 * n + 201) * 2 ^ 4 + 200 ≤ 100000) : callF p ns 20 i_floor [sr u] t = .ok (.int (Su.flr u)) t:=e_floor F210 (by omega) h.i h.b hn
theorem t_fig6 {n : Nat} {u : Su.R} (h : Sd n u) {j : Nat} (hj : j ≤ 8) (hn : 4 * (3 * (n + 40) + 201) * 2 ^ 4 + 200 ≤ 100000) : callF p ns 20 i_figures [sr u,.int (j : Nat)] t = .ok (.int (Su.flr (u * Su.rat ((10 ^ j : Nat) : Rat)))) t:=e_figures F210 (by omega) h.i h.b hj hn
theorem sd_int6 {n : Nat} {g : Int} (h : g.natAbs ≤ 2 ^ n) : Sd n (Su.rat (g : Rat)):=⟨Su.InR.rat Su.sqf210 _,Su.bt_int h⟩
theorem t_surd6 {n : Nat} {g : Int} (h : g.natAbs ≤ 2 ^ n) (hn : n ≤ 100000) : callF p ns 20 i_surd [.tup [.int g,.int 1]] t = .ok (sr (Su.rat (g : Rat))) t:=by
 have e1:=e_surd (ns:=ns) (t:=t) (k:=20) (n:=n) (by omega) F210 (q:=(g : Rat)) (by rw [Rat.den_intCast];exact Nat.one_le_two_pow) (by rw [Rat.num_intCast];exact h) hn
 rwa [qd_int] at e1
theorem ite_no6 {G : Gam} {cs : Nat → D} {c : E} {a : Ss} {r : Rho} {t1 : Tw} (h : ev G cs c r t = .ok (.bl false) t1) : evS G cs (.ite c a .nil) r t = .ok (.nx,r) t1:=by
 simp [h]
abbrev R6 (ns : List Int) (c2 c3 c4 c5 c6 c7 c8 c9 : Sl) : Rho:=[.val (.scr ns),.val .tok,c2,c3,c4,c5,c6,c7,c8,c9]
theorem made (h : rm (n + 27) t) (c2 c3 c4 c5 c6 c7 c8 c9 : Sl) : ∃ (u v : Su.R) (t' : Tw),(∀ q : Ss,evSs (gam p ns 20) (csOf cst) (.cons (.par [3,4] (.cons (.call 21 (.cons (.var 0) (.cons (.var 1) (.cons (.cst (.int 4)) .nil))) .nil) (.cons (.call 21 (.cons (.var 0) (.cons (.var 1) (.cons (.cst (.int 3)) .nil))) .nil) .nil))) (.cons (.ite (.cmp .Eq (.call 18 (.cons (.var 0) (.cons (.var 1) (.cons (.cst (.int 3)) .nil))) .nil) (.cst (.int 0))) (.cons (.asg (.name 3) (.call 7 (.cons (.var 3) (.cons (.call 12 (.cons (.call 15 (.cons (.tup (.cons (.call 16 (.cons (.var 3) .nil) .nil) (.cons (.cst (.int 1)) .nil))) .nil) .nil) .nil) .nil) .nil)) .nil)) (.cons (.asg (.name 3) (.call 8 (.cons (.var 3) (.cons (.var 3) .nil)) .nil)) .nil)) .nil) q)) (R6 ns c2 c3 c4 c5 c6 c7 c8 c9) t = evSs (gam p ns 20) (csOf cst) q (R6 ns c2 (.val (sr u)) (.val (sr v)) c5 c6 c7 c8 c9) t') ∧
  Su.One u ∧ Sd 40 u ∧ Sd 10 v ∧ (∀ s ∈ Su.rep v,Su.Dr s) ∧ (Su.rep v).length ≤ 3 ∧ rm n t':=by
 obtain ⟨u,t1,e1,i1,b1,d1,l1,h1⟩:=e_a_surd3 (ns:=ns) (sc:=ns) (k:=20) (n:=n + 14) (most:=4) (by omega) (by omega) (show rm (n + 14 + 13) t from h.le (by omega))
 obtain ⟨v,t2,e2,i2,b2,d2,l2,h2⟩:=e_a_surd3 (ns:=ns) (sc:=ns) (k:=20) (n:=n + 1) (most:=3) (by omega) (by omega) (show rm (n + 1 + 13) t1 from h1.le (by omega))
 have e1 : callF p ns 20 i__law_a_surd [.scr ns,.tok,.int 4] t = .ok (sr u) t1:=e1
 have e2 : callF p ns 20 i__law_a_surd [.scr ns,.tok,.int 3] t1 = .ok (sr v) t2:=e2
 obtain ⟨x,t3,e3,lo,hi,h3⟩:=e_draw (ns:=ns) (sc:=ns) (k:=20) (n:=n) (by omega) 3 (by omega) (by omega) h2
 have su : Sd 10 u:=⟨i1,b1⟩
 have sv : Sd 10 v:=⟨i2,b2⟩
 have du : ∀ s ∈ Su.rep u,Su.Dr s:=fun s hs=>drw_dr (d1 s hs)
 have dv : ∀ s ∈ Su.rep v,Su.Dr s:=fun s hs=>drw_dr (d2 s hs)
 have st1 : evS (gam p ns 20) (csOf cst) (.par [3,4] (.cons (.call 21 (.cons (.var 0) (.cons (.var 1) (.cons (.cst (.int 4)) .nil))) .nil) (.cons (.call 21 (.cons (.var 0) (.cons (.var 1) (.cons (.cst (.int 3)) .nil))) .nil) .nil))) (R6 ns c2 c3 c4 c5 c6 c7 c8 c9) t = .ok (.nx,R6 ns c2 (.val (sr u)) (.val (sr v)) c5 c6 c7 c8 c9) t2:=by
  simp [e1,e2,okLen]
 by_cases hx : x = 0
 · subst hx
   have fl:=t_floor6 (ns:=ns) (t:=t3) su (by omega)
   have fb:=Su.flr_small (Su.nrm_dr (Su.rep_nd u) du)
   have fs:=sd_int6 (n:=9) (g:=Su.flr u) (by have : (2 : Nat) ^ 9 = 512:=rfl;omega)
   have es:=t_surd6 (ns:=ns) (t:=t3) (n:=9) (g:=Su.flr u) (by have : (2 : Nat) ^ 9 = 512:=rfl;omega) (by omega)
   have en:=t_neg (ns:=ns) (t:=t3) (k:=20) (by omega) fs (by omega)
   have ea:=t_add (ns:=ns) (t:=t3) (k:=20) (by omega) su fs.neg (by omega)
   have sf:=su.add fs.neg
   have em:=t_mul (ns:=ns) (t:=t3) (k:=20) (by omega) sf sf (by omega)
   have sm:=sf.mul sf
   refine ⟨_,v,t3,fun q=>?_,Su.one_sq du l1,sm,sv,dv,l2,h3⟩
   rw [seq_nx st1,seq_nx (r1:=R6 ns c2 (.val (sr ((u + -Su.rat ((Su.flr u : Int) : Rat)) * (u + -Su.rat ((Su.flr u : Int) : Rat))))) (.val (sr v)) c5 c6 c7 c8 c9) (t1:=t3) (by simp [e3,fl,es,en,ea,em,okLen])]
 · refine ⟨u,v,t3,fun q=>?_,Su.one_dr du l1,⟨su.i,su.b.le (by omega)⟩,sv,dv,l2,h3⟩
   have d0 : decide (x = 0) = false:=decide_eq_false hx
   rw [seq_nx st1,seq_nx (r1:=R6 ns c2 (.val (sr u)) (.val (sr v)) c5 c6 c7 c8 c9) (t1:=t3) (by simp [e3,d0])]
theorem fig9 {jj F g : Int} {d3 : D} {c2 c4 c5 c6 c8 : Sl} (f6 : callF p ns 20 i_figures [d3,.int jj] t = .ok (.int F) t) (f7 : callF p ns 20 i_floor [d3] t = .ok (.int g) t) (w : jj = 0 → F = g) :
  evS (gam p ns 20) (csOf cst) (.ite (.or (.cmp .NotEq (.call 26 (.cons (.var 3) (.cons (.var 7) .nil)) .nil) (.var 9)) (.and (.cmp .Eq (.var 7) (.cst (.int 0))) (.cmp .NotEq (.call 16 (.cons (.var 3) .nil) .nil) (.var 9)))) (.cons (.ret (.cst (.bl false))) .nil) .nil) (R6 ns c2 (.val d3) c4 c5 c6 (.val (.int jj)) c8 (.val (.int F))) t = .ok (.nx,R6 ns c2 (.val d3) c4 c5 c6 (.val (.int jj)) c8 (.val (.int F))) t:=by
 refine ite_no6 (t1:=t) ?_
 by_cases hj : jj = 0
 · have hF:=w hj
   subst hj
   subst hF
   simp [f6,f7]
 · have dj : decide (jj = 0) = false:=decide_eq_false hj
   simp [f6,hj]
theorem turn6 (h : rm (n + 28) t) (d c3 c4 c5 c6 c7 c8 c9 : Sl) : ∃ c3' c4' c5' c6' c7' c8' c9' t',evSs (gam p ns 20) (csOf cst) b_law_1 (R6 ns d c3 c4 c5 c6 c7 c8 c9) t = .ok (.nx,R6 ns d c3' c4' c5' c6' c7' c8' c9') t' ∧ rm n t':=by
 obtain ⟨u,v,t1,e1,ou,su,sv,dv,lv,h1⟩:=made (ns:=ns) (n:=n + 1) (t:=t) (h.le (by omega)) d c3 c4 c5 c6 c7 c8 c9
 obtain ⟨x7,t2,e2,lo,hi,h2⟩:=e_draw (ns:=ns) (sc:=ns) (k:=20) (n:=n) (by omega) 6 (by omega) (by omega) h1
 have f1:=c_near (ns:=ns) (t:=t1) (k:=20) (by omega) su (by omega)
 have f2:=c_near (ns:=ns) (t:=t1) (k:=20) (by omega) sv (by omega)
 obtain ⟨a1,a2⟩:=nk_bd (S:=S40) (near_of su ou.n)
 obtain ⟨a3,a4⟩:=nk_bd (S:=S40) (near_of sv (Su.nrm_dr (Su.rep_nd v) dv))
 generalize hx : Su.near S40 u = x at *
 generalize hy : Su.near S40 v = y at *
 have q1:=Su.sg_ok Su.s40 ou a1 a2
 have q2:=Su.below_ok Su.s40 ou dv lv a1 a2 a3 a4
 have p1:=t_sign6 (ns:=ns) (t:=t1) su (by omega)
 have p2:=t_neg (ns:=ns) (t:=t1) (k:=20) (by omega) su (by omega)
 have p3:=t_add (ns:=ns) (t:=t1) (k:=20) (by omega) su su.neg (by omega)
 have p4:=t_sign6 (ns:=ns) (t:=t1) (su.add su.neg) (by omega)
 have z0 : u + -u = 0:=by grind
 rw [z0] at p3 p4
 rw [Su.sgn_zero] at p4
 have p5:=t_below6 (ns:=ns) (t:=t1) su sv (by omega)
 have s1:=e_sign_of (ns:=ns) (t:=t1) (k:=20) (by omega) x
 have s2:=e_sign_of (ns:=ns) (t:=t1) (k:=20) (by omega) (x - y)
 have s3:=e_is (ns:=ns) (t:=t1) (k:=20) (by omega) (decide (u < v)) (decide (sg6 (x - y) < 0))
 rw [q2] at s3 p5
 obtain ⟨j,rfl⟩ : ∃ j : Nat,x7 = (j : Int):=⟨x7.toNat,by omega⟩
 have f6:=t_fig6 (ns:=ns) (t:=t2) su (j:=j) (by omega) (by omega)
 have f60:=t_fig6 (ns:=ns) (t:=t2) su (j:=0) (by omega) (by omega)
 have f7:=t_floor6 (ns:=ns) (t:=t2) su (by omega)
 have one : u * Su.rat ((10 ^ 0 : Nat) : Rat) = u:=by
  have : Su.rat ((10 ^ 0 : Nat) : Rat) = (1 : Su.R):=rfl
  rw [this];grind
 rw [one] at f60
 have f60 : callF p ns 20 i_figures [sr u,.int 0] t2 = .ok (.int (Su.flr u)) t2:=f60
 have w:=Su.fig_ok Su.s40 ou a1 a2 (p:=j) (by omega)
 have b8:=bigP (G:=gam p ns 20) (cs:=csOf cst) (t:=t2) (r:=R6 ns d (.val (sr u)) (.val (sr v)) (.val (.int x)) (.val (.int y)) (.val (.int (j : Int))) c8 c9) (m:=(j : Int)) (i:=7) (by omega) (by omega) (by simp)
 have ej : (40 - (j : Int).toNat) = 40 - j:=by simp
 rw [ej] at b8
 have U0 : ((10 ^ (40 - j) : Nat) : Int) ≠ 0:=by have:=Nat.pow_pos (n:=40 - j) (show 0 < 10 by decide);omega
 have od : okDiv ((10 ^ (40 - j) : Nat) : Int) = true:=okDiv_ne U0
 have w0 : j = 0 → Su.flr (u * Su.rat ((10 ^ j : Nat) : Rat)) = Su.flr u:=fun z=>by rw [z,one]
 generalize ((10 ^ (40 - j) : Nat) : Int) = U at *
 generalize Su.flr (u * Su.rat ((10 ^ j : Nat) : Rat)) = F at *
 refine ⟨.val (sr u),.val (sr v),.val (.int x),.val (.int y),.val (.int (j : Int)),.val (.int U),.val (.int F),t2,?_,h2⟩
 unfold b_law_1
 rw [e1]
 rw [seq_nx (r1:=R6 ns d (.val (sr u)) (.val (sr v)) (.val (.int x)) (.val (.int y)) c7 c8 c9) (t1:=t1) (by simp [f1,f2]),
  seq_nx (ite_no6 (t1:=t1) (by simp [p1,s1,q1,p2,p3,p4])),
  seq_nx (ite_no6 (t1:=t1) (by simp [p5,s2,s3])),
  seq_nx (r1:=R6 ns d (.val (sr u)) (.val (sr v)) (.val (.int x)) (.val (.int y)) (.val (.int (j : Int))) c8 c9) (t1:=t2) (by simp [e2]),
  seq_nx (r1:=R6 ns d (.val (sr u)) (.val (sr v)) (.val (.int x)) (.val (.int y)) (.val (.int (j : Int))) (.val (.int U)) c9) (t1:=t2) (by rw [x_evS_asg];simp only [b8];simp),
  seq_nx (r1:=R6 ns d (.val (sr u)) (.val (sr v)) (.val (.int x)) (.val (.int y)) (.val (.int (j : Int))) (.val (.int U)) (.val (.int F))) (t1:=t2) (by simp [od,w])]
 rw [seq_nx (fig9 f6 f7 fun z=>w0 (by omega)),seq_nx (ite_no6 (t1:=t2) (by simp [f7,f60]))]
 rfl
end
theorem hev (ns : List Int) : ∃ r t,evSs (gam p ns 20) (csOf cst) b_law (startL n_law ns) ⟨0,[]⟩ = .ok (.ret (.bl true),r) t:=by
 have h0 : rm 200 (⟨0,[]⟩ : Tw):=⟨⟨by show (0 : Int) ≤ 0;omega,by simp⟩,by show (0 : Int) + (200 : Nat) ≤ 900000;omega⟩
 have I0 : rm (28 * (0 + (rngD 0 4).length)) (⟨0,[]⟩ : Tw):=h0.le (by decide)
 obtain ⟨r1,t1,e1,⟨c2,c3,c4,c5,c6,c7,c8,c9,hr1,_⟩⟩:=loopF_ix (f:=lq ns 20 (.name 2) b_law_1) (fun n r t=>∃ c2 c3 c4 c5 c6 c7 c8 c9,r = R6 ns c2 c3 c4 c5 c6 c7 c8 c9 ∧ rm (28 * n) t) (rngD 0 4) (R6 ns .un .un .un .un .un .un .un .un) ⟨0,[]⟩ 0 ⟨_,_,_,_,_,_,_,_,rfl,I0⟩ (by
   intro d hd n r t ⟨c2,c3,c4,c5,c6,c7,c8,c9,hr,h⟩
   subst hr
   have h : rm (28 * n + 28) t:=h.le (by omega)
   obtain ⟨c3',c4',c5',c6',c7',c8',c9',t',e,h'⟩:=turn6 (ns:=ns) (n:=28 * n) (t:=t) h (.val d) c3 c4 c5 c6 c7 c8 c9
   refine ⟨R6 ns (.val d) c3' c4' c5' c6' c7' c8' c9',t',?_,⟨.val d,c3',c4',c5',c6',c7',c8',c9',rfl,h'⟩⟩
   rw [lq_eq (r1:=R6 ns (.val d) c3 c4 c5 c6 c7 c8 c9) (by simp)]
   exact e)
 subst hr1
 refine ⟨R6 ns c2 c3 c4 c5 c6 c7 c8 c9,t1,?_⟩
 show evSs (gam p ns 20) (csOf cst) b_law [.val (.scr ns),.val .tok,.un,.un,.un,.un,.un,.un,.un,.un] ⟨0,[]⟩ = _
 have z1:=t_floor6 (ns:=ns) (t:=t1) (n:=1) (u:=0) ⟨Su.InR.rat Su.sqf210 0,Su.Bt.rat (by decide) (by decide)⟩ (by omega)
 have z2:=t_sign6 (ns:=ns) (t:=t1) (n:=1) (u:=0) ⟨Su.InR.rat Su.sqf210 0,Su.Bt.rat (by decide) (by decide)⟩ (by omega)
 have sn : Sd 2 (Su.rat ((-1 : Rat) / 3)):=⟨Su.InR.rat Su.sqf210 _,Su.Bt.rat (by decide +kernel) (by decide +kernel)⟩
 have z3:=e_surd (ns:=ns) (t:=t1) (k:=20) (n:=2) (by omega) F210 (q:=(-1 : Rat) / 3) (by decide +kernel) (by decide +kernel) (by omega)
 have q3 : qd ((-1 : Rat) / 3) = .tup [.int (-1),.int 3]:=by
  unfold qd
  have a : ((-1 : Rat) / 3).num = -1:=by decide +kernel
  have b : ((-1 : Rat) / 3).den = 3:=by decide +kernel
  rw [a,b]
  rfl
 rw [q3] at z3
 have z4:=t_fig6 (ns:=ns) (t:=t1) sn (j:=2) (by omega) (by omega)
 have fl : Su.flr (Su.rat ((-1 : Rat) / 3) * Su.rat ((10 ^ 2 : Nat) : Rat)) = -34:=by
  rw [Su.rat_mul]
  refine (Su.flr_uniq ?_ ?_).symm
  · exact Su.rat_le.mpr (by decide +kernel)
  · exact Su.rat_lt.mpr (by decide +kernel)
 rw [fl] at z4
 have fz : Su.flr 0 = 0:=(Su.flr_uniq (n:=0) (.inl rfl) ((Su.rat_lt (p:=0)).mpr (by decide +kernel))).symm
 rw [fz] at z1
 rw [Su.sgn_zero] at z2
 rw [sr_nil] at z1 z2
 unfold b_law
 rw [seq_nx (r1:=R6 ns c2 c3 c4 c5 c6 c7 c8 c9) (t1:=t1) (by rw [for_lq (t1:=⟨0,[]⟩) (xs:=rngD 0 4) (by simp [okRng])];exact e1)]
 have z4 : callF p ns 20 i_figures [sr (Su.rat ((-1 : Rat) / 3)),.int 2] t1 = .ok (.int (-34)) t1:=z4
 simp [z1,z2,z3,z4,okLen]
end Lw
theorem PySem.Challenge.cw_formclear_k06_signs_of_surds_holds : PySem.Challenge.rw_formclear_k06_signs_of_surds.Holds := by
 exact Lw.fin 20 (by omega) (by omega) fun ns _ _=>Lw.hev ns
