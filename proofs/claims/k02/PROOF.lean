import PyProof.Rows.All
import PySem.Challenge.RW_swapguards_k02_whole_great_heaps_gone_th
import PySem.PyData
import HandS.ForMost
import HandS.ForExc
import PyProof.EqLayable
import HandS.Lambda
import HandS.TupAny
import HandS.TupMul
import HandS.Style
import HandS.Deep
import HandS.SortInts
import HandS.Conv
import HandS.IsInst
import HandS.NoneIn
import HandS.More
import HandS.Flow
import HandS.Comp
import HandS.Iter
import HandS.Zip
import KE.GoesEnum
import KE.GoesMore
import HandS.Star
import HandS.ExcOwn
import HandS.MakeKwOnly
import HandS.ListItems
import HandS.SetFor
import HandS.Strs
import PyProof.SumWalkG
import HandS.Small
import KE.KUnpackStar
import HandS.Defaults
import HandS.Ends
import HandS.Base
import HandS.Call
import HandS.Exc
import KE.KTryMore
import HandS.ExcField
import KE.KExcIs
import KE.KExcInit
import HandS.Head1
import HandS.HeadHook2
import HandS.EndTab
import HandS.Head2
set_option Elab.async false
/-! QCore -/
section
set_option linter.all false
namespace Q
open PySem
abbrev Key := Sum Int Str
/-- values as trees; ref n: an object of the store -/
inductive T where
  | non | bl (b : Bool) | int (i : Int) | str (x : Str)
  | tup (xs : List T) | lst (xs : List T)
  | dic (kvs : List (Key × T))
  | ref (n : Nat)
  | scr (xs : List T)
  | tab (p : Nat) (q : Str)
abbrev Store := List T
structure Exn where
  cls : Str
  args : List T
inductive O (α : Type) where
  | ok (a : α) (st : Store) | ex (x : Exn) (st : Store) | bad
def O.bind {α β : Type} : O α → (α → Store → O β) → O β
  | .ok a st, f => f a st
  | .ex x st, _ => .ex x st
  | .bad, _ => .bad
@[simp] theorem O.bind_ok {α β : Type} (a : α) (st : Store) (f : α → Store → O β) : (O.ok a st).bind f = f a st := rfl
@[simp] theorem O.bind_ex {α β : Type} (x : Exn) (st : Store) (f : α → Store → O β) : (O.ex x st : O α).bind f = .ex x st := rfl
@[simp] theorem O.bind_bad {α β : Type} (f : α → Store → O β) : (O.bad : O α).bind f = .bad := rfl
/-- a slot of a frame: nothing, a value that may be shared, an object that this frame alone holds -/
inductive Slot where
  | no | val (t : T) | own (t : T)
abbrev Env := List Slot

/-! ### views -/
def lstOf (st : Store) : T → Option (List T)
  | .lst xs => some xs
  | .scr xs => some xs
  | .ref n => match st[n]? with
    | some (.lst xs) => some xs
    | _ => none
  | _ => none
def tupOf : T → Option (List T)
  | .tup xs => some xs
  | _ => none
def seqOf (st : Store) (t : T) : Option (List T) := match tupOf t with
  | some xs => some xs
  | none => lstOf st t
def dicOf (st : Store) : T → Option (List (Key × T))
  | .dic kvs => some kvs
  | .ref n => match st[n]? with
    | some (.dic kvs) => some kvs
    | _ => none
  | _ => none
def truth (st : Store) : T → Option Bool
  | .non => some false
  | .bl b => some b
  | .int i => some (i != 0)
  | .str x => if x.length ≤ 2 ^ 24 then some ((x.length : Int) != 0) else none
  | .tup xs => some (!xs.isEmpty)
  | .lst xs => some (!xs.isEmpty)
  | .scr xs => some (!xs.isEmpty)
  | .dic kvs => some (!kvs.isEmpty)
  | .tab _ _ => none
  | .ref n => match st[n]? with
    | some (.lst xs) => some (!xs.isEmpty)
    | some (.dic kvs) => some (!kvs.isEmpty)
    | _ => none
end Q
end
/-! QEval -/
section
set_option linter.all false
set_option maxRecDepth 100000
namespace Q
open PySem L2
/-! ### data, with fuel for the depth -/
mutual
def toD : Nat → T → Option PyData
  | 0, _ => none
  | _ + 1, .non => some .none
  | _ + 1, .bl b => some (.bool b)
  | _ + 1, .int i => some (.int i)
  | _ + 1, .str x => if PyData.strOk x then some (.str x) else none
  | n + 1, .tup xs => (toDs n xs).map .tuple
  | n + 1, .lst xs => (toDs n xs).map .list
  | _ + 1, _ => none
def toDs : Nat → List T → Option (List PyData)
  | _, [] => some []
  | n, x :: xs => match toD n x, toDs n xs with
    | some d, some ds => some (d :: ds)
    | _, _ => none
end
/-- the datum at a value, through the store at the top -/
def datOf (st : Store) : T → Option PyData
  | .ref n => match st[n]? with
    | some (.lst xs) => toD 60 (.lst xs)
    | _ => none
  | t => toD 60 t
def eqT (st : Store) (a b : T) : Option Bool := match datOf st a, datOf st b with
  | some d, some e => some (PyData.eqv d e)
  | _, _ => none
def inT (st : Store) (x : T) (ys : List T) : Option Bool := match datOf st x, toDs 60 ys with
  | some d, some ds => some (ds.any fun z => PyData.eqv z d)
  | _, _ => none

inductive Kind where
  | int | bool | str | tuple | list | dict | seq
  deriving DecidableEq
/-- strict operations that change nothing -/
inductive Op where
  | add | sub | mul | fdiv | mod | pow | neg
  | eq | ne | lt | le | gt | ge | isN | notN | isB (b : Bool) | notB (b : Bool) | inn | notIn
  | len | tuple | list | sorted | abs | int | min2 | maxL | minL | all | any
  | isi (k : Kind)
  | idx | dget | rev | listEnum | listRange | setSort | catAll
  deriving DecidableEq
inductive Ty7 where
  | non | bl | int | str | tup | lst | dic
  deriving DecidableEq
def Ty7.nm : Ty7 → String
  | .non => "NoneType"
  | .bl => "bool"
  | .int => "int"
  | .str => "str"
  | .tup => "tuple"
  | .lst => "list"
  | .dic => "dict"
def Kind.nm : Kind → String
  | .int => "int"
  | .bool => "bool"
  | .str => "str"
  | .tuple => "tuple"
  | .list => "list"
  | .dict => "dict"
  | .seq => ""
def isK1 : Ty7 → Kind → Bool
  | .bl, .bool => true
  | .bl, .int => true
  | .int, .int => true
  | .str, .str => true
  | .tup, .tuple => true
  | .lst, .list => true
  | .dic, .dict => true
  | _, _ => false
def isK (t : Ty7) : Kind → Bool
  | .seq => isK1 t .list || isK1 t .tuple
  | k => isK1 t k
def tyOf (st : Store) : T → Option Ty7
  | .non => some .non
  | .bl _ => some .bl
  | .int _ => some .int
  | .str _ => some .str
  | .tup _ => some .tup
  | .lst _ => some .lst
  | .scr _ => none
  | .dic _ => some .dic
  | .tab _ _ => none
  | .ref n => match st[n]? with
    | some (.lst _) => some .lst
    | some (.dic _) => some .dic
    | _ => none
def keyOf : T → Option Key
  | .int i => some (.inl i)
  | .str x => some (.inr x)
  | _ => none
def getK (kvs : List (Key × T)) (k : Key) : Option T := (kvs.find? fun kv => decide (kv.1 = k)).map (·.2)
def putK (kvs : List (Key × T)) (k : Key) (v : T) : List (Key × T) :=
  if (kvs.any fun kv => decide (kv.1 = k)) = true then kvs.map (fun kv => if kv.1 = k then (kv.1, v) else kv) else kvs ++ [(k, v)]
def ofKey : Key → T
  | .inl i => .int i
  | .inr x => .str x
def cut {α : Type} (xs : List α) (lo hi : Option Int) : List α := (xs.drop (HT.sIx xs.length 0 lo)).take (HT.sIx xs.length xs.length hi - HT.sIx xs.length 0 lo)
def intsOf : List T → Option (List Int)
  | [] => some []
  | .int i :: r => (intsOf r).map (i :: ·)
  | _ :: _ => none
def blsOf : List T → Option (List Bool)
  | [] => some []
  | .bl i :: r => (blsOf r).map (i :: ·)
  | _ :: _ => none
def insI (x : Int) : List Int → List Int
  | [] => [x]
  | y :: r => if x ≤ y then x :: y :: r else y :: insI x r
def sortI : List Int → List Int
  | [] => []
  | x :: r => insI x (sortI r)
def maxI : List Int → Int
  | [] => 0
  | [x] => x
  | x :: r => let m := maxI r; if m > x then m else x
def minI : List Int → Int
  | [] => 0
  | [x] => x
  | x :: r => let m := minI r; if m < x then m else x
def slice (st : Store) (x : T) (lo hi : Option Int) : Option T := match x with
  | .tup xs => some (.tup (cut xs lo hi))
  | x => (lstOf st x).map fun xs => .lst (cut xs lo hi)
/-- a slice's part: left out, or an int -/
def partOf : List T → Option (Option Int)
  | [] => some none
  | [.int i] => some (some i)
  | _ => none
def cmpI (f : Int → Int → Bool) : T → T → Option T
  | .int i, .int j => some (.bl (f i j))
  | _, _ => none
/-- the whole numbers a .. b - 1 -/
def rgI (a b : Int) : List Int := (List.range (b - a).toNat).map fun (i : Nat) => a + i
def lstsOf : List T → Option (List (List T))
  | [] => some []
  | .lst i :: r => (lstsOf r).map (i :: ·)
  | _ :: _ => none
def keysI : List (Key × T) → Option (List Int)
  | [] => some []
  | (.inl i, _) :: r => (keysI r).map (i :: ·)
  | _ :: _ => none
def isNonT : T → Bool
  | .non => true
  | _ => false
def opEval (st : Store) : Op → List T → Option T
  | .add, [.int i, .int j] => some (.int (i + j))
  | .add, [.tup xs, .tup ys] => if xs.length + ys.length ≤ sizeLine then some (.tup (xs ++ ys)) else none
  | .add, [.lst xs, .lst ys] => if xs.length + ys.length ≤ sizeLine then some (.lst (xs ++ ys)) else none
  | .sub, [.int i, .int j] => some (.int (i - j))
  | .mul, [.int i, .int j] => if (-(2 ^ 64) < i ∧ i < 2 ^ 64) ∨ (-(2 ^ 64) < j ∧ j < 2 ^ 64) then some (.int (i * j)) else none
  | .mul, [.lst xs, .int k] => if (-(2 ^ 63) ≤ k ∧ k < 2 ^ 63) ∧ xs.length * k.toNat ≤ sizeLine then some (.lst (List.replicate k.toNat xs).flatten) else none
  | .mul, [.tup xs, .int k] => if (-(2 ^ 63) ≤ k ∧ k < 2 ^ 63) ∧ xs.length * k.toNat ≤ sizeLine then some (.tup (List.replicate k.toNat xs).flatten) else none
  | .fdiv, [.int i, .int j] => if 0 < j ∧ j < 1073741824 then some (.int (i / j)) else none
  | .mod, [.int i, .int j] => if 0 < j then some (.int (i % j)) else none
  | .pow, [.int i, .int j] => if 0 ≤ j ∧ j ≤ 1000000 ∧ i.natAbs < 2 ^ 64 then some (.int (i ^ j.toNat)) else none
  | .neg, [.int i] => some (.int (-i))
  | .eq, [a, b] => (eqT st a b).map .bl
  | .ne, [a, b] => (eqT st a b).map fun c => .bl (!c)
  | .lt, [a, b] => cmpI (fun i j => decide (i < j)) a b
  | .le, [a, b] => cmpI (fun i j => decide (i ≤ j)) a b
  | .gt, [a, b] => cmpI (fun i j => decide (j < i)) a b
  | .ge, [a, b] => cmpI (fun i j => decide (j ≤ i)) a b
  | .isN, [a] => some (.bl (isNonT a))
  | .notN, [a] => some (.bl (!isNonT a))
  | .isB b, [.bl a] => some (.bl (decide (a = b)))
  | .notB b, [.bl a] => some (.bl (!decide (a = b)))
  | .inn, [a, b] => match dicOf st b with
    | some kvs => (keyOf a).map fun k => .bl (getK kvs k).isSome
    | none => (seqOf st b).bind fun ys => (inT st a ys).map .bl
  | .notIn, [a, b] => match dicOf st b with
    | some kvs => (keyOf a).map fun k => .bl (!(getK kvs k).isSome)
    | none => (seqOf st b).bind fun ys => (inT st a ys).map fun c => .bl (!c)
  | .len, [a] => match dicOf st a with
    | some kvs => some (.int kvs.length)
    | none => (seqOf st a).map fun xs => .int xs.length
  | .tuple, [a] => (seqOf st a).map .tup
  | .list, [a] => match dicOf st a with
    | some kvs => some (.lst (kvs.map fun kv => ofKey kv.1))
    | none => (seqOf st a).map .lst
  | .sorted, [a] => match dicOf st a with
    | some kvs => (keysI kvs).bind fun is => if is.length < 64 then some (.lst ((sortI is).map .int)) else none
    | none => (lstOf st a).bind fun xs => (intsOf xs).map fun is => .lst ((sortI is).map .int)
  | .abs, [.int i] => some (.int (if i < 0 then -i else i))
  | .int, [.int i] => some (.int i)
  | .int, [.bl b] => some (.int (if b then 1 else 0))
  | .min2, [.int i, .int j] => some (.int (if j < i then j else i))
  | .maxL, [a] => (lstOf st a).bind fun xs => (intsOf xs).bind fun is => if is = [] then none else some (.int (maxI is))
  | .minL, [a] => (lstOf st a).bind fun xs => (intsOf xs).bind fun is => if is = [] then none else some (.int (minI is))
  | .all, [a] => (lstOf st a).bind fun xs => (blsOf xs).map fun bs => .bl (bs.all id)
  | .any, [a] => (lstOf st a).bind fun xs => (blsOf xs).map fun bs => .bl (bs.any id)
  | .isi k, [a] => (tyOf st a).map fun t => .bl (isK t k)
  | .idx, [a, .int i] => (seqOf st a).bind fun xs => atI xs i
  | .dget, [a, i] => (dicOf st a).bind fun kvs => (keyOf i).bind fun k => getK kvs k
  | .listEnum, [a] => (seqOf st a).map fun xs => .lst (xs.mapIdx fun i x => .tup [.int i, x])
  | .listRange, [.int n] => if -1000000 ≤ n ∧ n ≤ 1000000 then some (.lst ((rgI 0 n).map .int)) else none
  | .listRange, [.int a, .int b] => if (-1000000 ≤ a ∧ a ≤ 1000000) ∧ (-1000000 ≤ b ∧ b ≤ 1000000) then some (.lst ((rgI a b).map .int)) else none
  | .setSort, [a] => (lstOf st a).bind fun xs => (intsOf xs).bind fun is => if is.length ≤ 4000 ∧ is.eraseDups.length < 64 then some (.lst ((sortI is.eraseDups).map .int)) else none
  | .catAll, [a] => (lstOf st a).bind fun xs => (lstsOf xs).bind fun ls => if ls.flatten.length ≤ sizeLine then some (.lst ls.flatten) else none
  | _, _ => none

inductive ItK where
  | seq | rng1 | rng2 | enum | zip
  deriving DecidableEq
inductive Tg where
  | nm (i : Nat) | tp (ts : List Tg)
inductive E where
  | var (i : Nat)
  | con (t : T)
  | op (o : Op) (es : List E)
  | band (es : List E)
  | bor (es : List E)
  | not (e : E)
  | ite (c a b : E)
  | tup (es : List E)
  | lst (es : List E)
  | dic0
  | slc (a : E) (lo hi : List E)
  | chn (o1 o2 : Op) (a b c : E)
  | call (c : Nat) (es sa ks : List E)
  | comp (tg : Tg) (k : ItK) (src : List E) (cs : List E) (elt : E)
  | heard (g : Nat) (e : E)
inductive S where
  | ass (i : Nat) (e : E)
  | own (i : Nat) (e : E)
  | tas (tg : Tg) (e : E)
  | par (is : List (Nat × Bool)) (es : List E)
  | exp (e : E)
  | ret (e : E)
  | retB (e : E)
  | retN | pas | brk | cnt
  | iff (c : E) (a b : List S)
  | for (tg : Tg) (k : ItK) (src : List E) (body : List S)
  | whl (c : E) (body : List S)
  | app (i : Nat) (e : E)
  | ext (i : Nat) (e : E)
  | pop (i : Nat) (es : List E) (tg : Nat)
  | appPop (i j : Nat) (es : List E)
  | seti (i : Nat) (k e : E)
  | setr (o k e : E)
  | headTail (tg : Tg) (i : Nat)
  | rse (c : Str) (es : List E)
  | frz (i : Nat)

/-! ### targets, iterations -/
mutual
def assign : Tg → T → Env → Option Env
  | .nm i, t, ρ => if i < ρ.length then some (ρ.set i (.val t)) else none
  | .tp ts, .tup xs, ρ => assigns ts xs ρ
  | _, _, _ => none
def assigns : List Tg → List T → Env → Option Env
  | [], [], ρ => some ρ
  | t :: ts, x :: xs, ρ => match assign t x ρ with
    | some ρ' => assigns ts xs ρ'
    | none => none
  | _, _, _ => none
end
def plainSeq : T → Option (List T)
  | .tup xs => some xs
  | .lst xs => some xs
  | .scr xs => some xs
  | _ => none
def plainLst : T → Option (List T)
  | .lst xs => some xs
  | _ => none
def itEval : ItK → List T → Option (List T)
  | .seq, [a] => plainSeq a
  | .rng1, [.int n] => if -1000000 ≤ n ∧ n ≤ 1000000 then some ((List.range n.toNat).map fun (i : Nat) => T.int i) else none
  | .rng2, [.int a, .int b] => if (-1000000 ≤ a ∧ a ≤ 1000000) ∧ (-1000000 ≤ b ∧ b ≤ 1000000) then some ((List.range (b - a).toNat).map fun (i : Nat) => T.int (a + i)) else none
  | .enum, [a] => (plainSeq a).map fun xs => xs.mapIdx fun i x => .tup [.int i, x]
  | .zip, [a, b] => (plainLst a).bind fun xs => (plainLst b).map fun ys => (xs.zip ys).map fun p => .tup [p.1, p.2]
  | _, _ => none

/-! ### expressions -/
/-- and, or by truth -/
def bopL (stop : Bool) : List (Store → O T) → Store → O T
  | [], _ => .bad
  | [f], st => f st
  | f :: fs, st => (f st).bind fun t st' => match truth st' t with
    | some b => if b = stop then .ok t st' else bopL stop fs st'
    | none => .bad
def noex {α : Type} : O α → O α
  | .ok a st => .ok a st
  | _ => .bad
def compL (f : T → Store → O (Option T)) : List T → Store → O (List T)
  | [], st => .ok [] st
  | x :: xs, st => (noex (f x st)).bind fun r st' => (compL f xs st').bind fun rs st'' => .ok (match r with | some y => y :: rs | none => rs) st''
def condsL : List (Store → O T) → Store → O Bool
  | [], st => .ok true st
  | f :: fs, st => (f st).bind fun t st' => match truth st' t with
    | some true => condsL fs st'
    | some false => .ok false st'
    | none => .bad
def slotV (ρ : Env) (i : Nat) : Option T := match ρ[i]? with
  | some (.val t) => some t
  | _ => none
def slotO (ρ : Env) (i : Nat) : Option T := match ρ[i]? with
  | some (.own t) => some t
  | _ => none
def lift (o : Option T) (st : Store) : O T := match o with
  | some t => .ok t st
  | none => .bad
def flatS (st : Store) : List T → Option (List T)
  | [] => some []
  | t :: ts => match seqOf st t, flatS st ts with
    | some xs, some ys => some (xs ++ ys)
    | _, _ => none
def orB (o : Option T) (st : Store) (k : O T) : O T := match o with
  | some t => .ok t st
  | none => k
def ownVar : E → Env → Option T
  | .var i, ρ => slotO ρ i
  | _, _ => none
section
variable (call : Nat → List T → List T → Store → O T) (hear : Nat → Store → O T → O T)
mutual
def evalE : E → Env → Store → O T
  | .var i, ρ, st => lift (slotV ρ i) st
  | .con t, _, st => .ok t st
  | .op o es, ρ, st => (evalBs es ρ st).bind fun ts st' => lift (opEval st' o ts) st'
  | .band es, ρ, st => bopL false (evalFs es ρ) st
  | .bor es, ρ, st => bopL true (evalFs es ρ) st
  | .not e, ρ, st => (orB (ownVar e ρ) st (evalE e ρ st)).bind fun t st' => match truth st' t with
    | some b => .ok (.bl (!b)) st'
    | none => .bad
  | .ite c a b, ρ, st => (orB (ownVar c ρ) st (evalE c ρ st)).bind fun t st' => match truth st' t with
    | some true => evalE a ρ st'
    | some false => evalE b ρ st'
    | none => .bad
  | .tup es, ρ, st => (evalEs es ρ st).bind fun ts st' => .ok (.tup ts) st'
  | .lst es, ρ, st => (evalEs es ρ st).bind fun ts st' => .ok (.lst ts) st'
  | .dic0, _, st => .ok (.dic []) st
  | .slc a lo hi, ρ, st => (orB (ownVar a ρ) st (evalE a ρ st)).bind fun t st1 => (evalBs lo ρ st1).bind fun ls st2 => match partOf ls with
    | some l => (evalBs hi ρ st2).bind fun hs st3 => match partOf hs with
      | some h => lift (slice st3 t l h) st3
      | none => .bad
    | none => .bad
  | .chn o1 o2 a b c, ρ, st => (evalE a ρ st).bind fun x st1 => (evalE b ρ st1).bind fun y st2 => match opEval st2 o1 [x, y] with
    | some (.bl true) => (evalE c ρ st2).bind fun z st3 => lift (opEval st3 o2 [y, z]) st3
    | some (.bl false) => .ok (.bl false) st2
    | _ => .bad
  | .call c es sa ks, ρ, st => (evalEs es ρ st).bind fun ts st1 => (evalBs sa ρ st1).bind fun ss st2 => match flatS st2 ss with
    | some xs => (evalEs ks ρ st2).bind fun zs st3 => call c (ts ++ xs) zs st3
    | none => .bad
  | .comp tg k src cs elt, ρ, st => (evalBs src ρ st).bind fun ts st' => match itEval k ts with
    | some xs => (compL (fun x s => match assign tg x ρ with
      | some ρ' => (condsL (evalFs cs ρ') s).bind fun c s' => if c then (evalE elt ρ' s').bind fun y s'' => .ok (some y) s'' else .ok none s'
      | none => .bad) xs st').bind fun ys st'' => .ok (.lst ys) st''
    | none => .bad
  | .heard g e, ρ, st => hear g st (evalE e ρ st)
def evalEs : List E → Env → Store → O (List T)
  | [], _, st => .ok [] st
  | e :: es, ρ, st => (evalE e ρ st).bind fun t st' => (evalEs es ρ st').bind fun ts st'' => .ok (t :: ts) st''
/-- borrowed: a slot that the frame holds alone may be read -/
def evalBs : List E → Env → Store → O (List T)
  | [], _, st => .ok [] st
  | e :: es, ρ, st => (orB (ownVar e ρ) st (evalE e ρ st)).bind fun t st' => (evalBs es ρ st').bind fun ts st'' => .ok (t :: ts) st''
def evalFs : List E → Env → List (Store → O T)
  | [], _ => []
  | e :: es, ρ => (fun st => evalE e ρ st) :: evalFs es ρ
end
end
end Q
end
/-! QStm -/
section
set_option linter.all false
set_option maxRecDepth 100000
namespace Q
open PySem L2
def freshOp : Op → Bool
  | .add | .mul | .list | .sorted | .rev | .listEnum | .listRange | .setSort | .catAll => true
  | _ => false
def freshE : E → Bool
  | .lst _ => true
  | .dic0 => true
  | .slc _ _ _ => true
  | .comp _ _ _ _ _ => true
  | .op o _ => freshOp o
  | _ => false
def isMut : T → Bool
  | .lst _ => true
  | .dic _ => true
  | _ => false
inductive R where
  | nx (ρ : Env) (st : Store) | rt (t : T) (st : Store) | bk (ρ : Env) (st : Store) | ct (ρ : Env) (st : Store) | ex (x : Exn) (st : Store) | bad
def O.then {α : Type} : O α → (α → Store → R) → R
  | .ok a st, f => f a st
  | .ex x st, _ => .ex x st
  | .bad, _ => .bad
@[simp] theorem O.then_ok {α : Type} (a : α) (st : Store) (f : α → Store → R) : (O.ok a st).then f = f a st := rfl
@[simp] theorem O.then_ex {α : Type} (x : Exn) (st : Store) (f : α → Store → R) : (O.ex x st : O α).then f = .ex x st := rfl
@[simp] theorem O.then_bad {α : Type} (f : α → Store → R) : (O.bad : O α).then f = .bad := rfl
def setS (ρ : Env) (i : Nat) (s : Slot) (st : Store) : R := if i < ρ.length then .nx (ρ.set i s) st else .bad
def forL (f : T → Env → Store → R) : List T → Env → Store → R
  | [], ρ, st => .nx ρ st
  | x :: xs, ρ, st => match f x ρ st with
    | .nx ρ' st' => forL f xs ρ' st'
    | .ct ρ' st' => forL f xs ρ' st'
    | .bk ρ' st' => .nx ρ' st'
    | r => r
def whlL (c : Env → Store → O T) (f : Env → Store → R) : Nat → Env → Store → R
  | 0, _, _ => .bad
  | n + 1, ρ, st => (c ρ st).then fun t st1 => match truth st1 t with
    | some true => match f ρ st1 with
      | .nx ρ' st' => whlL c f n ρ' st'
      | .ct ρ' st' => whlL c f n ρ' st'
      | .bk ρ' st' => .nx ρ' st'
      | r => r
    | some false => .nx ρ st1
    | none => .bad
/-- a store by place or key into a list or dict -/
def putAt (o : T) (k v : T) : Option T := match o, k with
  | .lst xs, .int i => (L2.ixN xs.length i).map fun j => .lst (xs.set j v)
  | .dic kvs, k => (keyOf k).bind fun k => if kvs.length < sizeLine then some (.dic (putK kvs k v)) else none
  | _, _ => none
/-- where a pop takes -/
def popIx (xs : List T) : List T → Option Nat
  | [] => if xs.isEmpty then none else some (xs.length - 1)
  | [.int k] => L2.ixN xs.length k
  | _ => none
def parSet : List (Nat × Bool) → List T → Env → Option Env
  | [], [], ρ => some ρ
  | (i, o) :: is, t :: ts, ρ => if i < ρ.length ∧ (o = true → isMut t = true) then parSet is ts (ρ.set i (if o then .own t else .val t)) else none
  | _, _, _ => none
section
variable (call : Nat → List T → List T → Store → O T) (hear : Nat → Store → O T → O T) (W : Nat)
abbrev evB (e : E) (ρ : Env) (st : Store) : O T := orB (ownVar e ρ) st (evalE call hear e ρ st)
mutual
def evalS : S → Env → Store → R
  | .ass i e, ρ, st => (evalE call hear e ρ st).then fun t st' => setS ρ i (.val t) st'
  | .own i e, ρ, st => if freshE e then (evalE call hear e ρ st).then fun t st' => if isMut t then setS ρ i (.own t) st' else .bad else .bad
  | .tas tg e, ρ, st => (evalE call hear e ρ st).then fun t st' => match assign tg t ρ with
    | some ρ' => .nx ρ' st'
    | none => .bad
  | .par is es, ρ, st => (evalEs call hear es ρ st).then fun ts st' => match parSet is ts ρ with
    | some ρ' => .nx ρ' st'
    | none => .bad
  | .exp e, ρ, st => (evalE call hear e ρ st).then fun _ st' => .nx ρ st'
  | .ret e, ρ, st => (evalE call hear e ρ st).then fun t st' => .rt t st'
  | .retB e, ρ, st => if freshE e then (evalE call hear e ρ st).then fun t st' => if isMut t then .rt (.ref st'.length) (st' ++ [t]) else .bad else .bad
  | .retN, _, st => .rt .non st
  | .pas, ρ, st => .nx ρ st
  | .brk, ρ, st => .bk ρ st
  | .cnt, ρ, st => .ct ρ st
  | .iff c a b, ρ, st => (evB call hear c ρ st).then fun t st' => match truth st' t with
    | some true => evalSs a ρ st'
    | some false => evalSs b ρ st'
    | none => .bad
  | .for tg k src body, ρ, st => (evalEs call hear src ρ st).then fun ts st' => match itEval k ts with
    | some xs => forL (fun x ρ s => match assign tg x ρ with
      | some ρ' => evalSs body ρ' s
      | none => .bad) xs ρ st'
    | none => .bad
  | .whl c body, ρ, st => whlL (evB call hear c) (evalSs body) W ρ st
  | .app i e, ρ, st => match slotO ρ i with
    | some (.lst xs) => (evalE call hear e ρ st).then fun t st' => if xs.length < sizeLine then setS ρ i (.own (.lst (xs ++ [t]))) st' else .bad
    | _ => .bad
  | .ext i e, ρ, st => match slotO ρ i with
    | some (.lst xs) => (evB call hear e ρ st).then fun t st' => match t with
      | .lst ys => if xs.length + ys.length ≤ sizeLine then setS ρ i (.own (.lst (xs ++ ys))) st' else .bad
      | _ => .bad
    | _ => .bad
  | .pop i es tg, ρ, st => match slotO ρ i with
    | some (.lst xs) => (evalBs call hear es ρ st).then fun ks st' => match popIx xs ks with
      | some n => match xs[n]? with
        | some t => if tg < ρ.length ∧ tg ≠ i then .nx ((ρ.set i (.own (.lst (xs.eraseIdx n)))).set tg (.val t)) st' else .bad
        | none => .bad
      | none => .bad
    | _ => .bad
  | .appPop i j es, ρ, st => match slotO ρ i, slotO ρ j with
    | some (.lst xs), some (.lst ys) => (evalBs call hear es ρ st).then fun ks st' => match popIx ys ks with
      | some n => match ys[n]? with
        | some t => if xs.length < sizeLine ∧ i ≠ j then .nx ((ρ.set j (.own (.lst (ys.eraseIdx n)))).set i (.own (.lst (xs ++ [t])))) st' else .bad
        | none => .bad
      | none => .bad
    | _, _ => .bad
  | .seti i k e, ρ, st => match slotO ρ i with
    | some o => (evalE call hear e ρ st).then fun v st1 => (evB call hear k ρ st1).then fun k st2 => match putAt o k v with
      | some o' => setS ρ i (.own o') st2
      | none => .bad
    | none => .bad
  | .setr o k e, ρ, st => (evalE call hear e ρ st).then fun v st1 => (evalE call hear o ρ st1).then fun o st2 => (evB call hear k ρ st2).then fun k st3 => match o with
    | .ref n => match st3[n]? with
      | some c => match putAt c k v with
        | some c' => .nx ρ (st3.set n c')
        | none => .bad
      | none => .bad
    | _ => .bad
  | .headTail tg i, ρ, st => match slotO ρ i with
    | some (.lst (x :: xs)) => match assign tg x ρ with
      | some ρ' => setS ρ' i (.own (.lst xs)) st
      | none => .bad
    | _ => .bad
  | .rse c es, ρ, st => (evalEs call hear es ρ st).then fun ts st' => .ex ⟨c, ts⟩ st'
  | .frz i, ρ, st => match slotO ρ i with
    | some t => setS ρ i (.val t) st
    | none => .bad
def evalSs : List S → Env → Store → R
  | [], ρ, st => .nx ρ st
  | s :: ss, ρ, st => match evalS s ρ st with
    | .nx ρ' st' => evalSs ss ρ' st'
    | r => r
end
end
/-- a def: how many parameters, how many slots, the body -/
structure Fn where
  ps : Nat
  ns : Nat
  body : List S
/-- how a parameter comes to its value: a positional one, a keyword's, a default, the tuple of the positional ones from a place on -/
inductive Arr where
  | at (i : Nat) | kw (i : Nat) | dfl (t : T) | rest (i : Nat)
/-- a kind of call: the def, its name, how many positional values (at least), the keywords, the arrangement -/
structure CK where
  fn : Nat
  np : Nat
  open_ : Bool
  ks : List Str
  arr : List Arr
def arrange (ts zs : List T) : List Arr → Option (List T)
  | [] => some []
  | a :: r => match (match a with
      | .at i => ts[i]?
      | .kw i => zs[i]?
      | .dfl t => some t
      | .rest i => some (.tup (ts.drop i))), arrange ts zs r with
    | some t, some us => some (t :: us)
    | _, _ => none
def finish : R → O T
  | .nx _ st => .ok .non st
  | .rt t st => .ok t st
  | .ex x st => .ex x st
  | _ => .bad
structure Prg where
  fns : List Fn
  cks : List CK
  hear : Nat → Store → O T → O T
  W : Nat
def Prg.viaK (p : Prg) (run : Nat → List T → Store → O T) (c : Nat) (ts zs : List T) (st : Store) : O T := match p.cks[c]? with
  | some ck => if (ts.length = ck.np ∨ (ck.open_ = true ∧ ck.np ≤ ts.length ∧ ts.length ≤ sizeLine)) ∧ zs.length = ck.ks.length then match arrange ts zs ck.arr with
    | some us => run ck.fn us st
    | none => .bad
    else .bad
  | none => .bad
def Prg.callN (p : Prg) : Nat → Nat → List T → Store → O T
  | 0, _, _, _ => .bad
  | n + 1, f, ts, st => match p.fns[f]? with
    | some fn => if ts.length = fn.ps then finish (evalSs (p.viaK (p.callN n)) p.hear p.W fn.body (ts.map Slot.val ++ List.replicate (fn.ns - fn.ps) Slot.no) st) else .bad
    | none => .bad
end Q
end
/-! QRep -/
section
set_option linter.all false
set_option maxRecDepth 100000
namespace Q
open PySem L2
/-! ### values and trees -/
mutual
inductive Rep (K : PySem.W.Frag) (F : Hp) (as : List Addr) : V → T → Prop
  | non : Rep K F as .non .non
  | bl (b : Bool) : Rep K F as (.bl b) (.bl b)
  | int (i : Int) : Rep K F as (.int i) (.int i)
  | str (x : PySem.Str) : Rep K F as (.str x) (.str x)
  | tup {a : Addr} {vs : List V} {ts : List T} : SqT K F a vs → vs.length ≤ sizeLine → Reps K F as vs ts → Rep K F as (.ref a) (.tup ts)
  | lst {a : Addr} {vs : List V} {ts : List T} : F a = some (.lst vs) → vs.length ≤ sizeLine → Reps K F as vs ts → Rep K F as (.ref a) (.lst ts)
  | scr {a : Addr} {vs : List V} {ts : List T} : SqL K F a vs → vs.length ≤ sizeLine → Reps K F as vs ts → Rep K F as (.ref a) (.scr ts)
  | dic {a : Addr} {kvs : List (Q.Key × V)} {kts : List (Q.Key × T)} : F a = some (.dK kvs) → RepKs K F as kvs kts → Rep K F as (.ref a) (.dic kts)
  | ref {a : Addr} {n : Nat} : as[n]? = some a → Rep K F as (.ref a) (.ref n)
inductive Reps (K : PySem.W.Frag) (F : Hp) (as : List Addr) : List V → List T → Prop
  | nil : Reps K F as [] []
  | cons {v : V} {vs : List V} {t : T} {ts : List T} : Rep K F as v t → Reps K F as vs ts → Reps K F as (v :: vs) (t :: ts)
inductive RepKs (K : PySem.W.Frag) (F : Hp) (as : List Addr) : List (Q.Key × V) → List (Q.Key × T) → Prop
  | nil : RepKs K F as [] []
  | cons {k : Q.Key} {v : V} {vs : List (Q.Key × V)} {t : T} {ts : List (Q.Key × T)} : Rep K F as v t → RepKs K F as vs ts → RepKs K F as ((k, v) :: vs) ((k, t) :: ts)
end
def Sub (F H : Hp) : Prop := ∀ a o, F a = some o → H a = some o
theorem Sub.refl (H : Hp) : Sub H H := fun _ _ h => h
theorem Sub.trans {A B C : Hp} (x : Sub A B) (y : Sub B C) : Sub A C := fun a o h => y a o (x a o h)
theorem Sub.rd {F H : Hp} (s : Sub F H) {a : Addr} {u : HO} (h : Rd F a u) : Rd H a u := by
  rcases h with h | ⟨o, h⟩
  · exact .inl (s _ _ h)
  · exact .inr ⟨o, s _ _ h⟩
theorem Sub.sqL {F H : Hp} (s : Sub F H) {K : PySem.W.Frag} {a : Addr} {xs : List V} (h : SqL K F a xs) : SqL K H a xs := by
  rcases h with h | h
  · exact .inl (s.rd h)
  · exact .inr h
theorem Sub.sqT {F H : Hp} (s : Sub F H) {K : PySem.W.Frag} {a : Addr} {xs : List V} (h : SqT K F a xs) : SqT K H a xs := by
  rcases h with h | h
  · exact .inl (s.rd h)
  · exact .inr h
def Pre (as bs : List Addr) : Prop := ∃ l, bs = as ++ l
theorem Pre.refl (as : List Addr) : Pre as as := ⟨[], by simp⟩
theorem Pre.trans {a b c : List Addr} (x : Pre a b) (y : Pre b c) : Pre a c := by
  obtain ⟨l, rfl⟩ := x
  obtain ⟨m, rfl⟩ := y
  exact ⟨l ++ m, by simp⟩
theorem Pre.get {as bs : List Addr} (x : Pre as bs) {n : Nat} {a : Addr} (h : as[n]? = some a) : bs[n]? = some a := by
  obtain ⟨l, rfl⟩ := x
  rw [List.getElem?_append_left (List.getElem?_eq_some_iff.mp h).1]
  exact h
theorem Pre.mem {as bs : List Addr} (x : Pre as bs) {a : Addr} (h : a ∈ as) : a ∈ bs := by
  obtain ⟨l, rfl⟩ := x
  exact List.mem_append_left _ h
section
variable {K : PySem.W.Frag} {F F' : Hp} {as as' : List Addr}
mutual
theorem Rep.mono (s : Sub F F') (p : Pre as as') : ∀ {v : V} {t : T}, Rep K F as v t → Rep K F' as' v t
  | _, _, .non => .non
  | _, _, .bl b => .bl b
  | _, _, .int i => .int i
  | _, _, .str x => .str x
  | _, _, .tup h l r => .tup (s.sqT h) l (Reps.mono s p r)
  | _, _, .lst h l r => .lst (s _ _ h) l (Reps.mono s p r)
  | _, _, .scr h l r => .scr (s.sqL h) l (Reps.mono s p r)
  | _, _, .dic h r => .dic (s _ _ h) (RepKs.mono s p r)
  | _, _, .ref h => .ref (p.get h)
theorem Reps.mono (s : Sub F F') (p : Pre as as') : ∀ {vs : List V} {ts : List T}, Reps K F as vs ts → Reps K F' as' vs ts
  | _, _, .nil => .nil
  | _, _, .cons h r => .cons (Rep.mono s p h) (Reps.mono s p r)
theorem RepKs.mono (s : Sub F F') (p : Pre as as') : ∀ {vs : List (Q.Key × V)} {ts : List (Q.Key × T)}, RepKs K F as vs ts → RepKs K F' as' vs ts
  | _, _, .nil => .nil
  | _, _, .cons h r => .cons (Rep.mono s p h) (RepKs.mono s p r)
end
theorem Reps.length : ∀ {vs : List V} {ts : List T}, Reps K F as vs ts → vs.length = ts.length
  | _, _, .nil => rfl
  | _, _, .cons _ r => congrArg Nat.succ r.length
theorem RepKs.length : ∀ {vs : List (Q.Key × V)} {ts : List (Q.Key × T)}, RepKs K F as vs ts → vs.length = ts.length
  | _, _, .nil => rfl
  | _, _, .cons _ r => congrArg Nat.succ r.length
theorem Reps.get : ∀ {vs : List V} {ts : List T} {i : Nat} {t : T}, Reps K F as vs ts → ts[i]? = some t → ∃ v, vs[i]? = some v ∧ Rep K F as v t
  | _, _, _, _, .nil, e => by simp at e
  | _, _, 0, _, .cons h _, e => by simp at e; subst e; exact ⟨_, rfl, h⟩
  | _, _, i + 1, _, .cons _ r, e => by
    obtain ⟨v, h1, h2⟩ := Reps.get (i := i) r (by simpa using e)
    exact ⟨v, by simpa using h1, h2⟩
theorem Reps.getV : ∀ {vs : List V} {ts : List T} {i : Nat} {v : V}, Reps K F as vs ts → vs[i]? = some v → ∃ t, ts[i]? = some t ∧ Rep K F as v t
  | _, _, _, _, .nil, e => by simp at e
  | _, _, 0, _, .cons h _, e => by simp at e; subst e; exact ⟨_, rfl, h⟩
  | _, _, i + 1, _, .cons _ r, e => by
    obtain ⟨v, h1, h2⟩ := Reps.getV (i := i) r (by simpa using e)
    exact ⟨v, by simpa using h1, h2⟩
theorem Reps.append : ∀ {vs ws : List V} {ts us : List T}, Reps K F as vs ts → Reps K F as ws us → Reps K F as (vs ++ ws) (ts ++ us)
  | _, _, _, _, .nil, s => s
  | _, _, _, _, .cons h r, s => .cons h (r.append s)
theorem Reps.take : ∀ {vs : List V} {ts : List T} (n : Nat), Reps K F as vs ts → Reps K F as (vs.take n) (ts.take n)
  | _, _, 0, _ => .nil
  | _, _, _ + 1, .nil => .nil
  | _, _, n + 1, .cons h r => .cons h (r.take n)
theorem Reps.drop : ∀ {vs : List V} {ts : List T} (n : Nat), Reps K F as vs ts → Reps K F as (vs.drop n) (ts.drop n)
  | _, _, 0, r => r
  | _, _, _ + 1, .nil => .nil
  | _, _, n + 1, .cons h r => r.drop n
theorem Reps.dropLast : ∀ {vs : List V} {ts : List T}, Reps K F as vs ts → Reps K F as vs.dropLast ts.dropLast := fun {vs ts} r => by
  rw [List.dropLast_eq_take, List.dropLast_eq_take, r.length]
  exact r.take _
theorem Reps.set {v : V} {t : T} (h : Rep K F as v t) : ∀ {vs : List V} {ts : List T} (i : Nat), Reps K F as vs ts → Reps K F as (vs.set i v) (ts.set i t)
  | _, _, _, .nil => .nil
  | _, _, 0, .cons _ r => .cons h r
  | _, _, i + 1, .cons q r => .cons q (Reps.set h i r)
theorem Reps.eraseIdx : ∀ {vs : List V} {ts : List T} (i : Nat), Reps K F as vs ts → Reps K F as (vs.eraseIdx i) (ts.eraseIdx i)
  | _, _, _, .nil => .nil
  | _, _, 0, .cons _ r => r
  | _, _, i + 1, .cons q r => .cons q (r.eraseIdx i)
theorem Reps.repl {vs : List V} {ts : List T} (r : Reps K F as vs ts) : ∀ n, Reps K F as (List.replicate n vs).flatten (List.replicate n ts).flatten
  | 0 => .nil
  | n + 1 => by
    rw [List.replicate_succ, List.replicate_succ, List.flatten_cons, List.flatten_cons]
    exact r.append (r.repl n)
theorem Reps.ints : ∀ {vs : List V} {ts : List T} {is : List Int}, Reps K F as vs ts → intsOf ts = some is → vs = is.map V.int
  | _, _, _, .nil, e => by cases e; rfl
  | _, _, is, .cons (t := t) (ts := ts) h r, e => by
    cases h <;> simp only [intsOf] at e <;> try cases e
    case int i =>
      obtain ⟨js, e1, e2⟩ := Option.map_eq_some_iff.mp e
      subst e2
      rw [r.ints e1]; rfl
theorem Reps.bls : ∀ {vs : List V} {ts : List T} {is : List Bool}, Reps K F as vs ts → blsOf ts = some is → vs = is.map V.bl
  | _, _, _, .nil, e => by cases e; rfl
  | _, _, is, .cons (t := t) (ts := ts) h r, e => by
    cases h <;> simp only [blsOf] at e <;> try cases e
    case bl i =>
      obtain ⟨js, e1, e2⟩ := Option.map_eq_some_iff.mp e
      subst e2
      rw [r.bls e1]; rfl
theorem Reps.ofInts : ∀ is : List Int, Reps K F as (is.map V.int) (is.map T.int)
  | [] => .nil
  | i :: r => .cons (.int i) (Reps.ofInts r)
theorem RepKs.val : ∀ {vs : List (Q.Key × V)} {ts : List (Q.Key × T)} (k : Q.Key), RepKs K F as vs ts →
    (valV vs k = none ∧ getK ts k = none) ∨ ∃ v t, valV vs k = some v ∧ getK ts k = some t ∧ Rep K F as v t
  | _, _, k, .nil => .inl ⟨rfl, rfl⟩
  | _, _, k, .cons (k := k') (v := v) (vs := vs) (t := t) (ts := ts) h r => by
    by_cases e : k' = k
    · refine .inr ⟨v, t, ?_, ?_, h⟩
      · unfold valV; simp [e]
      · unfold getK; simp [e]
    · have e1 : valV ((k', v) :: vs) k = valV vs k := by unfold valV; simp [e]
      have e2 : getK ((k', t) :: ts) k = getK ts k := by unfold getK; simp [e]
      rw [e1, e2]
      exact RepKs.val k r
end
end Q
end
/-! QSim -/
section
set_option linter.all false
set_option maxRecDepth 100000
namespace Q
open PySem L2
section
variable {K : PySem.W.Frag}
theorem Rep.key {F : Hp} {as : List Addr} {v : V} {t : T} {k : Q.Key} (h : Rep K F as v t) (e : keyOf t = some k) : v = kV k := by
  cases h <;> simp only [keyOf, Option.some.injEq] at e <;> try cases e
  all_goals first | rfl | (subst e; rfl)
theorem RepKs.any {F : Hp} {as : List Addr} (k : Q.Key) : ∀ {vs : List (Q.Key × V)} {ts : List (Q.Key × T)}, RepKs K F as vs ts → (vs.any fun kv => decide (kv.1 = k)) = (ts.any fun kv => decide (kv.1 = k))
  | _, _, .nil => rfl
  | _, _, .cons h r => by simp only [List.any_cons]; rw [r.any k]
theorem RepKs.upd1 {F : Hp} {as : List Addr} {v : V} {t : T} (h : Rep K F as v t) (k : Q.Key) : ∀ {vs : List (Q.Key × V)} {ts : List (Q.Key × T)}, RepKs K F as vs ts →
    RepKs K F as (vs.map fun kv => if kv.1 = k then (kv.1, v) else kv) (ts.map fun kv => if kv.1 = k then (kv.1, t) else kv)
  | _, _, .nil => .nil
  | _, _, .cons (k := k') q r => by
    simp only [List.map_cons]
    by_cases e : k' = k
    · rw [if_pos e, if_pos e]; exact .cons h (r.upd1 h k)
    · rw [if_neg e, if_neg e]; exact .cons q (r.upd1 h k)
theorem RepKs.append {F : Hp} {as : List Addr} : ∀ {vs ws : List (Q.Key × V)} {ts us : List (Q.Key × T)}, RepKs K F as vs ts → RepKs K F as ws us → RepKs K F as (vs ++ ws) (ts ++ us)
  | _, _, _, _, .nil, s => s
  | _, _, _, _, .cons h r, s => .cons h (r.append s)
theorem RepKs.put {F : Hp} {as : List Addr} {v : V} {t : T} (h : Rep K F as v t) (k : Q.Key) {vs : List (Q.Key × V)} {ts : List (Q.Key × T)} (r : RepKs K F as vs ts) : RepKs K F as (L2.putK vs k v) (Q.putK ts k t) := by
  unfold L2.putK Q.putK
  rw [r.any k]
  split
  · exact r.upd1 h k
  · exact r.append (.cons h .nil)
theorem RepKs.keys {F : Hp} {as : List Addr} : ∀ {vs : List (Q.Key × V)} {ts : List (Q.Key × T)}, RepKs K F as vs ts → Reps K F as (vs.map fun kv => kV kv.1) (ts.map fun kv => ofKey kv.1)
  | _, _, .nil => .nil
  | _, _, .cons (k := k) h r => .cons (by cases k; exact .int _; exact .str _) r.keys
/-- what stands at an address that no frozen value knows -/
def Cont (K : PySem.W.Frag) (F : Hp) (as : List Addr) (H : Hp) (a : Addr) : T → Prop
  | .lst ts => ∃ vs, H a = some (.lst vs) ∧ vs.length ≤ sizeLine ∧ Reps K F as vs ts
  | .dic kts => ∃ kvs, H a = some (.dK kvs) ∧ RepKs K F as kvs kts
  | _ => False
theorem Cont.there {F H : Hp} {as : List Addr} {a : Addr} {t : T} (h : Cont K F as H a t) : H a ≠ none := by
  cases t <;> simp only [Cont] at h
  · obtain ⟨vs, e, _⟩ := h; rw [e]; exact fun z => nomatch z
  · obtain ⟨vs, e, _⟩ := h; rw [e]; exact fun z => nomatch z
theorem Cont.mono {F F' H H' : Hp} {as as' : List Addr} {a : Addr} {t : T} (h : Cont K F as H a t) (s : Sub F F') (p : Pre as as') (e : ∀ o, H a = some o → H' a = some o) : Cont K F' as' H' a t := by
  cases t <;> simp only [Cont] at h ⊢
  · obtain ⟨vs, e1, l, r⟩ := h; exact ⟨vs, e _ e1, l, r.mono s p⟩
  · obtain ⟨vs, e1, r⟩ := h; exact ⟨vs, e _ e1, r.mono s p⟩
/-- a code object's table: what it tells are code objects of the name q, frozen -/
def TabC (F H : Hp) (a : Addr) (q : PySem.Str) : Prop := ∃ ps : Array Value, H a = some (.tbl ps) ∧ TriplesOk ps.toList ∧ ∀ (pos : Pos) (cv : Value), codeAmong pos ps.toList = some cv → ∃ c, cv = .ref c ∧ F c = some (LamX.CodeO c q)
/-- what stands at an address of the store -/
def ContS (K : PySem.W.Frag) (F : Hp) (as : List Addr) (H : Hp) (a : Addr) (t : T) : Prop := Cont K F as H a t ∨ ∃ q, t = .tab a q ∧ TabC F H a q
theorem ContS.there {F H : Hp} {as : List Addr} {a : Addr} {t : T} (h : ContS K F as H a t) : H a ≠ none := by
  rcases h with h | ⟨q, _, ps, e, _⟩
  · exact h.there
  · rw [e]; exact fun z => nomatch z
theorem ContS.mono {F F' H H' : Hp} {as as' : List Addr} {a : Addr} {t : T} (h : ContS K F as H a t) (s : Sub F F') (p : Pre as as') (e : ∀ o, H a = some o → H' a = some o) : ContS K F' as' H' a t := by
  rcases h with h | ⟨q, e1, ps, e2, e3, e4⟩
  · exact .inl (h.mono s p e)
  · refine .inr ⟨q, e1, ps, e _ e2, e3, fun pos cv hc => ?_⟩
    obtain ⟨c, z1, z2⟩ := e4 pos cv hc
    exact ⟨c, z1, s _ _ z2⟩
theorem ContS.cont {F H : Hp} {as : List Addr} {a : Addr} {t : T} (h : ContS K F as H a t) (n : ∀ b q, t ≠ .tab b q) : Cont K F as H a t := by
  rcases h with h | ⟨q, e, _⟩
  · exact h
  · exact absurd e (n _ q)
theorem ContS.lst {F H : Hp} {as : List Addr} {a : Addr} {ts : List T} (h : ContS K F as H a (.lst ts)) : Cont K F as H a (.lst ts) := by
  rcases h with h | ⟨q, e, _⟩
  · exact h
  · cases e
theorem ContS.dic {F H : Hp} {as : List Addr} {a : Addr} {ts : List (Q.Key × T)} (h : ContS K F as H a (.dic ts)) : Cont K F as H a (.dic ts) := by
  rcases h with h | ⟨q, e, _⟩
  · exact h
  · cases e
/-- the store -/
structure Sto (K : PySem.W.Frag) (F : Hp) (as : List Addr) (st : Store) (H : Hp) : Prop where
  len : as.length = st.length
  nd : as.Nodup
  at_ : ∀ (n : Nat) (a : Addr) (t : T), as[n]? = some a → st[n]? = some t → F a = none ∧ ContS K F as H a t
theorem Sto.cont {F H : Hp} {as : List Addr} {st : Store} (S : Sto K F as st H) {n : Nat} {a : Addr} (h : as[n]? = some a) : ∃ t, st[n]? = some t ∧ F a = none ∧ ContS K F as H a t := by
  have hl := (List.getElem?_eq_some_iff.mp h).1
  rw [S.len] at hl
  exact ⟨st[n], List.getElem?_eq_getElem hl, S.at_ n a _ h (List.getElem?_eq_getElem hl)⟩
theorem Sto.there {F H : Hp} {as : List Addr} {st : Store} (S : Sto K F as st H) {a : Addr} (h : a ∈ as) : H a ≠ none ∧ F a = none := by
  obtain ⟨n, hn, e⟩ := List.getElem_of_mem h
  have h' : as[n]? = some a := by rw [List.getElem?_eq_getElem hn, e]
  obtain ⟨t, _, f, c⟩ := S.cont h'
  exact ⟨c.there, f⟩
/-- later: more is frozen, more stands in the store, what stood stands -/
structure Nxt (F : Hp) (as : List Addr) (H : Hp) (F' : Hp) (as' : List Addr) (H' : Hp) : Prop where
  ff : Sub F F'
  pre : Pre as as'
  keep : ∀ a o, H a = some o → (∀ ps, o ≠ .tbl ps) → a ∉ as → H' a = some o
  alive : ∀ a, H a ≠ none → H' a ≠ none
  fnew : ∀ a, F' a ≠ none → F a = none → H a = none
  anew : ∀ a, a ∈ as' → a ∉ as → H a = none
theorem Nxt.refl (F : Hp) (as : List Addr) (H : Hp) : Nxt F as H F as H := ⟨Sub.refl F, Pre.refl as, fun _ _ h _ _ => h, fun _ h => h, fun _ h e => absurd e h, fun _ h n => absurd h n⟩
theorem Nxt.trans {F F1 F2 H H1 H2 : Hp} {as as1 as2 : List Addr} (x : Nxt F as H F1 as1 H1) (y : Nxt F1 as1 H1 F2 as2 H2) : Nxt F as H F2 as2 H2 where
  ff := x.ff.trans y.ff
  pre := x.pre.trans y.pre
  keep := fun a o h nt n => y.keep a o (x.keep a o h nt n) nt fun m => by rw [x.anew a m n] at h; cases h
  alive := fun a h => y.alive a (x.alive a h)
  fnew := fun a h e => by
    by_cases q : F1 a = none
    · have z := y.fnew a h q
      by_cases r : H a = none
      · exact r
      · exact absurd z (x.alive a r)
    · exact x.fnew a q e
  anew := fun a h n => by
    by_cases m : a ∈ as1
    · exact x.anew a m n
    · have z := y.anew a h m
      by_cases r : H a = none
      · exact r
      · exact absurd z (x.alive a r)
theorem Cont.nxt {F F' H H' : Hp} {as as' : List Addr} {a : Addr} {t : T} (h : Cont K F as H a t) (n : Nxt F as H F' as' H') (na : a ∉ as) : Cont K F' as' H' a t :=
  h.mono n.ff n.pre fun o e => n.keep a o e (fun ps z => by
    subst z
    cases t <;> simp only [Cont] at h
    · obtain ⟨vs, q, _⟩ := h; rw [e] at q; cases q
    · obtain ⟨vs, q, _⟩ := h; rw [e] at q; cases q) na
/-- the frame: slots by what stands in them -/
structure Sim (K : PySem.W.Frag) (F : Hp) (as : List Addr) (ρ : Env) (st : Store) (σ : L2.St) (H : Hp) : Prop where
  sub : Sub F H
  sto : Sto K F as st H
  len : ρ.length = σ.length
  val : ∀ (i : Nat) (t : T), ρ[i]? = some (.val t) → ∃ v, σ[i]? = some (some v) ∧ Rep K F as v t
  own : ∀ (i : Nat) (t : T), ρ[i]? = some (.own t) → ∃ a, σ[i]? = some (some (.ref a)) ∧ F a = none ∧ a ∉ as ∧ Cont K F as H a t
  inj : ∀ (i j : Nat) (t u : T) (a : Addr), ρ[i]? = some (.own t) → ρ[j]? = some (.own u) → σ[i]? = some (some (.ref a)) → σ[j]? = some (some (.ref a)) → i = j
theorem Sim.nxt {F F' H H' : Hp} {as as' : List Addr} {ρ : Env} {st st' : Store} {σ : L2.St} (S : Sim K F as ρ st σ H) (n : Nxt F as H F' as' H') (s : Sub F' H') (t : Sto K F' as' st' H') : Sim K F' as' ρ st' σ H' where
  sub := s
  sto := t
  len := S.len
  val := fun i u e => by
    obtain ⟨v, h1, h2⟩ := S.val i u e
    exact ⟨v, h1, h2.mono n.ff n.pre⟩
  own := fun i u e => by
    obtain ⟨a, h1, h2, h3, h4⟩ := S.own i u e
    refine ⟨a, h1, ?_, ?_, h4.nxt n h3⟩
    · by_cases q : F' a = none
      · exact q
      · exact absurd (n.fnew a q h2) h4.there
    · intro m
      exact h4.there (n.anew a m h3)
  inj := S.inj
end
end Q
end
/-! QOut -/
section
set_option linter.all false
set_option maxRecDepth 100000
namespace Q
open PySem L2
section
variable {K : PySem.W.Frag} {F F' H H' : Hp} {as as' : List Addr} {st : Store}
theorem upd_none_of {G : Hp} {a b : Addr} {o : HO} (h : G b = none) (n : b ≠ a) : upd G a o b = none := by rw [upd_ne n]; exact h
theorem sub_upd {G : Hp} {a : Addr} {o : HO} (h : G a = none) : Sub G (upd G a o) := fun b u e => by
  rw [upd_ne (ne_of_none e h)]; exact e
theorem sub_upd2 {a : Addr} {o : HO} (s : Sub F H) : Sub (upd F a o) (upd H a o) := fun b u e => by
  by_cases q : b = a
  · subst q; rw [upd_same] at e ⊢; exact e
  · rw [upd_ne q] at e ⊢; exact s b u e
theorem sub_updR {a : Addr} {o : HO} (s : Sub F H) (h : F a = none) : Sub F (upd H a o) := fun b u e => by
  rw [upd_ne (ne_of_none e h)]; exact s b u e
theorem sub_none (s : Sub F H) {a : Addr} (h : H a = none) : F a = none := by
  cases e : F a with
  | none => rfl
  | some o => rw [s a o e] at h; cases h
/-- a new object, frozen at once -/
theorem nxt_new {p : Addr} {o : HO} (s : Sub F H) (hp : H p = none) : Nxt F as H (upd F p o) as (upd H p o) where
  ff := sub_upd (sub_none s hp)
  pre := Pre.refl as
  keep := fun a u e _ _ => sub_upd hp a u e
  alive := fun a h => by
    by_cases q : a = p
    · subst q; rw [upd_same]; exact fun z => nomatch z
    · rw [upd_ne q]; exact h
  fnew := fun a h e => by
    by_cases q : a = p
    · subst q; exact hp
    · rw [upd_ne q] at h; exact absurd e h
  anew := fun a h n => absurd h n
theorem nxt_own {p : Addr} {o : HO} (hp : H p = none) : Nxt F as H F as (upd H p o) where
  ff := Sub.refl F
  pre := Pre.refl as
  keep := fun a u e _ _ => sub_upd hp a u e
  alive := fun a h => by
    by_cases q : a = p
    · subst q; rw [upd_same]; exact fun z => nomatch z
    · rw [upd_ne q]; exact h
  fnew := fun a h e => absurd e h
  anew := fun a h n => absurd h n
theorem Sto.nxt (S : Sto K F as st H) (n : Nxt F as H F' as H') (k : ∀ a ∈ as, ∀ o, H a = some o → H' a = some o) : Sto K F' as st H' where
  len := S.len
  nd := S.nd
  at_ := fun i a t h e => by
    obtain ⟨h1, h2⟩ := S.at_ i a t h e
    refine ⟨?_, h2.mono n.ff (Pre.refl as) (k a (List.mem_of_getElem? h))⟩
    by_cases q : F' a = none
    · exact q
    · exact absurd (n.fnew a q h1) h2.there
theorem Sto.new {p : Addr} {o : HO} (S : Sto K F as st H) (s : Sub F H) (hp : H p = none) : Sto K (upd F p o) as st (upd H p o) :=
  S.nxt (nxt_new s hp) fun a _ u e => sub_upd hp a u e
theorem Sto.newOwn {p : Addr} {o : HO} (S : Sto K F as st H) (hp : H p = none) : Sto K F as st (upd H p o) :=
  S.nxt (nxt_own hp) fun a _ u e => sub_upd hp a u e
/-- a value, or an object that is held alone -/
def RepB (K : PySem.W.Frag) (F : Hp) (as : List Addr) (H : Hp) (v : V) (t : T) : Prop := Rep K F as v t ∨ ∃ a, v = .ref a ∧ F a = none ∧ a ∉ as ∧ Cont K F as H a t
theorem RepB.nxt {v : V} {t : T} (r : RepB K F as H v t) (n : Nxt F as H F' as' H') : RepB K F' as' H' v t := by
  rcases r with r | ⟨a, rfl, h1, h2, h3⟩
  · exact .inl (r.mono n.ff n.pre)
  · refine .inr ⟨a, rfl, ?_, fun m => h3.there (n.anew a m h2), h3.nxt n h2⟩
    by_cases q : F' a = none
    · exact q
    · exact absurd (n.fnew a q h1) h3.there
def RepBs (K : PySem.W.Frag) (F : Hp) (as : List Addr) (H : Hp) : List V → List T → Prop
  | [], [] => True
  | v :: vs, t :: ts => RepB K F as H v t ∧ RepBs K F as H vs ts
  | _, _ => False
theorem RepBs.nxt (n : Nxt F as H F' as' H') : ∀ {vs : List V} {ts : List T}, RepBs K F as H vs ts → RepBs K F' as' H' vs ts
  | [], [], _ => True.intro
  | _ :: _, _ :: _, ⟨h, r⟩ => ⟨h.nxt n, RepBs.nxt n r⟩
  | [], _ :: _, h => h.elim
  | _ :: _, [], h => h.elim
/-! ### what is wanted of an outcome -/
def Post (K : PySem.W.Frag) (F : Hp) (as : List Addr) (H : Hp) (t : T) (st : Store) (Q : VK) : Prop :=
  ∀ F' as' H' v, Nxt F as H F' as' H' → Sub F' H' → Sto K F' as' st H' → Rep K F' as' v t → Q v H'
def PostB (K : PySem.W.Frag) (F : Hp) (as : List Addr) (H : Hp) (t : T) (st : Store) (Q : VK) : Prop :=
  ∀ F' as' H' v, Nxt F as H F' as' H' → Sub F' H' → Sto K F' as' st H' → RepB K F' as' H' v t → Q v H'
def PostO (K : PySem.W.Frag) (F : Hp) (as : List Addr) (H : Hp) (t : T) (st : Store) (Q : VK) : Prop :=
  ∀ F' as' H' a, Nxt F as H F' as' H' → Sub F' H' → Sto K F' as' st H' → F' a = none → a ∉ as' → H a = none → Cont K F' as' H' a t → Q (.ref a) H'
/-- fr: a list or a dict comes as a new one -/
def PostF (fr : Bool) (K : PySem.W.Frag) (F : Hp) (as : List Addr) (H : Hp) (t : T) (st : Store) (Q : VK) : Prop :=
  if (fr && isMut t) = true then PostO K F as H t st Q else Post K F as H t st Q
/-- an object held alone is frozen -/
theorem freeze {a : Addr} {t : T} (s : Sub F' H') (S : Sto K F' as' st H') (n : Nxt F as H F' as' H') (h1 : F' a = none) (h2 : a ∉ as') (h3 : H a = none) (c : Cont K F' as' H' a t) :
    ∃ o, H' a = some o ∧ Nxt F as H (upd F' a o) as' H' ∧ Sub (upd F' a o) H' ∧ Sto K (upd F' a o) as' st H' ∧ Rep K (upd F' a o) as' (.ref a) t := by
  have main : ∀ o, H' a = some o → Nxt F as H (upd F' a o) as' H' ∧ Sub (upd F' a o) H' ∧ Sto K (upd F' a o) as' st H' := fun o e => by
    refine ⟨⟨n.ff.trans (sub_upd h1), n.pre, n.keep, n.alive, fun b h e' => ?_, n.anew⟩, fun b u e' => ?_, ⟨S.len, S.nd, fun i b u hb hu => ?_⟩⟩
    · by_cases q : b = a
      · subst q; exact h3
      · rw [upd_ne q] at h; exact n.fnew b h e'
    · by_cases q : b = a
      · subst q; rw [upd_same] at e'; rw [e]; exact e'
      · rw [upd_ne q] at e'; exact s b u e'
    · obtain ⟨f, c'⟩ := S.at_ i b u hb hu
      have q : b ≠ a := fun z => h2 (z ▸ List.mem_of_getElem? hb)
      exact ⟨by rw [upd_ne q]; exact f, c'.mono (sub_upd h1) (Pre.refl _) fun _ z => z⟩
  cases t <;> simp only [Cont] at c
  · obtain ⟨vs, e, l, r⟩ := c
    obtain ⟨m1, m2, m3⟩ := main _ e
    exact ⟨_, e, m1, m2, m3, .lst upd_same l (r.mono (sub_upd h1) (Pre.refl _))⟩
  · obtain ⟨vs, e, r⟩ := c
    obtain ⟨m1, m2, m3⟩ := main _ e
    exact ⟨_, e, m1, m2, m3, .dic upd_same (r.mono (sub_upd h1) (Pre.refl _))⟩
theorem Post.own {t : T} {Q : VK} (p : Post K F as H t st Q) : PostO K F as H t st Q := fun F' as' H' a n s S h1 h2 h3 c => by
  obtain ⟨o, _, n', s', S', r⟩ := freeze s S n h1 h2 h3 c
  exact p _ _ _ _ n' s' S' r
theorem Post.fr {t : T} {Q : VK} (p : Post K F as H t st Q) (fr : Bool) : PostF fr K F as H t st Q := by
  unfold PostF
  split
  · exact p.own
  · exact p
theorem PostB.post {t : T} {Q : VK} (p : PostB K F as H t st Q) : Post K F as H t st Q := fun F' as' H' v n s S r => p F' as' H' v n s S (.inl r)
theorem Post.nxt {t : T} {Q : VK} (p : Post K F as H t st Q) (n : Nxt F as H F' as' H') : Post K F' as' H' t st Q := fun _ _ _ _ m => p _ _ _ _ (n.trans m)
theorem PostB.nxt {t : T} {Q : VK} (p : PostB K F as H t st Q) (n : Nxt F as H F' as' H') : PostB K F' as' H' t st Q := fun _ _ _ _ m => p _ _ _ _ (n.trans m)
theorem PostO.nxt {t : T} {Q : VK} (p : PostO K F as H t st Q) (n : Nxt F as H F' as' H') : PostO K F' as' H' t st Q := fun _ _ _ a m s S h1 h2 h3 => p _ _ _ _ (n.trans m) s S h1 h2 (by
  by_cases q : H a = none
  · exact q
  · exact absurd h3 (n.alive a q))
theorem PostF.nxt {fr : Bool} {t : T} {Q : VK} (p : PostF fr K F as H t st Q) (n : Nxt F as H F' as' H') : PostF fr K F' as' H' t st Q := by
  unfold PostF at p ⊢
  split
  · rename_i h; rw [if_pos h] at p; exact p.nxt n
  · rename_i h; rw [if_neg h] at p; exact p.nxt n
/-- an exception: its class, its own dict -/
def XRep (K : PySem.W.Frag) (cA : Str → Addr) (fl : Str → List Str) (F : Hp) (as : List Addr) (H : Hp) (cls : Value) (d : Option Addr) (x : Exn) : Prop :=
  cls = .ref (cA x.cls) ∧ ((fl x.cls = [] ∧ x.args = [] ∧ d = none) ∨ ∃ dd vs, d = some dd ∧ H dd = some (.xd ((fl x.cls).zip vs)) ∧ (fl x.cls).length = vs.length ∧ Reps K F as vs x.args)
end
/-- what the proofs know of a program: class addresses and fields of the exceptions -/
structure XI where
  cA : Str → Addr
  fl : Str → List Str
section
variable {K : PySem.W.Frag} {xi : XI} {F F' H H' : Hp} {as as' : List Addr} {σ : L2.St} {W : WX} {α : Type}
def Out (K : PySem.W.Frag) (xi : XI) (F : Hp) (as : List Addr) (H : Hp) (σ : L2.St) (W : WX) {α : Type} (o : O α) (P : α → Store → Prop) : Prop := match o with
  | .ok t st => P t st
  | .ex x st => ∀ F' as' H' cls d, Nxt F as H F' as' H' → Sub F' H' → Sto K F' as' st H' → XRep K xi.cA xi.fl F' as' H' cls d x → W cls d σ H'
  | .bad => False
theorem Out.bind {β : Type} {o : O α} {f : α → Store → O β} {P : β → Store → Prop} {P' : α → Store → Prop} (h : Out K xi F as H σ W (o.bind f) P) (k : ∀ t st, o = .ok t st → Out K xi F as H σ W (f t st) P → P' t st) : Out K xi F as H σ W o P' := by
  cases o with
  | ok t st => exact k t st rfl h
  | ex x st => exact h
  | bad => exact h
theorem Out.imp {o : O α} {P P' : α → Store → Prop} (h : Out K xi F as H σ W o P) (k : ∀ t st, o = .ok t st → P t st → P' t st) : Out K xi F as H σ W o P' := by
  cases o with
  | ok t st => exact k t st rfl h
  | ex x st => exact h
  | bad => exact h
theorem Out.nxt {o : O α} {P P' : α → Store → Prop} (h : Out K xi F as H σ W o P) (n : Nxt F as H F' as' H') (k : ∀ t st, o = .ok t st → P t st → P' t st) : Out K xi F' as' H' σ W o P' := by
  cases o with
  | ok t st => exact k t st rfl h
  | ex x st => exact fun _ _ _ _ _ m => h _ _ _ _ _ (n.trans m)
  | bad => exact h
theorem Out.sub {o : O α} {f : α → Store → R} : True := trivial
end
end Q
end
/-! QOps -/
section
set_option linter.all false
set_option maxRecDepth 100000
namespace Q
open PySem L2
section
variable {K : PySem.W.Frag} {F F' H H' : Hp} {as as' : List Addr} {st : Store} {v x y : V} {t : T} {Q : VK} {fr : Bool}
theorem RepBs.one {ts : List T} (h : RepBs K F as H [x] ts) : ∃ a, ts = [a] ∧ RepB K F as H x a := by
  cases ts with
  | nil => exact h.elim
  | cons a r => cases r with
    | nil => exact ⟨a, rfl, h.1⟩
    | cons b r => exact h.2.elim
theorem RepBs.two {ts : List T} (h : RepBs K F as H [x, y] ts) : ∃ a b, ts = [a, b] ∧ RepB K F as H x a ∧ RepB K F as H y b := by
  cases ts with
  | nil => exact h.elim
  | cons a r =>
    obtain ⟨b, rfl, h2⟩ := h.2.one
    exact ⟨a, b, rfl, h.1, h2⟩
theorem RepBs.three {z : V} {ts : List T} (h : RepBs K F as H [x, y, z] ts) : ∃ a b c, ts = [a, b, c] ∧ RepB K F as H x a ∧ RepB K F as H y b ∧ RepB K F as H z c := by
  cases ts with
  | nil => exact h.elim
  | cons a r =>
    obtain ⟨b, c, rfl, h2, h3⟩ := h.2.two
    exact ⟨a, b, c, rfl, h.1, h2, h3⟩
theorem RepB.int {i : Int} (h : RepB K F as H v (.int i)) : v = .int i := by
  rcases h with h | ⟨a, _, _, _, c⟩
  · cases h; rfl
  · exact c.elim
theorem RepB.bl {i : Bool} (h : RepB K F as H v (.bl i)) : v = .bl i := by
  rcases h with h | ⟨a, _, _, _, c⟩
  · cases h; rfl
  · exact c.elim
theorem RepB.str {i : PySem.Str} (h : RepB K F as H v (.str i)) : v = .str i := by
  rcases h with h | ⟨a, _, _, _, c⟩
  · cases h; rfl
  · exact c.elim
theorem RepB.non (h : RepB K F as H v .non) : v = .non := by
  rcases h with h | ⟨a, _, _, _, c⟩
  · cases h; rfl
  · exact c.elim
theorem RepB.tup {ts : List T} (h : RepB K F as H v (.tup ts)) (s : Sub F H) : ∃ a vs, v = .ref a ∧ SqT K H a vs ∧ vs.length ≤ sizeLine ∧ Reps K F as vs ts ∧ Rep K F as v (.tup ts) := by
  rcases h with h | ⟨a, _, _, _, c⟩
  · cases h with
    | tup h l r => exact ⟨_, _, rfl, s.sqT h, l, r, .tup h l r⟩
  · exact c.elim
theorem RepB.lst {ts : List T} (h : RepB K F as H v (.lst ts)) (s : Sub F H) : ∃ a vs, v = .ref a ∧ H a = some (.lst vs) ∧ vs.length ≤ sizeLine ∧ Reps K F as vs ts := by
  rcases h with h | ⟨a, e, _, _, c⟩
  · cases h with
    | lst h l r => exact ⟨_, _, rfl, s _ _ h, l, r⟩
  · obtain ⟨vs, h1, h2, h3⟩ := c
    exact ⟨a, vs, e, h1, h2, h3⟩
theorem RepB.dic {ts : List (Key × T)} (h : RepB K F as H v (.dic ts)) (s : Sub F H) : ∃ a vs, v = .ref a ∧ H a = some (.dK vs) ∧ RepKs K F as vs ts := by
  rcases h with h | ⟨a, e, _, _, c⟩
  · cases h with
    | dic h r => exact ⟨_, _, rfl, s _ _ h, r⟩
  · obtain ⟨vs, h1, h3⟩ := c
    exact ⟨a, vs, e, h1, h3⟩
/-! views -/
theorem viewL (S : Sto K F as st H) (s : Sub F H) {ts : List T} (r : RepB K F as H v t) (e : lstOf st t = some ts) : ∃ a vs, v = .ref a ∧ SqL K H a vs ∧ vs.length ≤ sizeLine ∧ Reps K F as vs ts := by
  cases t <;> simp only [lstOf] at e <;> try cases e
  case lst =>
    obtain ⟨a, vs, h1, h2, h3, h4⟩ := r.lst s
    exact ⟨a, vs, h1, SqL.of h2, h3, h4⟩
  case scr =>
    rcases r with r | ⟨a, _, _, _, c⟩
    · cases r with
      | scr h l r => exact ⟨_, _, rfl, s.sqL h, l, r⟩
    · exact c.elim
  case ref n =>
    rcases r with r | ⟨a, _, _, _, c⟩
    · cases r with
      | ref h =>
        obtain ⟨u, h1, h2, h3⟩ := S.cont h
        rw [h1] at e
        cases u <;> simp only [Option.some.injEq] at e <;> try cases e
        obtain ⟨vs, g1, g2, g3⟩ := h3.lst
        exact ⟨_, vs, rfl, SqL.of g1, g2, g3⟩
    · exact c.elim
theorem viewD (S : Sto K F as st H) (s : Sub F H) {ts : List (Key × T)} (r : RepB K F as H v t) (e : dicOf st t = some ts) : ∃ a vs, v = .ref a ∧ H a = some (.dK vs) ∧ RepKs K F as vs ts := by
  cases t <;> simp only [dicOf] at e <;> try cases e
  case dic => exact r.dic s
  case ref n =>
    rcases r with r | ⟨a, _, _, _, c⟩
    · cases r with
      | ref h =>
        obtain ⟨u, h1, h2, h3⟩ := S.cont h
        rw [h1] at e
        cases u <;> simp only [Option.some.injEq] at e <;> try cases e
        obtain ⟨vs, g1, g3⟩ := h3.dic
        exact ⟨_, vs, rfl, g1, g3⟩
    · exact c.elim
theorem viewS (S : Sto K F as st H) (s : Sub F H) {ts : List T} (r : RepB K F as H v t) (e : seqOf st t = some ts) : ∃ a vs, v = .ref a ∧ (SqL K H a vs ∨ SqT K H a vs) ∧ vs.length ≤ sizeLine ∧ Reps K F as vs ts := by
  cases t with
  | tup xs =>
    cases e
    obtain ⟨a, vs, h1, h2, h3, h4, _⟩ := r.tup s
    exact ⟨a, vs, h1, .inr h2, h3, h4⟩
  | _ =>
    obtain ⟨a, vs, h1, h2, h3, h4⟩ := viewL S s r e
    exact ⟨a, vs, h1, .inl h2, h3, h4⟩
/-! what is wanted, at the kinds of results -/
theorem PostF.same (p : PostF fr K F as H t st Q) (s : Sub F H) (S : Sto K F as st H) (r : Rep K F as v t) (h : isMut t = false) : Q v H := by
  unfold PostF at p
  rw [h, Bool.and_false] at p
  exact p _ _ _ _ (Nxt.refl F as H) s S r
theorem PostF.tup {ts : List T} {vs : List V} (p : PostF fr K F as H (.tup ts) st Q) (s : Sub F H) (S : Sto K F as st H) (r : Reps K F as vs ts) (hl : vs.length ≤ sizeLine) : ∀ b, H b = none → Q (.ref b) (upd H b (.tup vs)) := fun b hb => by
  unfold PostF at p
  rw [show isMut (.tup ts) = false from rfl, Bool.and_false] at p
  have n := nxt_new (as := as) (o := .tup vs) s hb
  exact p _ _ _ _ n (sub_upd2 s) (S.new s hb) (.tup (SqT.of upd_same) hl (r.mono n.ff n.pre))
theorem PostF.lst {ts : List T} {vs : List V} (p : PostF true K F as H (.lst ts) st Q) (s : Sub F H) (S : Sto K F as st H) (r : Reps K F as vs ts) (hl : vs.length ≤ sizeLine) : ∀ b, H b = none → Q (.ref b) (upd H b (.lst vs)) := fun b hb => by
  unfold PostF at p
  rw [if_pos (show (true && isMut (.lst ts)) = true from rfl)] at p
  have n := nxt_own (as := as) (F := F) (o := .lst vs) hb
  have f := sub_none s hb
  exact p _ _ _ _ n (sub_updR s f) (S.newOwn hb) f (fun m => (S.there m).1 hb) hb ⟨vs, upd_same, hl, r⟩
theorem PostF.dic (p : PostF true K F as H (.dic []) st Q) (s : Sub F H) (S : Sto K F as st H) : ∀ b, H b = none → Q (.ref b) (upd H b (.dK [])) := fun b hb => by
  unfold PostF at p
  rw [if_pos (show (true && isMut (.dic [])) = true from rfl)] at p
  have n := nxt_own (as := as) (F := F) (o := .dK []) hb
  have f := sub_none s hb
  exact p _ _ _ _ n (sub_updR s f) (S.newOwn hb) f (fun m => (S.there m).1 hb) hb ⟨[], upd_same, .nil⟩
end
/-- an operation's reading by values -/
def ROp (K : PySem.W.Frag) (o : Op) (vs : List V) (H : Hp) (Q : VK) : Prop :=
  ∃ F as st ts t, Sub F H ∧ Sto K F as st H ∧ RepBs K F as H vs ts ∧ opEval st o ts = some t ∧ PostF (freshOp o) K F as H t st Q
section
variable {X : Cx}
theorem op_add_s : OpR X (binaryOp .Add) (fun x y H Q => ROp X.K .add [x, y] H Q) := by
  intro pins s σ H x y v u Q I rx ry h
  obtain ⟨F, as, st, ts, t, hs, S, hr, e, p⟩ := h
  obtain ⟨a, b, rfl, ha, hb⟩ := hr.two
  cases a <;> cases b <;> simp only [opEval] at e <;> try cases e
  case int.int i j =>
    have e1 := ha.int
    have e2 := hb.int
    subst e1 e2
    exact op_add pins s σ H _ _ v u Q I rx ry ⟨i, j, rfl, rfl, p.same hs S (.int _) rfl⟩
  case tup.tup xs ys =>
    split at e
    · rename_i hz
      cases e
      obtain ⟨a, vs, rfl, h1, h2, h3, h3'⟩ := ha.tup hs
      obtain ⟨b, ws, rfl, g1, g2, g3, g3'⟩ := hb.tup hs
      have l1 := h3.length
      have l2 := g3.length
      refine op_catA pins s σ H _ _ v u Q I rx ry ⟨a, b, vs, ws, rfl, rfl, h1, g1, by omega, fun z => ?_, fun _ z => ?_, fun _ _ => p.tup hs S (h3.append g3) (by rw [List.length_append]; omega)⟩
      · subst z
        have z2 : xs = [] := List.eq_nil_of_length_eq_zero (by rw [← l1]; rfl)
        subst z2
        exact p.same hs S g3' rfl
      · subst z
        have z2 : ys = [] := List.eq_nil_of_length_eq_zero (by rw [← l2]; rfl)
        subst z2
        rw [List.append_nil] at p
        exact p.same hs S h3' rfl
    · cases e
  case lst.lst xs ys =>
    split at e
    · rename_i hz
      cases e
      obtain ⟨a, vs, rfl, h1, h2, h3⟩ := ha.lst hs
      obtain ⟨b, ws, rfl, g1, g2, g3⟩ := hb.lst hs
      have l1 := h3.length
      have l2 := g3.length
      exact op_cat pins s σ H _ _ v u Q I rx ry ⟨a, b, vs, ws, rfl, rfl, h1, g1, by omega, p.lst hs S (h3.append g3) (by rw [List.length_append]; omega)⟩
    · cases e
theorem op_sub_s : OpR X (binaryOp .Sub) (fun x y H Q => ROp X.K .sub [x, y] H Q) := by
  intro pins s σ H x y v u Q I rx ry h
  obtain ⟨F, as, st, ts, t, hs, S, hr, e, p⟩ := h
  obtain ⟨a, b, rfl, ha, hb⟩ := hr.two
  cases a <;> cases b <;> simp only [opEval] at e <;> try cases e
  case int.int i j =>
    have e1 := ha.int
    have e2 := hb.int
    subst e1 e2
    exact op_sub pins s σ H _ _ v u Q I rx ry ⟨i, j, rfl, rfl, p.same hs S (.int _) rfl⟩
theorem op_fdiv_s : OpR X (binaryOp .FloorDiv) (fun x y H Q => ROp X.K .fdiv [x, y] H Q) := by
  intro pins s σ H x y v u Q I rx ry h
  obtain ⟨F, as, st, ts, t, hs, S, hr, e, p⟩ := h
  obtain ⟨a, b, rfl, ha, hb⟩ := hr.two
  cases a <;> cases b <;> simp only [opEval] at e <;> try cases e
  case int.int i j =>
    have e1 := ha.int
    have e2 := hb.int
    subst e1 e2
    split at e
    · rename_i hc
      cases e
      exact op_fdiv pins s σ H _ _ v u Q I rx ry ⟨i, j, rfl, rfl, hc, p.same hs S (.int _) rfl⟩
    · cases e
theorem op_mod_s : OpR X (binaryOp .Mod) (fun x y H Q => ROp X.K .mod [x, y] H Q) := by
  intro pins s σ H x y v u Q I rx ry h
  obtain ⟨F, as, st, ts, t, hs, S, hr, e, p⟩ := h
  obtain ⟨a, b, rfl, ha, hb⟩ := hr.two
  cases a <;> cases b <;> simp only [opEval] at e <;> try cases e
  case int.int i j =>
    have e1 := ha.int
    have e2 := hb.int
    subst e1 e2
    split at e
    · rename_i hc
      cases e
      exact op_mod pins s σ H _ _ v u Q I rx ry ⟨i, j, rfl, rfl, hc, p.same hs S (.int _) rfl⟩
    · cases e
theorem op_pow_s : OpR X (binaryOp .Pow) (fun x y H Q => ROp X.K .pow [x, y] H Q) := by
  intro pins s σ H x y v u Q I rx ry h
  obtain ⟨F, as, st, ts, t, hs, S, hr, e, p⟩ := h
  obtain ⟨a, b, rfl, ha, hb⟩ := hr.two
  cases a <;> cases b <;> simp only [opEval] at e <;> try cases e
  case int.int i j =>
    have e1 := ha.int
    have e2 := hb.int
    subst e1 e2
    split at e
    · rename_i hc
      cases e
      exact op_pow pins s σ H _ _ v u Q I rx ry ⟨i, j, rfl, rfl, hc, p.same hs S (.int _) rfl⟩
    · cases e
theorem un_neg_s : UnR X (unaryOp .USub) (fun x H Q => ROp X.K .neg [x] H Q) := by
  intro pins s σ H x v Q I rx h
  obtain ⟨F, as, st, ts, t, hs, S, hr, e, p⟩ := h
  obtain ⟨a, rfl, ha⟩ := hr.one
  cases a <;> simp only [opEval] at e <;> try cases e
  case int i =>
    have e1 := ha.int
    subst e1
    exact un_neg pins s σ H _ v Q I rx ⟨i, rfl, p.same hs S (.int _) rfl⟩
theorem cmpI_some {f : Int → Int → Bool} {a b t : T} (e : cmpI f a b = some t) : ∃ i j, a = .int i ∧ b = .int j ∧ t = .bl (f i j) := by
  unfold cmpI at e
  split at e
  · cases e; exact ⟨_, _, rfl, rfl, rfl⟩
  · cases e
theorem op_cmp_s {op : CmpOp} {o : Op} {f : Int → Int → Bool} (ho : ∀ st a b, opEval st o [a, b] = cmpI f a b) (rule : OpR X (compareOp op) (rI0 fun i j => .bl (f i j))) : OpR X (compareOp op) (fun x y H Q => ROp X.K o [x, y] H Q) := by
  intro pins s σ H x y v u Q I rx ry h
  obtain ⟨F, as, st, ts, t, hs, S, hr, e, p⟩ := h
  obtain ⟨a, b, rfl, ha, hb⟩ := hr.two
  rw [ho] at e
  obtain ⟨i, j, rfl, rfl, rfl⟩ := cmpI_some e
  have e1 := ha.int
  have e2 := hb.int
  subst e1 e2
  exact rule pins s σ H _ _ v u Q I rx ry ⟨i, j, rfl, rfl, p.same hs S (.bl _) rfl⟩
theorem op_lt_s : OpR X (compareOp .Lt) (fun x y H Q => ROp X.K .lt [x, y] H Q) := op_cmp_s (fun _ _ _ => rfl) op_lt
theorem op_le_s : OpR X (compareOp .LtE) (fun x y H Q => ROp X.K .le [x, y] H Q) := op_cmp_s (fun _ _ _ => rfl) op_le
theorem op_gt_s : OpR X (compareOp .Gt) (fun x y H Q => ROp X.K .gt [x, y] H Q) := op_cmp_s (fun _ _ _ => rfl) op_gt
theorem op_ge_s : OpR X (compareOp .GtE) (fun x y H Q => ROp X.K .ge [x, y] H Q) := op_cmp_s (fun _ _ _ => rfl) op_ge
end
end Q
end
/-! QOps2 -/
section
set_option linter.all false
set_option maxRecDepth 100000
namespace Q
open PySem L2
section
variable {K : PySem.W.Frag} {F F' H H' : Hp} {as as' : List Addr} {st : Store} {v x y : V} {t : T} {Q : VK} {fr : Bool}
mutual
theorem Rep.dp (s : Sub F H) : ∀ {n : Nat} {v : V} {t : T} {d : PyData}, Rep K F as v t → toD n t = some d → Dp K H v d ∧ d.canLay0 = true ∧ d.depth ≤ n
  | 0, _, _, _, _, e => by simp [toD] at e
  | n + 1, _, _, _, .non, e => by
    simp only [toD, Option.some.injEq] at e; subst e
    exact ⟨.non, by simp [PyData.canLay0], by simp [PyData.depth]⟩
  | n + 1, _, _, _, .bl b, e => by
    simp only [toD, Option.some.injEq] at e; subst e
    exact ⟨.bl b, by simp [PyData.canLay0], by simp [PyData.depth]⟩
  | n + 1, _, _, _, .int i, e => by
    simp only [toD, Option.some.injEq] at e; subst e
    exact ⟨.int i, by simp [PyData.canLay0], by simp [PyData.depth]⟩
  | n + 1, _, _, _, .str x, e => by
    simp only [toD] at e
    split at e
    · rename_i h
      cases e
      exact ⟨.str x, by simpa [PyData.canLay0] using h, by simp [PyData.depth]⟩
    · cases e
  | n + 1, _, _, _, .tup h l r, e => by
    simp only [toD] at e
    obtain ⟨ds, e1, e2⟩ := Option.map_eq_some_iff.mp e
    subst e2
    obtain ⟨h1, h2, h3⟩ := Reps.dp s r e1
    exact ⟨.tup (s.sqT h) h1, by simpa [PyData.canLay0] using h2, by simp only [PyData.depth]; omega⟩
  | n + 1, _, _, _, .lst h l r, e => by
    simp only [toD] at e
    obtain ⟨ds, e1, e2⟩ := Option.map_eq_some_iff.mp e
    subst e2
    obtain ⟨h1, h2, h3⟩ := Reps.dp s r e1
    exact ⟨.lst (SqL.of (s _ _ h)) h1, by simpa [PyData.canLay0] using h2, by simp only [PyData.depth]; omega⟩
  | n + 1, _, _, _, .scr h l r, e => by simp [toD] at e
  | n + 1, _, _, _, .dic h r, e => by simp [toD] at e
  | n + 1, _, _, _, .ref h, e => by simp [toD] at e
theorem Reps.dp (s : Sub F H) : ∀ {n : Nat} {vs : List V} {ts : List T} {ds : List PyData}, Reps K F as vs ts → toDs n ts = some ds → DpAll K H vs ds ∧ PyData.canLayAll0 ds = true ∧ PyData.depthAll ds ≤ n
  | n, _, _, _, .nil, e => by
    simp only [toDs, Option.some.injEq] at e; subst e
    exact ⟨.nil, by simp [PyData.canLayAll0], by simp [PyData.depthAll]⟩
  | n, _, _, _, .cons (t := t) (ts := ts) h r, e => by
    simp only [toDs] at e
    cases e1 : toD n t with
    | none => rw [e1] at e; cases e
    | some d =>
      cases e2 : toDs n ts with
      | none => rw [e1, e2] at e; cases e
      | some ds =>
        rw [e1, e2] at e
        cases e
        obtain ⟨a1, a2, a3⟩ := Rep.dp s h e1
        obtain ⟨b1, b2, b3⟩ := Reps.dp s r e2
        exact ⟨.cons a1 b1, by simp only [PyData.canLayAll0, a2, b2, Bool.and_self], by simp only [PyData.depthAll]; omega⟩
end
theorem RepB.dp (S : Sto K F as st H) (s : Sub F H) {d : PyData} (r : RepB K F as H v t) (e : datOf st t = some d) : Dp K H v d ∧ SeqAt.shaped d = true := by
  have fin : ∀ {d : PyData}, d.canLay0 = true → d.depth ≤ 60 → SeqAt.shaped d = true := fun {d} h1 h2 => by
    unfold SeqAt.shaped
    rw [h1, decide_eq_true (by omega)]; rfl
  have own : ∀ {a : Addr} {ts : List T}, Cont K F as H a (.lst ts) → toD 60 (.lst ts) = some d → Dp K H (.ref a) d ∧ SeqAt.shaped d = true := fun {a ts} c e => by
    obtain ⟨vs, h1, h2, h3⟩ := c
    simp only [toD] at e
    obtain ⟨ds, e1, e2⟩ := Option.map_eq_some_iff.mp e
    subst e2
    obtain ⟨g1, g2, g3⟩ := Reps.dp s h3 e1
    exact ⟨.lst (SqL.of h1) g1, fin (by simpa [PyData.canLay0] using g2) (by simp only [PyData.depth]; omega)⟩
  rcases r with r | ⟨a, rfl, h1, h2, c⟩
  · cases t with
    | ref n =>
      simp only [datOf] at e
      cases r with
      | ref h =>
        obtain ⟨u, q1, q2, q3⟩ := S.cont h
        rw [q1] at e
        cases u <;> simp only at e <;> try cases e
        exact own q3.lst e
    | _ =>
      obtain ⟨h1, h2, h3⟩ := Rep.dp (n := 60) s r e
      exact ⟨h1, fin h2 h3⟩
  · cases t <;> simp only [Cont] at c
    · exact own c e
    · simp [datOf, toD] at e
theorem RepB.isNon (r : RepB K F as H v t) : decide (v = V.non) = isNonT t := by
  rcases r with r | ⟨a, rfl, _, _, c⟩
  · cases r <;> simp [isNonT]
  · cases t <;> simp only [Cont] at c <;> simp [isNonT]
end
section
variable {X : Cx}
theorem op_eq_s (hu : X.A.units + 64 < cLine) : OpR X (compareOp .Eq) (fun x y H Q => ROp X.K .eq [x, y] H Q) := by
  intro pins s σ H x y v u Q I rx ry h
  obtain ⟨F, as, st, ts, t, hs, S, hr, e, p⟩ := h
  obtain ⟨a, b, rfl, ha, hb⟩ := hr.two
  simp only [opEval, eqT] at e
  cases e1 : datOf st a with
  | none => rw [e1] at e; cases e
  | some d =>
    cases e2 : datOf st b with
    | none => rw [e1, e2] at e; cases e
    | some d' =>
      rw [e1, e2] at e
      cases e
      obtain ⟨g1, g2⟩ := ha.dp S hs e1
      obtain ⟨k1, k2⟩ := hb.dp S hs e2
      exact op_eqD hu pins s σ H _ _ v u Q I rx ry ⟨d, d', g1, k1, g2, k2, p.same hs S (.bl _) rfl⟩
theorem op_ne_s (hu : X.A.units + 64 < cLine) : OpR X (compareOp .NotEq) (fun x y H Q => ROp X.K .ne [x, y] H Q) := by
  intro pins s σ H x y v u Q I rx ry h
  obtain ⟨F, as, st, ts, t, hs, S, hr, e, p⟩ := h
  obtain ⟨a, b, rfl, ha, hb⟩ := hr.two
  simp only [opEval, eqT] at e
  cases e1 : datOf st a with
  | none => rw [e1] at e; cases e
  | some d =>
    cases e2 : datOf st b with
    | none => rw [e1, e2] at e; cases e
    | some d' =>
      rw [e1, e2] at e
      cases e
      obtain ⟨g1, g2⟩ := ha.dp S hs e1
      obtain ⟨k1, k2⟩ := hb.dp S hs e2
      exact op_neD hu pins s σ H _ _ v u Q I rx ry ⟨d, d', g1, k1, g2, k2, p.same hs S (.bl _) rfl⟩
/-- x is None: the right side is written -/
theorem op_isN_s : OpR X (compareOp .Is) (fun x y H Q => y = .non ∧ ROp X.K .isN [x] H Q) := by
  intro pins s σ H x y v u Q I rx ry h
  obtain ⟨rfl, F, as, st, ts, t, hs, S, hr, e, p⟩ := h
  obtain ⟨a, rfl, ha⟩ := hr.one
  simp only [opEval, Option.some.injEq] at e
  subst e
  refine op_isN pins s σ H _ _ v u Q I rx ry ⟨rfl, ?_⟩
  rw [ha.isNon]
  exact p.same hs S (.bl _) rfl
theorem op_notN_s : OpR X (compareOp .IsNot) (fun x y H Q => y = .non ∧ ROp X.K .notN [x] H Q) := by
  intro pins s σ H x y v u Q I rx ry h
  obtain ⟨rfl, F, as, st, ts, t, hs, S, hr, e, p⟩ := h
  obtain ⟨a, rfl, ha⟩ := hr.one
  simp only [opEval, Option.some.injEq] at e
  subst e
  refine op_notN pins s σ H _ _ v u Q I rx ry ⟨rfl, ?_⟩
  rw [ha.isNon]
  exact p.same hs S (.bl _) rfl
theorem op_isB_s {c : Bool} : OpR X (compareOp .Is) (fun x y H Q => y = .bl c ∧ ROp X.K (.isB c) [x] H Q) := by
  intro pins s σ H x y v u Q I rx ry h
  obtain ⟨rfl, F, as, st, ts, t, hs, S, hr, e, p⟩ := h
  obtain ⟨a, rfl, ha⟩ := hr.one
  cases a <;> simp only [opEval] at e <;> try cases e
  case bl b =>
    have e1 := ha.bl
    subst e1
    exact op_isBl pins s σ H _ _ v u Q I rx ry ⟨b, c, rfl, rfl, p.same hs S (.bl _) rfl⟩
theorem op_notB_s {c : Bool} : OpR X (compareOp .IsNot) (fun x y H Q => y = .bl c ∧ ROp X.K (.notB c) [x] H Q) := by
  intro pins s σ H x y v u Q I rx ry h
  obtain ⟨rfl, F, as, st, ts, t, hs, S, hr, e, p⟩ := h
  obtain ⟨a, rfl, ha⟩ := hr.one
  cases a <;> simp only [opEval] at e <;> try cases e
  case bl b =>
    have e1 := ha.bl
    subst e1
    exact op_notBl pins s σ H _ _ v u Q I rx ry ⟨b, c, rfl, rfl, p.same hs S (.bl _) rfl⟩
end
end Q
end
/-! QOps3 -/
section
set_option linter.all false
set_option maxRecDepth 100000
namespace Q
open PySem L2
section
variable {K : PySem.W.Frag} {F F' H H' : Hp} {as as' : List Addr} {st : Store} {v x y : V} {t : T} {Q : VK} {fr : Bool}
theorem RepB.ty (S : Sto K F as st H) (s : Sub F H) {n : Ty7} (r : RepB K F as H v t) (e : tyOf st t = some n) : TyX K H v (.type n.nm) := by
  have own : ∀ {a : Addr} {u : T} {n : Ty7}, Cont K F as H a u → (match u with | .lst _ => some Ty7.lst | .dic _ => some .dic | _ => none) = some n → TyX K H (.ref a) (.type n.nm) := fun {a u n} c e => by
    cases u <;> simp only [Cont] at c <;> simp only [Option.some.injEq] at e <;> subst e
    · obtain ⟨vs, h1, _⟩ := c; exact .base (.lst h1)
    · obtain ⟨vs, h1, _⟩ := c; exact .base (.dK h1)
  rcases r with r | ⟨a, rfl, _, _, c⟩
  · cases r with
    | non => simp only [tyOf, Option.some.injEq] at e; subst e; exact .base .non
    | bl b => simp only [tyOf, Option.some.injEq] at e; subst e; exact .base (.bl b)
    | int i => simp only [tyOf, Option.some.injEq] at e; subst e; exact .base (.int i)
    | str z => simp only [tyOf, Option.some.injEq] at e; subst e; exact .base (.str z)
    | tup h l r =>
      simp only [tyOf, Option.some.injEq] at e; subst e
      rcases h with (h | ⟨o, h⟩) | ⟨o, its, n, h, hc, _⟩
      · exact .base (.tup (s _ _ h))
      · exact .fTuple (s _ _ h)
      · exact .kTuple h hc
    | lst h l r => simp only [tyOf, Option.some.injEq] at e; subst e; exact .base (.lst (s _ _ h))
    | scr h l r => simp [tyOf] at e
    | dic h r => simp only [tyOf, Option.some.injEq] at e; subst e; exact .base (.dK (s _ _ h))
    | ref h =>
      obtain ⟨u, q1, q2, q3⟩ := S.cont h
      simp only [tyOf] at e
      rw [q1] at e
      refine own (q3.cont fun _ q z => by subst z; simp at e) ?_
      cases u <;> simpa using e
  · cases t <;> simp only [Cont] at c <;> simp only [tyOf, Option.some.injEq] at e <;> subst e
    · obtain ⟨vs, h1, _⟩ := c; exact .base (.lst h1)
    · obtain ⟨vs, h1, _⟩ := c; exact .base (.dK h1)
theorem isK1_ok {n : Ty7} {k : Kind} (h : k ≠ .seq) : kitB n.nm k.nm = some (isK1 n k) := by
  cases n <;> cases k <;> first | exact absurd rfl h | decide +kernel
theorem atI_rep {vs : List V} {ts : List T} {i : Int} {t : T} (r : Reps K F as vs ts) (e : atI ts i = some t) : ∃ v, atI vs i = some v ∧ Rep K F as v t := by
  unfold atI at e ⊢
  rw [r.length]
  cases q : ixN ts.length i with
  | none => rw [q] at e; cases e
  | some j =>
    rw [q] at e
    exact r.get e
end
section
variable {X : Cx}
theorem seqD (S : Sto K F as st H) (s : Sub F H) {ys : List T} {ds : List PyData} (r : RepB K F as H v t) (e : seqOf st t = some ys) (e2 : toDs 60 ys = some ds) :
    (Dp K H v (.list ds) ∨ Dp K H v (.tuple ds)) ∧ PyData.canLayAll0 ds = true := by
  obtain ⟨a, vs, rfl, h1, h2, h3⟩ := viewS S s r e
  obtain ⟨g1, g2, g3⟩ := Reps.dp s h3 e2
  refine ⟨?_, g2⟩
  rcases h1 with h1 | h1
  · exact .inl (.lst h1 g1)
  · exact .inr (.tup h1 g1)
theorem inT_some {st : Store} {x : T} {ys : List T} {b : Bool} (e : inT st x ys = some b) : ∃ d ds, datOf st x = some d ∧ toDs 60 ys = some ds ∧ b = ds.any fun z => PyData.eqv z d := by
  unfold inT at e
  cases e1 : datOf st x with
  | none => rw [e1] at e; cases e
  | some d =>
    cases e2 : toDs 60 ys with
    | none => rw [e1, e2] at e; cases e
    | some ds =>
      rw [e1, e2] at e
      cases e
      exact ⟨d, ds, rfl, rfl, rfl⟩
end
section
variable {X : Cx}
theorem op_in_s (hu : X.A.units + 65 < cLine) : OpR X (compareOp .In) (fun x y H Q => ROp X.K .inn [x, y] H Q) := by
  intro pins s σ H x y v u Q I rx ry h
  obtain ⟨F, as, st, ts, t, hs, S, hr, e, p⟩ := h
  obtain ⟨a, b, rfl, ha, hb⟩ := hr.two
  simp only [opEval] at e
  cases e0 : dicOf st b with
  | some kvs =>
    rw [e0] at e
    obtain ⟨k, e1, e2⟩ := Option.map_eq_some_iff.mp e
    subst e2
    obtain ⟨d, vs, rfl, h1, h2⟩ := viewD S hs hb e0
    have hk : x = kV k := by
      rcases ha with r | ⟨_, rfl, _, _, c⟩
      · exact r.key e1
      · cases a <;> simp only [Cont] at c <;> simp [keyOf] at e1
    subst hk
    cases (show u = Value.ref d from ry)
    refine d_in (by omega) I (DGet.k h1) rx fun s' I' => ⟨.bl _, H, I', rfl, ?_⟩
    have z : (valV vs k).isSome = (getK kvs k).isSome := by
      rcases h2.val k with ⟨q1, q2⟩ | ⟨_, _, q1, q2, _⟩ <;> rw [q1, q2] <;> rfl
    rw [z]
    exact p.same hs S (.bl _) rfl
  | none =>
    rw [e0] at e
    obtain ⟨ys, e1, e2⟩ := Option.bind_eq_some_iff.mp e
    obtain ⟨c, e3, e4⟩ := Option.map_eq_some_iff.mp e2
    subst e4
    obtain ⟨d, ds, q1, q2, q3⟩ := inT_some e3
    subst q3
    obtain ⟨g1, g2⟩ := ha.dp S hs q1
    obtain ⟨k1, k2⟩ := seqD S hs hb e1 q2
    obtain ⟨bs, r1⟩ := Dp.reads I d x v g1 rx
    rcases k1 with k1 | k1
    · obtain ⟨cs, r2⟩ := Dp.reads I _ y u k1 ry
      exact SeqAt.in_list_reads r2 r1 k2 (SeqAt.canLay_of_shaped g2) (PyProof.Rows.room_in_shaped g2 hu) ⟨.bl _, H, I, rfl, p.same hs S (.bl _) rfl⟩
    · obtain ⟨cs, r2⟩ := Dp.reads I _ y u k1 ry
      exact SeqAt.in_tuple_reads r2 r1 k2 (SeqAt.canLay_of_shaped g2) (PyProof.Rows.room_in_shaped g2 hu) ⟨.bl _, H, I, rfl, p.same hs S (.bl _) rfl⟩
theorem op_notIn_s (hu : X.A.units + 65 < cLine) : OpR X (compareOp .NotIn) (fun x y H Q => ROp X.K .notIn [x, y] H Q) := by
  intro pins s σ H x y v u Q I rx ry h
  obtain ⟨F, as, st, ts, t, hs, S, hr, e, p⟩ := h
  obtain ⟨a, b, rfl, ha, hb⟩ := hr.two
  simp only [opEval] at e
  cases e0 : dicOf st b with
  | some kvs =>
    rw [e0] at e
    obtain ⟨k, e1, e2⟩ := Option.map_eq_some_iff.mp e
    subst e2
    obtain ⟨d, vs, rfl, h1, h2⟩ := viewD S hs hb e0
    have hk : x = kV k := by
      rcases ha with r | ⟨_, rfl, _, _, c⟩
      · exact r.key e1
      · cases a <;> simp only [Cont] at c <;> simp [keyOf] at e1
    subst hk
    cases (show u = Value.ref d from ry)
    refine d_notIn (by omega) I (DGet.k h1) rx fun s' I' => ⟨.bl _, H, I', rfl, ?_⟩
    have z : (valV vs k).isSome = (getK kvs k).isSome := by
      rcases h2.val k with ⟨q1, q2⟩ | ⟨_, _, q1, q2, _⟩ <;> rw [q1, q2] <;> rfl
    rw [z]
    exact p.same hs S (.bl _) rfl
  | none =>
    rw [e0] at e
    obtain ⟨ys, e1, e2⟩ := Option.bind_eq_some_iff.mp e
    obtain ⟨c, e3, e4⟩ := Option.map_eq_some_iff.mp e2
    subst e4
    obtain ⟨d, ds, q1, q2, q3⟩ := inT_some e3
    subst q3
    obtain ⟨g1, g2⟩ := ha.dp S hs q1
    obtain ⟨k1, k2⟩ := seqD S hs hb e1 q2
    obtain ⟨bs, r1⟩ := Dp.reads I d x v g1 rx
    rcases k1 with k1 | k1
    · obtain ⟨cs, r2⟩ := Dp.reads I _ y u k1 ry
      exact SeqAt.notIn_list_reads r2 r1 k2 (SeqAt.canLay_of_shaped g2) (PyProof.Rows.room_in_shaped g2 hu) ⟨.bl _, H, I, rfl, p.same hs S (.bl _) rfl⟩
    · obtain ⟨cs, r2⟩ := Dp.reads I _ y u k1 ry
      exact SeqAt.notIn_tuple_reads r2 r1 k2 (SeqAt.canLay_of_shaped g2) (PyProof.Rows.room_in_shaped g2 hu) ⟨.bl _, H, I, rfl, p.same hs S (.bl _) rfl⟩
end
end Q
end
/-! QTupMul -/
section
set_option linter.all false
set_option maxRecDepth 100000
set_option maxHeartbeats 4000000
namespace Q
open PySem PySem.Spec PyProof.Rows L2
section
variable (l : Addr) (its : Array Value) (n : Nat) (dd : Option Addr) (sl : Array (Option Value)) (k : Int) (u : Tok)
theorem tmul_same (g0 : (decide (k < -(2 ^ 63)) || decide (k ≥ 2 ^ 63)) = false) (g1 : (its.isEmpty || k == 1) = true) :
    Meets (Builtin.«tuple.__mul__» ⟨[.ref l, .int k u], []⟩) (fun _ R s => s.heap.get? l = some { cls := .type "tuple", dict := dd, data := .seq its n, slots := sl } ∧ R (.ok (.ret (Value.ref l))) s) :=
  .of_wp fun prog w A R s h => by
    obtain ⟨hp, g, d, tk, os⟩ := s
    obtain ⟨e, h⟩ := h
    have fi := AutoSeq1.idx_int
    wp_walk using wpAny_loadPart' e
    repeat (first
      | (refine wpAny_ite_false (decide_eq_false (by rw [g0]; exact Bool.false_ne_true)) ?_ <;> wp_walk using wpAny_loadPart' e)
      | (refine wpAny_ite_true (decide_eq_true g1) ?_ <;> wp_walk using wpAny_loadPart' e))
    exact ⟨_, rfl, h⟩
theorem tmul_none (g0 : (decide (k < -(2 ^ 63)) || decide (k ≥ 2 ^ 63)) = false) (g1 : (its.isEmpty || k == 1) = false) (g2 : (decide (k ≤ 0) || its.isEmpty) = true) :
    Meets (Builtin.«tuple.__mul__» ⟨[.ref l, .int k u], []⟩) (fun _ R s => s.heap.get? l = some { cls := .type "tuple", dict := dd, data := .seq its n, slots := sl } ∧
      R (.ok (.ret (Value.ref s.heap.objs.size))) { s with heap := s.heap.push { cls := Value.type "tuple", data := Data.seq #[] }, toks := s.toks }) :=
  .of_wp fun prog w A R s h => by
    obtain ⟨hp, g, d, tk, os⟩ := s
    obtain ⟨e, h⟩ := h
    have fi := AutoSeq1.idx_int
    wp_walk using wpAny_loadPart' e
    repeat (first
      | (refine wpAny_ite_false (decide_eq_false (by rw [g0]; exact Bool.false_ne_true)) ?_ <;> wp_walk using wpAny_loadPart' e)
      | (refine wpAny_ite_false (decide_eq_false (by rw [g1]; exact Bool.false_ne_true)) ?_ <;> wp_walk using wpAny_loadPart' e)
      | (refine wpAny_ite_true (decide_eq_true g2) ?_ <;> wp_walk using wpAny_loadPart' e)
      | (refine wpAny_ite_false (decide_eq_false (Nat.not_lt.mpr (Nat.zero_le _))) ?_ <;> wp_walk using wpAny_loadPart' e))
    exact ⟨_, rfl, h⟩
end
/-- t * k, any k -/
theorem op_mulT {X : Cx} : OpR X (binaryOp .Mult) (fun x y H Q => ∃ l k xs, x = .ref l ∧ y = .int k ∧ SqT X.K H l xs ∧ (-(2 ^ 63) ≤ k ∧ k < 2 ^ 63) ∧ xs.length * k.toNat ≤ sizeLine ∧
    ((xs = [] ∨ k = 1) → Q (.ref l) H) ∧ (xs ≠ [] → k ≠ 1 → ∀ p, H p = none → Q (.ref p) (upd H p (.tup (List.replicate k.toNat xs).flatten)))) := by
  intro pins s σ H x y v u Q I rx ry h
  obtain ⟨l, k, xs, rfl, rfl, hT, ⟨h1, h2⟩, hz, q1, q2⟩ := h
  cases rx
  obtain ⟨t, rfl⟩ := ry
  obtain ⟨its, r, ⟨⟨cls, dd, data, sl⟩, ho, hc, n, hd⟩, hs⟩ := I.tuple hT
  simp only at hc hd
  subst hc hd
  have hle : its.length = xs.length := r.length.symm
  have g0 : (decide (k < -(2 ^ 63)) || decide (k ≥ 2 ^ 63)) = false := by
    rw [decide_eq_false (by omega), decide_eq_false (by omega)]; rfl
  have road : ∀ {Q' : Value → Shared → Prop}, wpAny (model X.prog X.w) X.A (call (.builtin "tuple.__mul__") [.ref l, .int k t]) Q' X.xe s → wpAny (model X.prog X.w) X.A (binaryOp .Mult (.ref l) (.int k t)) Q' X.xe s := fun {Q'} z =>
    wpAny_binaryOp_repeat_ref (T := "tuple") (U := "int") (by decide) ⟨_, ho, rfl⟩ (fun s' => typeIs_int s' k t) noFill_tuple_mul F.fills_int_mul F.slot_int_rmul repeat_tuple F.slot_int_index.lookup
      (call_meets F.slot_int_rmul (typeIs_int s k t) F.entry_int_rmul (F.args_int_rmul_2 _ _) (int_rmul_tuple k t l its.toArray n dd sl) ⟨ho, rfl, ⟨_, ho, rfl⟩, z⟩)
  have emp : its.toArray.isEmpty = xs.isEmpty := by
    cases its <;> cases xs <;> simp at hle ⊢
  by_cases c1 : xs = [] ∨ k = 1
  · refine road (call_meets PySem.F.slot_tuple_mul ⟨_, ho, rfl⟩ PySem.F.entry_tuple_mul (PySem.F.args_tuple_mul_2 _ _) (tmul_same l its.toArray n dd sl k t g0 ?_) ⟨ho, ⟨.ref l, H, I, rfl, q1 c1⟩⟩)
    rw [emp]
    rcases c1 with rfl | rfl
    · rfl
    · simp
  · have n1 : xs ≠ [] := fun z => c1 (.inl z)
    have n2 : k ≠ 1 := fun z => c1 (.inr z)
    have e1 : xs.isEmpty = false := by cases xs with
      | nil => exact absurd rfl n1
      | cons a b => rfl
    have g1 : (its.toArray.isEmpty || k == 1) = false := by
      rw [emp, e1, Bool.false_or]
      exact beq_eq_false_iff_ne.mpr n2
    have lay : ∀ (m : List V) (ws : List Value), Vals m ws → m.length ≤ sizeLine → m = (List.replicate k.toNat xs).flatten → EP X pins σ Q (.ref s.heap.objs.size) { s with heap := s.heap.push { cls := Value.type "tuple", data := Data.seq ws.toArray }, toks := s.toks } := fun m ws rr lm em =>
      ⟨.ref s.heap.objs.size, _, I.laid (t' := s.toks) (o := .tup m) (fun b ob q => Heap.get?_push_of_some _ q) (Nat.le_refl _) ⟨lm, _, rr, IsTup.new _ _⟩, rfl, by rw [em]; exact q2 n1 n2 _ (I.hok.fresh (Nat.le_refl _))⟩
    by_cases k0 : k ≤ 0
    · refine road (call_meets PySem.F.slot_tuple_mul ⟨_, ho, rfl⟩ PySem.F.entry_tuple_mul (PySem.F.args_tuple_mul_2 _ _) (tmul_none l its.toArray n dd sl k t g0 g1 ?_) ⟨ho, lay [] [] .nil (Nat.zero_le _) ?_⟩)
      · rw [decide_eq_true k0]; rfl
      · have z : k.toNat = 0 := by omega
        rw [z]; rfl
    · have flen : (List.replicate k.toNat xs).flatten.length ≤ sizeLine := by
        rw [PyProof.Rows.lm_len_rep_flat, Nat.mul_comm]; exact hz
      have flen2 : (List.replicate k.toNat its).flatten.length ≤ sizeLine := by
        rw [PyProof.Rows.lm_len_rep_flat, hle, Nat.mul_comm]; exact hz
      have hprod : ((its.toArray.size : Nat) : Int) * k ≤ (sizeLine : Int) := by
        rw [List.size_toArray, hle]
        have z : ((k.toNat : Nat) : Int) = k := Int.toNat_of_nonneg (by omega)
        rw [← z, ← Int.natCast_mul]
        exact_mod_cast hz
      have c4 : Builtin.Tuple.tupleTooMany (((its.toArray.size : Nat) : Int) * k) = false := by
        unfold Builtin.Tuple.tupleTooMany
        exact decide_eq_false (by omega)
      have z := sizeLine_eq
      refine road (call_meets PySem.F.slot_tuple_mul ⟨_, ho, rfl⟩ PySem.F.entry_tuple_mul (PySem.F.args_tuple_mul_2 _ _) (tuple_mulW l its.toArray n dd sl k t g0 g1 ?_ ?_ c4 (by rw [size_rep, List.size_toArray]; exact flen2)) ⟨ho, ?_⟩)
      · rw [emp, e1, Bool.or_false]
        exact decide_eq_false k0
      · rw [z] at hprod
        omega
      · rw [size_rep]
        exact lay _ _ (r.rep k.toNat) flen rfl
theorem op_mul_s {X : Cx} : OpR X (binaryOp .Mult) (fun x y H Q => ROp X.K .mul [x, y] H Q) := by
  intro pins s σ H x y v u Q I rx ry h
  obtain ⟨F, as, st, ts, t, hs, S, hr, e, p⟩ := h
  obtain ⟨a, b, rfl, ha, hb⟩ := hr.two
  cases a <;> cases b <;> simp only [opEval] at e <;> try cases e
  case int.int i j =>
    have e1 := ha.int
    have e2 := hb.int
    subst e1 e2
    split at e
    · rename_i hc
      cases e
      exact op_mul pins s σ H _ _ v u Q I rx ry ⟨i, j, rfl, rfl, hc, p.same hs S (.int _) rfl⟩
    · cases e
  case lst.int xs k =>
    have e2 := hb.int
    subst e2
    obtain ⟨a, vs, rfl, h1, h2, h3⟩ := ha.lst hs
    have l1 := h3.length
    split at e
    · rename_i hc
      cases e
      have l2 : (List.replicate k.toNat vs).flatten.length ≤ sizeLine := by
        have := hc.2
        rw [PyProof.Rows.lm_len_rep_flat, l1, Nat.mul_comm]
        exact this
      exact op_rep pins s σ H _ _ v u Q I rx ry ⟨a, k, vs, rfl, rfl, h1, hc.1.1, hc.1.2, by rw [l1]; exact hc.2, p.lst hs S (h3.repl _) l2⟩
    · cases e
  case tup.int xs k =>
    have e2 := hb.int
    subst e2
    obtain ⟨a, vs, rfl, h1, h2, h3, h3'⟩ := ha.tup hs
    have l1 := h3.length
    split at e
    · rename_i hc
      cases e
      have l2 : (List.replicate k.toNat vs).flatten.length ≤ sizeLine := by
        have := hc.2
        rw [PyProof.Rows.lm_len_rep_flat, l1, Nat.mul_comm]
        exact this
      refine op_mulT pins s σ H _ _ v u Q I rx ry ⟨a, k, vs, rfl, rfl, h1, hc.1, by rw [l1]; exact hc.2, fun c => ?_, fun _ _ => p.tup hs S (h3.repl _) l2⟩
      rcases c with rfl | rfl
      · have z : xs = [] := List.eq_nil_of_length_eq_zero (by rw [← l1]; rfl)
        subst z
        have z2 : (List.replicate k.toNat ([] : List T)).flatten = [] := by simp
        rw [z2] at p
        exact p.same hs S h3' rfl
      · have z2 : (List.replicate (1 : Int).toNat xs).flatten = xs := by simp
        rw [z2] at p
        exact p.same hs S h3' rfl
    · cases e
end Q
end
/-! QOps4 -/
section
set_option linter.all false
set_option maxRecDepth 100000
namespace Q
open PySem L2
/-! sorting -/
theorem insI_perm (x : Int) : ∀ l : List Int, (insI x l).Perm (x :: l)
  | [] => .refl _
  | y :: r => by
    unfold insI
    split
    · exact .refl _
    · exact ((insI_perm x r).cons y).trans (.swap x y r)
theorem sortI_perm : ∀ l : List Int, (sortI l).Perm l
  | [] => .refl _
  | x :: r => (insI_perm x (sortI r)).trans ((sortI_perm r).cons x)
theorem insI_sorted (x : Int) : ∀ l : List Int, l.Pairwise (· ≤ ·) → (insI x l).Pairwise (· ≤ ·)
  | [], _ => List.pairwise_singleton _ _
  | y :: r, h => by
    unfold insI
    have h' := List.pairwise_cons.mp h
    split
    · rename_i hx
      refine List.pairwise_cons.mpr ⟨fun z hz => ?_, h⟩
      rcases List.mem_cons.mp hz with rfl | hz
      · exact hx
      · exact Int.le_trans hx (h'.1 z hz)
    · rename_i hx
      refine List.pairwise_cons.mpr ⟨fun z hz => ?_, insI_sorted x r h'.2⟩
      rcases List.mem_cons.mp ((insI_perm x r).mem_iff.mp hz) with rfl | hz
      · omega
      · exact h'.1 z hz
theorem sortI_sorted : ∀ l : List Int, (sortI l).Pairwise (· ≤ ·)
  | [] => .nil
  | x :: r => insI_sorted x _ (sortI_sorted r)
theorem maxI_ok : ∀ l : List Int, l ≠ [] → maxI l ∈ l ∧ ∀ y ∈ l, y ≤ maxI l
  | [], h => absurd rfl h
  | [x], _ => ⟨by simp [maxI], fun y hy => by simp at hy; subst hy; exact Int.le_refl _⟩
  | x :: y :: r, _ => by
    obtain ⟨h1, h2⟩ := maxI_ok (y :: r) (List.cons_ne_nil _ _)
    have e : maxI (x :: y :: r) = if maxI (y :: r) > x then maxI (y :: r) else x := rfl
    rw [e]
    split
    · exact ⟨List.mem_cons_of_mem _ h1, fun z hz => by
        rcases List.mem_cons.mp hz with rfl | hz
        · omega
        · exact h2 z hz⟩
    · exact ⟨List.mem_cons_self, fun z hz => by
        rcases List.mem_cons.mp hz with rfl | hz
        · exact Int.le_refl _
        · have := h2 z hz; omega⟩
theorem minI_ok : ∀ l : List Int, l ≠ [] → minI l ∈ l ∧ ∀ y ∈ l, minI l ≤ y
  | [], h => absurd rfl h
  | [x], _ => ⟨by simp [minI], fun y hy => by simp at hy; subst hy; exact Int.le_refl _⟩
  | x :: y :: r, _ => by
    obtain ⟨h1, h2⟩ := minI_ok (y :: r) (List.cons_ne_nil _ _)
    have e : minI (x :: y :: r) = if minI (y :: r) < x then minI (y :: r) else x := rfl
    rw [e]
    split
    · exact ⟨List.mem_cons_of_mem _ h1, fun z hz => by
        rcases List.mem_cons.mp hz with rfl | hz
        · omega
        · exact h2 z hz⟩
    · exact ⟨List.mem_cons_self, fun z hz => by
        rcases List.mem_cons.mp hz with rfl | hz
        · exact Int.le_refl _
        · have := h2 z hz; omega⟩
theorem same_ints {a b : List Int} (hp : a.Perm b) (ha : a.Pairwise (· ≤ ·)) (hb : b.Pairwise (· ≤ ·)) : a = b := PySem.W.ksm_same hp ha hb
section
variable {X : Cx}
theorem RepBs.lenOne {K : PySem.W.Frag} {F H : Hp} {as : List Addr} {xs : List V} {a : T} (h : RepBs K F as H xs [a]) : ∃ x, xs = [x] ∧ RepB K F as H x a := by
  cases xs with
  | nil => exact h.elim
  | cons x r => cases r with
    | nil => exact ⟨x, rfl, h.1⟩
    | cons b r => exact h.2.elim
theorem RepBs.lenTwo {K : PySem.W.Frag} {F H : Hp} {as : List Addr} {xs : List V} {a b : T} (h : RepBs K F as H xs [a, b]) : ∃ x y, xs = [x, y] ∧ RepB K F as H x a ∧ RepB K F as H y b := by
  cases xs with
  | nil => exact h.elim
  | cons x r =>
    obtain ⟨y, rfl, h2⟩ := RepBs.lenOne h.2
    exact ⟨x, y, rfl, h.1, h2⟩
theorem op1 {st : Store} {o : Op} {ts : List T} {t : T} (e : opEval st o ts = some t) (h : ∀ l, (∀ a, l ≠ [a]) → opEval st o l = none) : ∃ a, ts = [a] := by
  cases ts with
  | nil => rw [h [] (fun _ z => nomatch z)] at e; cases e
  | cons a r => cases r with
    | nil => exact ⟨a, rfl⟩
    | cons b r => rw [h (a :: b :: r) (fun _ z => nomatch z)] at e; cases e
theorem cl_len : CallR X (.builtin "len") (fun xs H Q => ROp X.K .len xs H Q) := by
  intro pins s σ H xs us Q I r h
  obtain ⟨F, as, st, ts, t, hs, S, hr, e, p⟩ := h
  obtain ⟨a, rfl⟩ := op1 e (fun l hl => by unfold opEval; split <;> simp_all)
  obtain ⟨x, rfl, ha⟩ := RepBs.lenOne hr
  simp only [opEval] at e
  cases e0 : dicOf st a with
  | some kvs =>
    rw [e0] at e
    cases e
    obtain ⟨d, vs, rfl, h1, h2⟩ := viewD S hs ha e0
    refine call_lenD pins s σ H _ us Q I r ⟨d, vs, rfl, h1, ?_⟩
    rw [h2.length]
    exact p.same hs S (.int _) rfl
  | none =>
    rw [e0] at e
    obtain ⟨ys, e1, e2⟩ := Option.map_eq_some_iff.mp e
    subst e2
    obtain ⟨d, vs, rfl, h1, h2, h3⟩ := viewS S hs ha e1
    refine call_len_seq pins s σ H _ us Q I r ⟨d, vs, rfl, h1, ?_⟩
    rw [h3.length]
    exact p.same hs S (.int _) rfl
theorem cl_tuple : CallR X (.type "tuple") (fun xs H Q => ROp X.K .tuple xs H Q) := by
  intro pins s σ H xs us Q I r h
  obtain ⟨F, as, st, ts, t, hs, S, hr, e, p⟩ := h
  obtain ⟨a, rfl⟩ := op1 e (fun l hl => by unfold opEval; split <;> simp_all)
  obtain ⟨x, rfl, ha⟩ := RepBs.lenOne hr
  simp only [opEval] at e
  obtain ⟨ys, e1, e2⟩ := Option.map_eq_some_iff.mp e
  subst e2
  cases a with
  | tup zs =>
    cases e1
    obtain ⟨d, vs, rfl, h1, h2, h3, h4⟩ := ha.tup hs
    exact call_tuple_of pins s σ H _ us Q I r ⟨d, vs, rfl, .inr ⟨h1, p.same hs S h4 rfl⟩⟩
  | _ =>
    obtain ⟨d, vs, rfl, h1, h2, h3⟩ := viewL S hs ha e1
    exact call_tuple_of pins s σ H _ us Q I r ⟨d, vs, rfl, .inl ⟨h1, p.tup hs S h3 h2⟩⟩
theorem cl_list (hc : X.calm = true) : CallR X (.type "list") (fun xs H Q => ROp X.K .list xs H Q) := by
  intro pins s σ H xs us Q I r h
  obtain ⟨F, as, st, ts, t, hs, S, hr, e, p⟩ := h
  obtain ⟨a, rfl⟩ := op1 e (fun l hl => by unfold opEval; split <;> simp_all)
  obtain ⟨x, rfl, ha⟩ := RepBs.lenOne hr
  simp only [opEval] at e
  cases e0 : dicOf st a with
  | some kvs =>
    rw [e0] at e
    cases e
    obtain ⟨d, vs, rfl, h1, h2⟩ := viewD S hs ha e0
    have hl : vs.length ≤ sizeLine := (show ObjOk X.prog X.w H s.heap d (.dK vs) from I.hok d _ h1).1
    exact call_list_dK hc pins s σ H _ us Q I r ⟨d, vs, rfl, h1, p.lst hs S h2.keys (by rw [List.length_map]; exact hl)⟩
  | none =>
    rw [e0] at e
    obtain ⟨ys, e1, e2⟩ := Option.map_eq_some_iff.mp e
    subst e2
    obtain ⟨d, vs, rfl, h1, h2, h3⟩ := viewS S hs ha e1
    exact call_list_of pins s σ H _ us Q I r ⟨d, vs, rfl, h1, p.lst hs S h3 h2⟩
theorem keysI_ok {K : PySem.W.Frag} {F : Hp} {as : List Addr} : ∀ {vs : List (Key × V)} {ts : List (Key × T)} {is : List Int}, RepKs K F as vs ts → keysI ts = some is → vs.map (·.1) = is.map Sum.inl
  | _, _, _, .nil, e => by cases e; rfl
  | _, _, is, .cons (k := k) h r, e => by
    cases k with
    | inr x => simp only [keysI] at e; cases e
    | inl i =>
      simp only [keysI] at e
      obtain ⟨js, e1, rfl⟩ := Option.map_eq_some_iff.mp e
      rw [List.map_cons, List.map_cons, keysI_ok r e1]
theorem cl_sorted (hc : X.calm = true) : CallR X (.builtin "sorted") (fun xs H Q => ROp X.K .sorted xs H Q) := by
  intro pins s σ H xs us Q I r h
  obtain ⟨F, as, st, ts, t, hs, S, hr, e, p⟩ := h
  obtain ⟨a, rfl⟩ := op1 e (fun l hl => by unfold opEval; split <;> simp_all)
  obtain ⟨x, rfl, ha⟩ := RepBs.lenOne hr
  simp only [opEval] at e
  cases e0 : dicOf st a with
  | some kvs =>
    rw [e0] at e
    obtain ⟨is, e3, e4⟩ := Option.bind_eq_some_iff.mp e
    split at e4
    · rename_i hl
      cases e4
      obtain ⟨d, vs, rfl, h1, h2⟩ := viewD S hs ha e0
      refine call_sortedDI hc pins s σ H _ us Q I r ⟨d, vs, is, rfl, .inl h1, keysI_ok h2 e3, hl, fun ns' q pm pw hq => ?_⟩
      have z := same_ints (pm.trans (sortI_perm is).symm) pw (sortI_sorted is)
      subst z
      refine p.lst hs S (Reps.ofInts _) ?_ q hq
      rw [List.length_map, (sortI_perm is).length_eq, sizeLine_eq]
      omega
    · cases e4
  | none =>
    rw [e0] at e
    obtain ⟨ys, e1, e2⟩ := Option.bind_eq_some_iff.mp e
    obtain ⟨is, e3, e4⟩ := Option.map_eq_some_iff.mp e2
    subst e4
    obtain ⟨d, vs, rfl, h1, h2, h3⟩ := viewL S hs ha e1
    have ev := h3.ints e3
    subst ev
    refine cr_sortedI pins s σ H _ us Q I r ⟨d, is, rfl, h1, fun ns' q pm pw hq => ?_⟩
    have z := same_ints (pm.trans (sortI_perm is).symm) pw (sortI_sorted is)
    subst z
    refine p.lst hs S (Reps.ofInts _) ?_ q hq
    rw [List.length_map, (sortI_perm is).length_eq]
    simpa using h2
theorem cl_abs : CallR X (.builtin "abs") (fun xs H Q => ROp X.K .abs xs H Q) := by
  intro pins s σ H xs us Q I r h
  obtain ⟨F, as, st, ts, t, hs, S, hr, e, p⟩ := h
  obtain ⟨a, rfl⟩ := op1 e (fun l hl => by unfold opEval; split <;> simp_all)
  obtain ⟨x, rfl, ha⟩ := RepBs.lenOne hr
  cases a <;> simp only [opEval] at e <;> try cases e
  case int i =>
    have e1 := ha.int
    subst e1
    exact call_abs pins s σ H _ us Q I r ⟨i, rfl, p.same hs S (.int _) rfl⟩
theorem cl_int : CallR X (.type "int") (fun xs H Q => ROp X.K .int xs H Q) := by
  intro pins s σ H xs us Q I r h
  obtain ⟨F, as, st, ts, t, hs, S, hr, e, p⟩ := h
  obtain ⟨a, rfl⟩ := op1 e (fun l hl => by unfold opEval; split <;> simp_all)
  obtain ⟨x, rfl, ha⟩ := RepBs.lenOne hr
  cases a <;> simp only [opEval] at e <;> try cases e
  case int i =>
    have e1 := ha.int
    subst e1
    exact call_int1 pins s σ H _ us Q I r (.inl ⟨i, rfl, p.same hs S (.int _) rfl⟩)
  case bl i =>
    have e1 := ha.bl
    subst e1
    exact call_int1 pins s σ H _ us Q I r (.inr ⟨i, rfl, p.same hs S (.int _) rfl⟩)
theorem op2 {st : Store} {o : Op} {ts : List T} {t : T} (e : opEval st o ts = some t) (h : ∀ l, (∀ a b, l ≠ [a, b]) → opEval st o l = none) : ∃ a b, ts = [a, b] := by
  cases ts with
  | nil => rw [h [] (fun _ _ z => nomatch z)] at e; cases e
  | cons a r => cases r with
    | nil => rw [h [a] (fun _ _ z => nomatch z)] at e; cases e
    | cons b r => cases r with
      | nil => exact ⟨a, b, rfl⟩
      | cons c r => rw [h (a :: b :: c :: r) (fun _ _ z => nomatch z)] at e; cases e
theorem cl_min2 (hc : X.calm = true) : CallR X (.builtin "min") (fun xs H Q => ROp X.K .min2 xs H Q) := by
  intro pins s σ H xs us Q I r h
  obtain ⟨F, as, st, ts, t, hs, S, hr, e, p⟩ := h
  obtain ⟨a, b, rfl⟩ := op2 e (fun l hl => by unfold opEval; split <;> simp_all)
  obtain ⟨x, y, rfl, ha, hb⟩ := RepBs.lenTwo hr
  cases a <;> cases b <;> simp only [opEval] at e <;> try cases e
  case int.int i j =>
    have e1 := ha.int
    have e2 := hb.int
    subst e1 e2
    exact call_min2 hc pins s σ H _ us Q I r ⟨i, j, rfl, p.same hs S (.int _) rfl⟩
theorem cl_maxL (hc : X.calm = true) : CallR X (.builtin "max") (fun xs H Q => ROp X.K .maxL xs H Q) := by
  intro pins s σ H xs us Q I r h
  obtain ⟨F, as, st, ts, t, hs, S, hr, e, p⟩ := h
  obtain ⟨a, rfl⟩ := op1 e (fun l hl => by unfold opEval; split <;> simp_all)
  obtain ⟨x, rfl, ha⟩ := RepBs.lenOne hr
  simp only [opEval] at e
  obtain ⟨ys, e1, e2⟩ := Option.bind_eq_some_iff.mp e
  obtain ⟨is, e3, e4⟩ := Option.bind_eq_some_iff.mp e2
  obtain ⟨d, vs, rfl, h1, h2, h3⟩ := viewL S hs ha e1
  have ev := h3.ints e3
  subst ev
  split at e4
  · cases e4
  · rename_i hne
    cases e4
    obtain ⟨m1, m2⟩ := maxI_ok is hne
    refine cr_max hc pins s σ H _ us Q I r ⟨d, is, rfl, h1, List.length_pos_iff.mpr hne, fun m g1 g2 => ?_⟩
    have z : m = maxI is := Int.le_antisymm (m2 m g1) (g2 _ m1)
    subst z
    exact p.same hs S (.int _) rfl
theorem cl_minL (hc : X.calm = true) : CallR X (.builtin "min") (fun xs H Q => ROp X.K .minL xs H Q) := by
  intro pins s σ H xs us Q I r h
  obtain ⟨F, as, st, ts, t, hs, S, hr, e, p⟩ := h
  obtain ⟨a, rfl⟩ := op1 e (fun l hl => by unfold opEval; split <;> simp_all)
  obtain ⟨x, rfl, ha⟩ := RepBs.lenOne hr
  simp only [opEval] at e
  obtain ⟨ys, e1, e2⟩ := Option.bind_eq_some_iff.mp e
  obtain ⟨is, e3, e4⟩ := Option.bind_eq_some_iff.mp e2
  obtain ⟨d, vs, rfl, h1, h2, h3⟩ := viewL S hs ha e1
  have ev := h3.ints e3
  subst ev
  split at e4
  · cases e4
  · rename_i hne
    cases e4
    obtain ⟨m1, m2⟩ := minI_ok is hne
    refine cr_min hc pins s σ H _ us Q I r ⟨d, is, rfl, h1, List.length_pos_iff.mpr hne, fun m g1 g2 => ?_⟩
    have z : m = minI is := Int.le_antisymm (g2 _ m1) (m2 m g1)
    subst z
    exact p.same hs S (.int _) rfl
theorem cl_all (hc : X.calm = true) : CallR X (.builtin "all") (fun xs H Q => ROp X.K .all xs H Q) := by
  intro pins s σ H xs us Q I r h
  obtain ⟨F, as, st, ts, t, hs, S, hr, e, p⟩ := h
  obtain ⟨a, rfl⟩ := op1 e (fun l hl => by unfold opEval; split <;> simp_all)
  obtain ⟨x, rfl, ha⟩ := RepBs.lenOne hr
  simp only [opEval] at e
  obtain ⟨ys, e1, e2⟩ := Option.bind_eq_some_iff.mp e
  obtain ⟨bs, e3, e4⟩ := Option.map_eq_some_iff.mp e2
  subst e4
  obtain ⟨d, vs, rfl, h1, h2, h3⟩ := viewL S hs ha e1
  have ev := h3.bls e3
  subst ev
  exact cr_all hc pins s σ H _ us Q I r ⟨d, bs, rfl, h1, p.same hs S (.bl _) rfl⟩
theorem cl_any (hc : X.calm = true) : CallR X (.builtin "any") (fun xs H Q => ROp X.K .any xs H Q) := by
  intro pins s σ H xs us Q I r h
  obtain ⟨F, as, st, ts, t, hs, S, hr, e, p⟩ := h
  obtain ⟨a, rfl⟩ := op1 e (fun l hl => by unfold opEval; split <;> simp_all)
  obtain ⟨x, rfl, ha⟩ := RepBs.lenOne hr
  simp only [opEval] at e
  obtain ⟨ys, e1, e2⟩ := Option.bind_eq_some_iff.mp e
  obtain ⟨bs, e3, e4⟩ := Option.map_eq_some_iff.mp e2
  subst e4
  obtain ⟨d, vs, rfl, h1, h2, h3⟩ := viewL S hs ha e1
  have ev := h3.bls e3
  subst ev
  exact cr_any hc pins s σ H _ us Q I r ⟨d, bs, rfl, h1, p.same hs S (.bl _) rfl⟩
theorem cl_isi {k : Kind} (hk : k ≠ .seq) : CallR X (.builtin "isinstance") (fun xs H Q => ∃ x, xs = [x, .ty k.nm] ∧ ROp X.K (.isi k) [x] H Q) := by
  intro pins s σ H xs us Q I r h
  obtain ⟨x, rfl, F, as, st, ts, t, hs, S, hr, e, p⟩ := h
  obtain ⟨a, rfl, ha⟩ := hr.one
  simp only [opEval] at e
  obtain ⟨n, e1, e2⟩ := Option.map_eq_some_iff.mp e
  subst e2
  have z : isK n k = isK1 n k := by cases k <;> first | rfl | exact absurd rfl hk
  rw [z] at p
  exact call_isi pins s σ H _ us Q I r ⟨x, .ty k.nm, _, _, isK1 n k, rfl, .ty _, ha.ty S hs e1, kit_ty (isK1_ok hk), p.same hs S (.bl _) rfl⟩
theorem cl_isiS {c1 c2 : Kind} (hc : (c1 = .list ∧ c2 = .tuple) ∨ (c1 = .tuple ∧ c2 = .list)) : CallR X (.builtin "isinstance") (fun xs H Q => ∃ x tp, xs = [x, .ref tp] ∧ H tp = some (.tup [.ty c1.nm, .ty c2.nm]) ∧ ROp X.K (.isi .seq) [x] H Q) := by
  intro pins s σ H xs us Q I r h
  obtain ⟨x, tp, rfl, ht, F, as, st, ts, t, hs, S, hr, e, p⟩ := h
  obtain ⟨a, rfl, ha⟩ := hr.one
  simp only [opEval] at e
  obtain ⟨n, e1, e2⟩ := Option.map_eq_some_iff.mp e
  subst e2
  have k1 : PySem.W.kitOne X.K (.type n.nm) (.type c1.nm) = some (isK1 n c1) := kit_ty (isK1_ok (by rcases hc with ⟨rfl, _⟩ | ⟨rfl, _⟩ <;> decide))
  have k2 : PySem.W.kitOne X.K (.type n.nm) (.type c2.nm) = some (isK1 n c2) := kit_ty (isK1_ok (by rcases hc with ⟨_, rfl⟩ | ⟨_, rfl⟩ <;> decide))
  have z : isK n .seq = (isK1 n c1 || isK1 n c2) := by
    rcases hc with ⟨rfl, rfl⟩ | ⟨rfl, rfl⟩
    · rfl
    · show (isK1 n .list || isK1 n .tuple) = _; rw [Bool.or_comm]
  rw [z] at p
  refine call_isiT pins s σ H _ us Q I r ⟨x, tp, _, _, [.type c1.nm, .type c2.nm], _, rfl, ht, .cons (.ty _) (.cons (.ty _) .nil), ha.ty S hs e1, kitAny_cons k1 (fun q => ?_) (fun q => by rw [q]; rfl), p.same hs S (.bl _) rfl⟩
  rw [q, Bool.false_or]
  exact kitAny_cons k2 (fun q => by rw [q]; exact kitAny_nil) (fun q => q)
theorem ix_s : IxR X (fun x y H Q => ROp X.K .idx [x, y] H Q) := by
  intro value slice pins s σ H x y v u Q I rx ry h hsub
  obtain ⟨F, as, st, ts, t, hs, S, hr, e, p⟩ := h
  obtain ⟨a, b, rfl, ha, hb⟩ := hr.two
  cases b <;> simp only [opEval] at e <;> try cases e
  case int i =>
    have e2 := hb.int
    subst e2
    obtain ⟨ys, q1, q2⟩ := Option.bind_eq_some_iff.mp e
    obtain ⟨d, vs, rfl, h1, h2, h3⟩ := viewS S hs ha q1
    obtain ⟨w', g1, g2⟩ := atI_rep h3 q2
    have fin : Q w' H := by
      unfold PostF at p
      rw [show freshOp Op.idx = false from rfl, Bool.false_and] at p
      exact p _ _ _ _ (Nxt.refl F as H) hs S g2
    rcases h1 with h1 | h1
    · exact ix_list value slice pins s σ H _ _ v u Q I rx ry ⟨d, vs, i, w', rfl, rfl, h1, g1, fin⟩ hsub
    · exact ix_tup value slice pins s σ H _ _ v u Q I rx ry ⟨d, vs, i, w', rfl, rfl, h1, g1, fin⟩ hsub
/-- a slice -/
def RSl (K : PySem.W.Frag) (x : V) (lo hi : Option Int) (H : Hp) (Q : VK) : Prop :=
  ∃ F as st a t, Sub F H ∧ Sto K F as st H ∧ RepB K F as H x a ∧ slice st a lo hi = some t ∧ PostF true K F as H t st Q
theorem cut_len {vs : List V} {ts : List T} {K : PySem.W.Frag} {F : Hp} {as : List Addr} (r : Reps K F as vs ts) (lo hi : Option Int) : Reps K F as (cutV vs lo hi) (cut ts lo hi) := by
  unfold cutV cut
  rw [r.length]
  exact (r.drop _).take _
theorem sl_s : SlR X (RSl X.K) := by
  intro pins s σ H x v vl vu lo hi sl Q I rx hsl pl pu h
  obtain ⟨F, as, st, a, t, hs, S, ha, e, p⟩ := h
  cases a with
  | tup xs =>
    simp only [slice, Option.some.injEq] at e
    subst e
    obtain ⟨d, vs, rfl, h1, h2, h3, h4⟩ := ha.tup hs
    refine sl_tupA pins s σ H _ v vl vu lo hi sl Q I rx hsl pl pu ⟨d, vs, rfl, h1, fun q => ?_, fun q => p.tup hs S (cut_len h3 lo hi) (Nat.le_trans (cutV_length _ _ _) h2)⟩
    have z : cut xs lo hi = xs := by
      unfold cut
      rw [h3.length] at q
      rw [q.1, q.2]; simp
    rw [z] at p
    exact p.same hs S h4 rfl
  | _ =>
    simp only [slice] at e
    obtain ⟨ys, e1, e2⟩ := Option.map_eq_some_iff.mp e
    subst e2
    obtain ⟨d, vs, rfl, h1, h2, h3⟩ := viewL S hs ha e1
    exact sl_list pins s σ H _ v vl vu lo hi sl Q I rx hsl pl pu ⟨d, vs, rfl, h1, p.lst hs S (cut_len h3 lo hi) (Nat.le_trans (cutV_length _ _ _) h2)⟩
end
end Q
end
/-! QExp -/
section
set_option linter.all false
set_option maxRecDepth 100000
namespace Q
open PySem L2
theorem PE.imp {X : Cx} {e : Expr} {t t' : TE} (h : PE X e t) (k : ∀ σ H Q, t' σ H Q → t σ H Q) : PE X e t' := ⟨fun pins s σ H Q I q => h.run pins s σ H Q I (k σ H Q q)⟩
theorem PA.imp {X : Cx} {e : List Expr} {t t' : TA} (h : PA X e t) (k : ∀ σ H Q, t' σ H Q → t σ H Q) : PA X e t' := ⟨fun pos pins s σ H Q I q => h.run pos pins s σ H Q I (k σ H Q q)⟩
theorem PT.imp {X : Cx} {e : Expr} {t t' : TT} (h : PT X e t) (k : ∀ σ H Q, t' σ H Q → t σ H Q) : PT X e t' := ⟨fun pins s σ H Q I q => h.run pins s σ H Q I (k σ H Q q)⟩
theorem PW.imp {X : Cx} {e : Expr} {t t' : TT} (h : PW X e t) (k : ∀ σ H Q, t' σ H Q → t σ H Q) : PW X e t' := ⟨fun wh pins s σ H Q I q => h.run wh pins s σ H Q I (k σ H Q q)⟩
theorem PE.or {X : Cx} {e : Expr} {t t' : TE} (h : PE X e t) (h' : PE X e t') : PE X e (fun σ H Q => t σ H Q ∨ t' σ H Q) := ⟨fun pins s σ H Q I q => q.elim (h.run pins s σ H Q I) (h'.run pins s σ H Q I)⟩
abbrev Ev := Env → Store → O T
abbrev Evs := Env → Store → O (List T)
section
variable (K : PySem.W.Frag) (xi : XI) (W : WX)
/-- an expression's reading: its evaluation is known -/
def tE (ev : Ev) : TE := fun σ H Q => ∃ F as ρ st, Sim K F as ρ st σ H ∧ Out K xi F as H σ W (ev ρ st) fun t st' => Post K F as H t st' Q
def tB (ev : Ev) : TE := fun σ H Q => ∃ F as ρ st, Sim K F as ρ st σ H ∧ Out K xi F as H σ W (ev ρ st) fun t st' => PostB K F as H t st' Q
def tF (fr : Bool) (ev : Ev) : TE := fun σ H Q => ∃ F as ρ st, Sim K F as ρ st σ H ∧ Out K xi F as H σ W (ev ρ st) fun t st' => PostF fr K F as H t st' Q
def tT (ev : Ev) : TT := fun σ H Q => ∃ F as ρ st, Sim K F as ρ st σ H ∧ Out K xi F as H σ W ((ev ρ st).bind fun t st' => match truth st' t with
  | some b => .ok b st'
  | none => .bad) fun b st' => ∀ F' as' H', Nxt F as H F' as' H' → Sub F' H' → Sto K F' as' st' H' → Q b H'
def PostEs (F : Hp) (as : List Addr) (H : Hp) (ts : List T) (st : Store) (Q : List V → Hp → Prop) : Prop :=
  ∀ F' as' H' vs, Nxt F as H F' as' H' → Sub F' H' → Sto K F' as' st H' → Reps K F' as' vs ts → Q vs H'
def PostBs (F : Hp) (as : List Addr) (H : Hp) (ts : List T) (st : Store) (Q : List V → Hp → Prop) : Prop :=
  ∀ F' as' H' vs, Nxt F as H F' as' H' → Sub F' H' → Sto K F' as' st H' → RepBs K F' as' H' vs ts → Q vs H'
def tEs (ev : Evs) : TA := fun σ H Q => ∃ F as ρ st, Sim K F as ρ st σ H ∧ Out K xi F as H σ W (ev ρ st) fun ts st' => PostEs K F as H ts st' Q
def tBs (ev : Evs) : TA := fun σ H Q => ∃ F as ρ st, Sim K F as ρ st σ H ∧ Out K xi F as H σ W (ev ρ st) fun ts st' => PostBs K F as H ts st' Q
end
section
variable {K : PySem.W.Frag} {xi : XI} {W : WX} {σ : L2.St} {H : Hp}
theorem tE_tF {fr : Bool} {ev : Ev} {Q : VK} (h : tE K xi W ev σ H Q) : tF K xi W fr ev σ H Q := by
  obtain ⟨F, as, ρ, st, S, h⟩ := h
  exact ⟨F, as, ρ, st, S, h.imp fun t st' _ p => p.fr fr⟩
theorem tB_tE {ev : Ev} {Q : VK} (h : tB K xi W ev σ H Q) : tE K xi W ev σ H Q := by
  obtain ⟨F, as, ρ, st, S, h⟩ := h
  exact ⟨F, as, ρ, st, S, h.imp fun t st' _ p => p.post⟩
theorem tEs_nil {Q : List V → Hp → Prop} (h : tEs K xi W (fun _ st => .ok [] st) σ H Q) : tNil σ H Q := by
  obtain ⟨F, as, ρ, st, S, h⟩ := h
  exact h F as H [] (Nxt.refl _ _ _) S.sub S.sto .nil
theorem tBs_nil {Q : List V → Hp → Prop} (h : tBs K xi W (fun _ st => .ok [] st) σ H Q) : tNil σ H Q := by
  obtain ⟨F, as, ρ, st, S, h⟩ := h
  exact h F as H [] (Nxt.refl _ _ _) S.sub S.sto True.intro
theorem tEs_cons {e : Ev} {es : Evs} {Q : List V → Hp → Prop} (h : tEs K xi W (fun ρ st => (e ρ st).bind fun t st' => (es ρ st').bind fun ts st'' => .ok (t :: ts) st'') σ H Q) : tCons (tE K xi W e) (tEs K xi W es) σ H Q := by
  obtain ⟨F, as, ρ, st, S, h⟩ := h
  refine ⟨F, as, ρ, st, S, h.bind fun t st1 _ h1 F1 as1 H1 v n s So r => ?_⟩
  refine ⟨F1, as1, ρ, st1, S.nxt n s So, (h1.nxt n (P' := fun ts st' => PostEs K F1 as1 H1 ts st' fun vs H' => Q vs H') fun ts st' _ p => fun F' as' H' vs m => p F' as' H' vs (n.trans m)).bind fun ts st2 _ h2 F2 as2 H2 vs m s2 So2 r2 => ?_⟩
  exact h2 F2 as2 H2 (v :: vs) m s2 So2 (.cons (r.mono m.ff m.pre) r2)
theorem tBs_cons {e : Ev} {es : Evs} {Q : List V → Hp → Prop} (h : tBs K xi W (fun ρ st => (e ρ st).bind fun t st' => (es ρ st').bind fun ts st'' => .ok (t :: ts) st'') σ H Q) : tCons (tB K xi W e) (tBs K xi W es) σ H Q := by
  obtain ⟨F, as, ρ, st, S, h⟩ := h
  refine ⟨F, as, ρ, st, S, h.bind fun t st1 _ h1 F1 as1 H1 v n s So r => ?_⟩
  refine ⟨F1, as1, ρ, st1, S.nxt n s So, (h1.nxt n (P' := fun ts st' => PostBs K F1 as1 H1 ts st' fun vs H' => Q vs H') fun ts st' _ p => fun F' as' H' vs m => p F' as' H' vs (n.trans m)).bind fun ts st2 _ h2 F2 as2 H2 vs m s2 So2 r2 => ?_⟩
  exact h2 F2 as2 H2 (v :: vs) m s2 So2 ⟨r.nxt m, r2⟩
/-- an operation behind its parts -/
theorem tF_op {o : Op} {es : Evs} {Q : VK} (h : tF K xi W (freshOp o) (fun ρ st => (es ρ st).bind fun ts st' => lift (opEval st' o ts) st') σ H Q) : tBs K xi W es σ H (fun vs H' => ROp K o vs H' Q) := by
  obtain ⟨F, as, ρ, st, S, h⟩ := h
  refine ⟨F, as, ρ, st, S, h.bind fun ts st1 _ h1 F1 as1 H1 vs n s So r => ?_⟩
  cases e : opEval st1 o ts with
  | none => rw [e] at h1; exact h1.elim
  | some t =>
    rw [e] at h1
    exact ⟨F1, as1, st1, ts, t, s, So, r, e, PostF.nxt (show PostF (freshOp o) K F as H t st1 Q from h1) n⟩
/-- two parts in a row -/
theorem tBs_two {a b : Ev} {Q : List V → Hp → Prop} (h : tBs K xi W (fun ρ st => (a ρ st).bind fun t st' => ((b ρ st').bind fun t st'' => O.bind (.ok [] st'') fun ts st3 => .ok (t :: ts) st3).bind fun ts st'' => .ok (t :: ts) st'') σ H Q) :
    tB K xi W a σ H fun x H1 => tB K xi W b σ H1 fun y H2 => Q [x, y] H2 := by
  have h1 := tBs_cons (es := fun ρ st => (b ρ st).bind fun t st'' => O.bind (.ok [] st'') fun ts st3 => .ok (t :: ts) st3) h
  obtain ⟨F, as, ρ, st, S, h1⟩ := h1
  refine ⟨F, as, ρ, st, S, h1.imp fun t st' _ p => fun F' as' H' v n s So r => ?_⟩
  have h2 := tBs_cons (es := fun _ st => .ok [] st) (p F' as' H' v n s So r)
  obtain ⟨F2, as2, ρ2, st2, S2, h2⟩ := h2
  refine ⟨F2, as2, ρ2, st2, S2, h2.imp fun t st' _ p => fun F' as' H' v n s So r => ?_⟩
  exact tBs_nil (p F' as' H' v n s So r)
theorem tBs_one {a : Ev} {Q : List V → Hp → Prop} (h : tBs K xi W (fun ρ st => (a ρ st).bind fun t st' => O.bind (.ok [] st') fun ts st'' => .ok (t :: ts) st'') σ H Q) : tB K xi W a σ H fun x H1 => Q [x] H1 := by
  have h1 := tBs_cons (es := fun _ st => .ok [] st) h
  obtain ⟨F, as, ρ, st, S, h1⟩ := h1
  refine ⟨F, as, ρ, st, S, h1.imp fun t st' _ p => fun F' as' H' v n s So r => ?_⟩
  exact tBs_nil (p F' as' H' v n s So r)
theorem Reps.emp {F : Hp} {as : List Addr} {vs : List V} {ts : List T} (r : Reps K F as vs ts) : (!ts.isEmpty) = !vs.isEmpty := by cases r <;> rfl
theorem RepKs.emp {F : Hp} {as : List Addr} {vs : List (Key × V)} {ts : List (Key × T)} (r : RepKs K F as vs ts) : (!ts.isEmpty) = !vs.isEmpty := by cases r <;> rfl
/-- the truth of a value -/
theorem truV {F : Hp} {as : List Addr} {st : Store} {v : V} {t : T} {b : Bool} (S : Sto K F as st H) (s : Sub F H) (r : RepB K F as H v t) (e : truth st t = some b) : TruV K v H b := by
  have own : ∀ {a : Addr} {u : T} {b : Bool}, Cont K F as H a u → (match u with | .lst xs => some (!xs.isEmpty) | .dic kvs => some (!kvs.isEmpty) | _ => none) = some b → TruV K (.ref a) H b := fun {a u b} c e => by
    cases u <;> simp only [Cont] at c <;> simp only [Option.some.injEq] at e <;> subst e
    · obtain ⟨vs, h1, h2, h3⟩ := c
      exact .inl ⟨vs, SqL.of h1, h3.emp⟩
    · obtain ⟨vs, h1, h3⟩ := c
      exact .inr (.inr ⟨vs, h1, h3.emp⟩)
  rcases r with r | ⟨a, rfl, _, _, c⟩
  · cases r with
    | non => simp only [truth, Option.some.injEq] at e; subst e; exact rfl
    | bl b => simp only [truth, Option.some.injEq] at e; subst e; exact rfl
    | int i => simp only [truth, Option.some.injEq] at e; subst e; exact rfl
    | str z =>
      simp only [truth] at e
      split at e
      · rename_i hz
        cases e
        exact ⟨by rw [sizeLine_eq]; omega, rfl⟩
      · cases e
    | tup h l r =>
      simp only [truth, Option.some.injEq] at e; subst e
      exact .inr (.inl ⟨_, s.sqT h, r.emp⟩)
    | lst h l r => exact own (u := .lst _) ⟨_, s _ _ h, l, r⟩ (by simpa [truth] using e)
    | scr h l r =>
      simp only [truth, Option.some.injEq] at e; subst e
      exact .inl ⟨_, s.sqL h, r.emp⟩
    | dic h r => exact own (u := .dic _) ⟨_, s _ _ h, r⟩ (by simpa [truth] using e)
    | ref h =>
      obtain ⟨u, q1, q2, q3⟩ := S.cont h
      simp only [truth] at e
      rw [q1] at e
      refine own (q3.cont fun _ q z => by subst z; simp at e) ?_
      cases u <;> simpa using e
  · refine own c ?_
    cases t <;> simp only [Cont] at c <;> simpa [truth] using e
end
end Q
end
/-! QSyn -/
section
set_option linter.all false
set_option maxRecDepth 100000
namespace Q
open PySem L2
/-! the syntax of the operations -/
def notStar : Expr → Bool
  | .Starred _ _ => false
  | _ => true
def notSlice : Expr → Bool
  | .Slice _ _ _ _ => false
  | _ => true
def notSet : Expr → Bool
  | .Set _ _ _ => false
  | _ => true
/-- how names stand in the scope at hand: a slot's name, a global's -/
structure Sc where
  N : List PySem.Str
  kind : PySem.Str → Option NameKind
  blk : Bool
  hr : Bool
  lam : Bool
def Sc.gl (Γ : Sc) (x : PySem.Str) : Bool := decide (Γ.kind x = some .globalImplicit)
def Sc.vis (Γ : Sc) (x : PySem.Str) : Bool := match Γ.kind x with
  | some .local => true
  | some .cell => true
  | some .free => true
  | _ => false
def Sc.loc (Γ : Sc) (x : PySem.Str) : Bool := match Γ.kind x with
  | some .local => true
  | some .cell => !Γ.blk
  | _ => false
/-- a built-in's call by its name -/
def bcall (Γ : Sc) (n : PySem.Str) : Expr → Option (List Expr)
  | .Call (.Name x _) es [] _ => if x = n ∧ Γ.gl n = true ∧ es.all notStar = true then some es else none
  | _ => none
def opBin : Op → Option Operator
  | .add => some .Add
  | .sub => some .Sub
  | .mul => some .Mult
  | .fdiv => some .FloorDiv
  | .mod => some .Mod
  | .pow => some .Pow
  | _ => none
def opCmp : Op → Option CmpOp
  | .eq => some .Eq
  | .ne => some .NotEq
  | .lt => some .Lt
  | .le => some .LtE
  | .gt => some .Gt
  | .ge => some .GtE
  | .inn => some .In
  | .notIn => some .NotIn
  | _ => none
def asBin : Expr → Option (Expr × Operator × Expr)
  | .BinOp a o b _ => some (a, o, b)
  | _ => none
def asCmp : Expr → Option (Expr × CmpOp × Expr)
  | .Compare a [o] [b] _ => some (a, o, b)
  | _ => none
def asCmp2 : Expr → Option (Expr × CmpOp × Expr × CmpOp × Expr)
  | .Compare a [o1, o2] [b, c] _ => some (a, o1, b, o2, c)
  | _ => none
def asSub : Expr → Option (Expr × Expr)
  | .Subscript a b _ => some (a, b)
  | _ => none
theorem asBin_some {ex a b : Expr} {o : Operator} (h : asBin ex = some (a, o, b)) : ∃ p, ex = .BinOp a o b p := by
  cases ex <;> simp only [asBin] at h <;> first | (cases h; done) | (cases h; exact ⟨_, rfl⟩)
theorem asCmp_some {ex a b : Expr} {o : CmpOp} (h : asCmp ex = some (a, o, b)) : ∃ p, ex = .Compare a [o] [b] p := by
  unfold asCmp at h
  split at h
  · cases h; exact ⟨_, rfl⟩
  · cases h
theorem asCmp2_some {ex a b c : Expr} {o1 o2 : CmpOp} (h : asCmp2 ex = some (a, o1, b, o2, c)) : ∃ p, ex = .Compare a [o1, o2] [b, c] p := by
  unfold asCmp2 at h
  split at h
  · cases h; exact ⟨_, rfl⟩
  · cases h
theorem asSub_some {ex a b : Expr} (h : asSub ex = some (a, b)) : ∃ p, ex = .Subscript a b p := by
  unfold asSub at h
  split at h
  · cases h; exact ⟨_, rfl⟩
  · cases h
theorem bcall_some {Γ : Sc} {n : PySem.Str} {ex : Expr} {es : List Expr} (h : bcall Γ n ex = some es) : ∃ p p', ex = .Call (.Name n p) es [] p' ∧ Γ.gl n = true ∧ es.all notStar = true := by
  unfold bcall at h
  split at h
  · split at h
    · rename_i hc
      obtain ⟨rfl, h2, h3⟩ := hc
      cases h
      exact ⟨_, _, rfl, h2, h3⟩
    · cases h
  · cases h
def isNoneC : Expr → Bool
  | .Constant .none _ _ => true
  | _ => false
def isBoolC (b : Bool) : Expr → Bool
  | .Constant (.bool c) _ _ => decide (b = c)
  | _ => false
def isNm (n : PySem.Str) : Expr → Bool
  | .Name x _ => decide (x = n)
  | _ => false
def isLst0 : Expr → Bool
  | .List [] _ => true
  | _ => false
/-- the parts of an operation -/
def opSyn (Γ : Sc) (o : Op) (ex : Expr) : Option (List Expr) := match opBin o with
  | some b => match asBin ex with
    | some (x, b', y) => if b' = b then some [x, y] else none
    | none => none
  | none => match opCmp o with
    | some c => match asCmp ex with
      | some (x, c', y) => if c' = c ∧ notSet y = true then some [x, y] else none
      | none => none
    | none => match o with
      | .neg => match ex with
        | .UnaryOp .USub x _ => some [x]
        | _ => none
      | .isN => match asCmp ex with
        | some (x, c', y) => if c' = .Is ∧ isNoneC y = true then some [x] else none
        | none => none
      | .notN => match asCmp ex with
        | some (x, c', y) => if c' = .IsNot ∧ isNoneC y = true then some [x] else none
        | none => none
      | .isB b => match asCmp ex with
        | some (x, c', y) => if c' = .Is ∧ isBoolC b y = true then some [x] else none
        | none => none
      | .notB b => match asCmp ex with
        | some (x, c', y) => if c' = .IsNot ∧ isBoolC b y = true then some [x] else none
        | none => none
      | .len => (bcall Γ "len" ex).filter fun l => l.length == 1
      | .tuple => (bcall Γ "tuple" ex).filter fun l => l.length == 1
      | .list => (bcall Γ "list" ex).filter fun l => l.length == 1
      | .sorted => (bcall Γ "sorted" ex).filter fun l => l.length == 1
      | .abs => (bcall Γ "abs" ex).filter fun l => l.length == 1
      | .int => (bcall Γ "int" ex).filter fun l => l.length == 1
      | .min2 => (bcall Γ "min" ex).filter fun l => l.length == 2
      | .maxL => (bcall Γ "max" ex).filter fun l => l.length == 1
      | .minL => (bcall Γ "min" ex).filter fun l => l.length == 1
      | .all => (bcall Γ "all" ex).filter fun l => l.length == 1
      | .any => (bcall Γ "any" ex).filter fun l => l.length == 1
      | .isi .seq => match bcall Γ "isinstance" ex with
        | some [x, .Tuple [c1, c2] _ _] => if ((isNm "list" c1 && isNm "tuple" c2) || (isNm "tuple" c1 && isNm "list" c2)) = true ∧ Γ.gl "list" = true ∧ Γ.gl "tuple" = true then some [x] else none
        | _ => none
      | .isi k => match bcall Γ "isinstance" ex with
        | some [x, c] => if isNm k.nm c = true ∧ Γ.gl k.nm = true then some [x] else none
        | _ => none
      | .listRange => match bcall Γ "list" ex with
        | some [y] => (bcall Γ "range" y).filter fun l => l.length == 1 || l.length == 2
        | _ => none
      | .setSort => match bcall Γ "sorted" ex with
        | some [y] => (bcall Γ "set" y).filter fun l => l.length == 1
        | _ => none
      | .listEnum => match bcall Γ "list" ex with
        | some [y] => (bcall Γ "enumerate" y).filter fun l => l.length == 1
        | _ => none
      | .catAll => match bcall Γ "sum" ex with
        | some [x, y] => if isLst0 y = true then some [x] else none
        | _ => none
      | .idx => match asSub ex with
        | some (x, y) => if notSlice y = true then some [x, y] else none
        | none => none
      | .dget => match asSub ex with
        | some (x, y) => if notSlice y = true then some [x, y] else none
        | none => none
      | _ => none
end Q
end
/-! QSnd1 -/
section
set_option linter.all false
set_option maxRecDepth 100000
set_option maxHeartbeats 1000000
namespace Q
open PySem L2
def blts : List PySem.Str := ["len", "tuple", "list", "sorted", "abs", "int", "min", "max", "all", "any", "isinstance", "range", "enumerate", "zip", "set", "sum", "bool", "str", "dict", "repr"]
/-- what is known of the place at which one stands -/
structure XG (Γ : Sc) (W : WX) (X : Cx) : Prop where
  calm : X.calm = true
  takes : Takes X W
  nd : X.N.Nodup
  N : X.N = Γ.N
  kd : ∀ x, X.env.kindOf x = Γ.kind x
  units : X.A.units + 70 < cLine
  free : ∀ x ∈ blts, X.mg x = none
  fnc : Γ.blk = false → ∀ x, X.fn x = true
  fkind : X.env.scope.kind = .function
section
variable {Γ : Sc} {W : WX} {X : Cx} {xi : XI}
theorem XG.gl (G : XG Γ W X) {x : PySem.Str} (h : Γ.gl x = true) : Gl X x := by
  show X.env.kindOf x = _
  rw [G.kd]; exact of_decide_eq_true h
theorem XG.vis (G : XG Γ W X) {x : PySem.Str} (h : Γ.vis x = true) : Vis X.env.scope x := by
  have e : X.env.scope.names.lookup x = Γ.kind x := G.kd x
  unfold Sc.vis at h
  unfold Vis
  rw [e]
  split at h
  · rename_i q; exact .inl q
  · rename_i q; exact .inr (.inl q)
  · rename_i q; exact .inr (.inr q)
  · cases h
theorem XG.loc (G : XG Γ W X) {x : PySem.Str} (h : Γ.loc x = true) : L2.Loc X.env.scope x ∧ (X.fn x = true ∨ X.env.scope.names.lookup x = some .local) := by
  have e : X.env.scope.names.lookup x = Γ.kind x := G.kd x
  unfold Sc.loc at h
  unfold L2.Loc
  rw [e]
  split at h
  · rename_i q; exact ⟨.inl q, .inr q⟩
  · rename_i q; exact ⟨.inr q, .inl (G.fnc (by simpa using h) x)⟩
  · cases h
theorem star1 {e : Expr} {es : List Expr} {env : PySem.Env} (h : notStar e = true) : starEach (e :: es) env = (false, eval e env) :: starEach es env := by
  cases e <;> first | rfl | cases h
theorem stars {env : PySem.Env} {pos : Pos} : ∀ {es : List Expr}, es.all notStar = true → (backTo pos (starEach es env)).any (·.1) = false
  | [], _ => rfl
  | e :: es, h => by
    rw [List.all_cons, Bool.and_eq_true] at h
    rw [star1 h.1]
    have ih := stars (env := env) (pos := pos) h.2
    cases es with
    | nil => rfl
    | cons f fs =>
      rw [List.all_cons, Bool.and_eq_true] at h
      rw [star1 h.2.1] at ih ⊢
      simpa [backTo] using ih
theorem plainIx {b : Expr} (h : notSlice b = true) : PlainIx b := fun o i => by cases b <;> first | rfl | cases h
theorem noSl {b : Expr} (h : notSlice b = true) : NoSl b := fun o i => by cases b <;> first | rfl | cases h
theorem notMarks {b : Expr} (op : CmpOp) (h : notSet b = true) : behindInMarks op b = false := by cases b <;> first | rfl | cases h
/-- the parts' readings -/
abbrev evBx (call : Nat → List T → List T → Store → O T) (hear : Nat → Store → O T → O T) (e : E) : Ev := fun ρ st => orB (ownVar e ρ) st (evalE call hear e ρ st)
inductive PEBs (X : Cx) (xi : XI) (W : WX) (call : Nat → List T → List T → Store → O T) (hear : Nat → Store → O T → O T) : List Expr → List E → Prop
  | nil : PEBs X xi W call hear [] []
  | cons {x : Expr} {e : E} {xs : List Expr} {es : List E} : PE X x (tB X.K xi W (evBx call hear e)) → PEBs X xi W call hear xs es → PEBs X xi W call hear (x :: xs) (e :: es)
inductive PEEs (X : Cx) (xi : XI) (W : WX) (call : Nat → List T → List T → Store → O T) (hear : Nat → Store → O T → O T) : List Expr → List E → Prop
  | nil : PEEs X xi W call hear [] []
  | cons {x : Expr} {e : E} {xs : List Expr} {es : List E} : PE X x (tE X.K xi W (evalE call hear e)) → PEEs X xi W call hear xs es → PEEs X xi W call hear (x :: xs) (e :: es)
variable {call : Nat → List T → List T → Store → O T} {hear : Nat → Store → O T → O T}
theorem PEBs.pa : ∀ {xs : List Expr} {es : List E}, xs.all notStar = true → PEBs X xi W call hear xs es → PA X xs (tBs X.K xi W (evalBs call hear es))
  | _, _, _, .nil => PA.imp pa_nil fun σ H Q h => tBs_nil h
  | _, _, h, .cons p r => by
    rw [List.all_cons, Bool.and_eq_true] at h
    exact PA.imp (pa_cons p (r.pa h.2) (star1 h.1)) fun σ H Q q => tBs_cons q
theorem PEEs.pa : ∀ {xs : List Expr} {es : List E}, xs.all notStar = true → PEEs X xi W call hear xs es → PA X xs (tEs X.K xi W (evalEs call hear es))
  | _, _, _, .nil => PA.imp pa_nil fun σ H Q h => tEs_nil h
  | _, _, h, .cons p r => by
    rw [List.all_cons, Bool.and_eq_true] at h
    exact PA.imp (pa_cons p (r.pa h.2) (star1 h.1)) fun σ H Q q => tEs_cons q
theorem PEBs.one {x : Expr} {es : List E} (h : PEBs X xi W call hear [x] es) : ∃ e, es = [e] ∧ PE X x (tB X.K xi W (evBx call hear e)) := by
  cases h with
  | cons p r => cases r; exact ⟨_, rfl, p⟩
theorem PEBs.two {x y : Expr} {es : List E} (h : PEBs X xi W call hear [x, y] es) : ∃ e f, es = [e, f] ∧ PE X x (tB X.K xi W (evBx call hear e)) ∧ PE X y (tB X.K xi W (evBx call hear f)) := by
  cases h with
  | cons p r =>
    obtain ⟨f, rfl, q⟩ := r.one
    exact ⟨_, f, rfl, p, q⟩
/-- what an operation is shown to be -/
abbrev OpOk (X : Cx) (xi : XI) (W : WX) (call : Nat → List T → List T → Store → O T) (hear : Nat → Store → O T → O T) (o : Op) (es : List E) (ex : Expr) : Prop := PE X ex (tF X.K xi W (freshOp o) (evalE call hear (.op o es)))
theorem two_of {o : Op} {e f : E} {σ : L2.St} {H : Hp} {Q : VK} (h : tF X.K xi W (freshOp o) (evalE call hear (.op o [e, f])) σ H Q) :
    tB X.K xi W (evBx call hear e) σ H fun x H1 => tB X.K xi W (evBx call hear f) σ H1 fun y H2 => ROp X.K o [x, y] H2 Q := tBs_two (tF_op (es := evalBs call hear [e, f]) h)
theorem one_of {o : Op} {e : E} {σ : L2.St} {H : Hp} {Q : VK} (h : tF X.K xi W (freshOp o) (evalE call hear (.op o [e])) σ H Q) :
    tB X.K xi W (evBx call hear e) σ H fun x H1 => ROp X.K o [x] H1 Q := tBs_one (tF_op (es := evalBs call hear [e]) h)
theorem ok_bin {o : Op} {b : Operator} {es : List E} {x y : Expr} {p : Pos} (rule : OpR X (binaryOp b) (fun u v H Q => ROp X.K o [u, v] H Q)) (h : PEBs X xi W call hear [x, y] es) : OpOk X xi W call hear o es (.BinOp x b y p) := by
  obtain ⟨e, f, rfl, h1, h2⟩ := h.two
  exact PE.imp (pe_op rule h1 h2) fun σ H Q q => two_of q
theorem ok_cmp {o : Op} {c : CmpOp} {es : List E} {x y : Expr} {p : Pos} (rule : OpR X (compareOp c) (fun u v H Q => ROp X.K o [u, v] H Q)) (hm : behindInMarks c y = false) (h : PEBs X xi W call hear [x, y] es) : OpOk X xi W call hear o es (.Compare x [c] [y] p) := by
  obtain ⟨e, f, rfl, h1, h2⟩ := h.two
  exact PE.imp (pe_cmpR rule h1 h2 hm) fun σ H Q q => two_of q
theorem ok_call {o : Op} {n : PySem.Str} {id : String} {es : List E} {x : Expr} {xs : List Expr} {p p' : Pos} (G : XG Γ W X) (rule : CallR X (.builtin id) (fun vs H Q => ROp X.K o vs H Q)) (hg : Γ.gl n = true) (hf : n ∈ blts) (hv : bootBuiltins n = some (.builtin id))
    (hs : (x :: xs).all notStar = true) (h : PEBs X xi W call hear (x :: xs) es) (hn : n ≠ "__name__") (hd : (n == ("__debug__" : PySem.Str)) = false) : OpOk X xi W call hear o es (.Call (.Name n p) (x :: xs) [] p') := by
  have hs' := hs
  rw [List.all_cons, Bool.and_eq_true] at hs'
  exact PE.imp (pe_callB rule (G.gl hg) (G.free n hf) hv (h.pa hs) hn hd (star1 hs'.1) (stars hs'.2)) fun σ H Q q => tF_op q
theorem ok_callT {o : Op} {n : PySem.Str} {id : String} {es : List E} {x : Expr} {xs : List Expr} {p p' : Pos} (G : XG Γ W X) (rule : CallR X (.type id) (fun vs H Q => ROp X.K o vs H Q)) (hg : Γ.gl n = true) (hf : n ∈ blts) (hv : bootBuiltins n = some (.type id))
    (hs : (x :: xs).all notStar = true) (h : PEBs X xi W call hear (x :: xs) es) (hn : n ≠ "__name__") (hd : (n == ("__debug__" : PySem.Str)) = false) : OpOk X xi W call hear o es (.Call (.Name n p) (x :: xs) [] p') := by
  have hs' := hs
  rw [List.all_cons, Bool.and_eq_true] at hs'
  exact PE.imp (pe_callTy rule (G.gl hg) (G.free n hf) hv (h.pa hs) hn hd (star1 hs'.1) (stars hs'.2)) fun σ H Q q => tF_op q
end
end Q
end
/-! QSnd2 -/
section
set_option linter.all false
set_option maxRecDepth 100000
set_option maxHeartbeats 1000000
namespace Q
open PySem L2
section
variable {Γ : Sc} {W : WX} {X : Cx} {xi : XI} {call : Nat → List T → List T → Store → O T} {hear : Nat → Store → O T → O T}
theorem ROp.grow {K : PySem.W.Frag} {o : Op} {vs : List V} {H : Hp} {Q : VK} {p : Addr} {u : HO} (h : ROp K o vs H Q) (hp : H p = none) : ROp K o vs (upd H p u) Q := by
  obtain ⟨F, as, st, ts, t, hs, S, hr, e, q⟩ := h
  exact ⟨F, as, st, ts, t, sub_updR hs (sub_none hs hp), S.newOwn hp, hr.nxt (nxt_own hp), e, q.nxt (nxt_own hp)⟩
theorem isNoneC_s {y : Expr} (h : isNoneC y = true) : ∃ j p, y = .Constant .none j p := by
  unfold isNoneC at h
  split at h
  · exact ⟨_, _, rfl⟩
  · cases h
theorem isBoolC_s {b : Bool} {y : Expr} (h : isBoolC b y = true) : ∃ j p, y = .Constant (.bool b) j p := by
  unfold isBoolC at h
  split at h
  · rename_i c j p
    have e : b = c := of_decide_eq_true h
    subst e
    exact ⟨_, _, rfl⟩
  · cases h
theorem isNm_s {n : PySem.Str} {y : Expr} (h : isNm n y = true) : ∃ p, y = .Name n p := by
  unfold isNm at h
  split at h
  · rename_i x p
    have e : x = n := of_decide_eq_true h
    subst e
    exact ⟨_, rfl⟩
  · cases h
theorem ok_is {o : Op} {c : CmpOp} {es : List E} {x y : Expr} {p : Pos} {v : V} (rule : OpR X (compareOp c) (fun u w H Q => w = v ∧ ROp X.K o [u] H Q)) (hy : PE X y (tC v)) (hm : behindInMarks c y = false) (h : PEBs X xi W call hear [x] es) : OpOk X xi W call hear o es (.Compare x [c] [y] p) := by
  obtain ⟨e, rfl, h1⟩ := h.one
  refine PE.imp (pe_cmpR rule h1 hy hm) fun σ H Q q => ?_
  obtain ⟨F, as, ρ, st, S, q⟩ := one_of q
  exact ⟨F, as, ρ, st, S, q.imp fun t st' _ r => fun F' as' H' v' n s So rr => ⟨rfl, r F' as' H' v' n s So rr⟩⟩
theorem ok_isi {k : Kind} {es : List E} {x : Expr} {p p' pc : Pos} (G : XG Γ W X) (hk : k ≠ .seq) (hg : Γ.gl "isinstance" = true) (hg2 : Γ.gl k.nm = true) (hx : notStar x = true) (h : PEBs X xi W call hear [x] es) : OpOk X xi W call hear (.isi k) es (.Call (.Name "isinstance" p) [x, .Name k.nm pc] [] p') := by
  obtain ⟨e, rfl, h1⟩ := h.one
  have hb : X.mg k.nm = none := G.free _ (by cases k <;> first | (exact absurd rfl hk) | decide)
  have hc : PE X (.Name k.nm pc) (tC (.ty k.nm)) := pe_bltn (G.gl hg2) hb (by cases k <;> first | (exact absurd rfl hk) | decide +kernel) rfl (by cases k <;> decide) (by cases k <;> decide)
  refine PE.imp (pe_callB (cl_isi hk) (G.gl hg) (G.free _ (by decide)) (by decide +kernel) (pa_cons h1 (pa_cons hc pa_nil rfl) (star1 hx)) (by decide) (by decide) (star1 hx) (by rw [star1 (by rfl)]; rfl)) fun σ H Q q => ?_
  obtain ⟨F, as, ρ, st, S, q⟩ := one_of q
  exact ⟨F, as, ρ, st, S, q.imp fun t st' _ r => fun F' as' H' v' n s So rr => ⟨v', rfl, r F' as' H' v' n s So rr⟩⟩
theorem ok_isiS {c1 c2 : Kind} {es : List E} {x : Expr} {p p' p1 p2 pt : Pos} {k : Nat} (G : XG Γ W X) (hc : (c1 = .list ∧ c2 = .tuple) ∨ (c1 = .tuple ∧ c2 = .list)) (hg : Γ.gl "isinstance" = true) (hg1 : Γ.gl "list" = true) (hg2 : Γ.gl "tuple" = true) (hx : notStar x = true) (h : PEBs X xi W call hear [x] es) :
    OpOk X xi W call hear (.isi .seq) es (.Call (.Name "isinstance" p) [x, .Tuple [.Name c1.nm p1, .Name c2.nm p2] k pt] [] p') := by
  obtain ⟨e, rfl, h1⟩ := h.one
  have one : ∀ {c : Kind} {q : Pos}, c = .list ∨ c = .tuple → PE X (.Name c.nm q) (tC (.ty c.nm)) := fun {c q} hc => by
    rcases hc with rfl | rfl
    · exact pe_bltn (G.gl hg1) (G.free "list" (by decide)) (by decide +kernel) rfl (by decide) (by decide)
    · exact pe_bltn (G.gl hg2) (G.free "tuple" (by decide)) (by decide +kernel) rfl (by decide) (by decide)
  have d1 : PE X (.Name c1.nm p1) (tC (.ty c1.nm)) := one (by rcases hc with ⟨rfl, _⟩ | ⟨rfl, _⟩ <;> simp)
  have d2 : PE X (.Name c2.nm p2) (tC (.ty c2.nm)) := one (by rcases hc with ⟨_, rfl⟩ | ⟨_, rfl⟩ <;> simp)
  have dt := pe_tup (x1 := k) (pos := pt) (pa_cons d1 (pa_cons d2 pa_nil rfl) rfl)
  refine PE.imp (pe_callB (cl_isiS hc) (G.gl hg) (G.free _ (by decide)) (by decide +kernel) (pa_cons h1 (pa_cons dt pa_nil rfl) (star1 hx)) (by decide) (by decide) (star1 hx) (by rw [star1 (by rfl)]; rfl)) fun σ H Q q => ?_
  obtain ⟨F, as, ρ, st, S, q⟩ := one_of q
  exact ⟨F, as, ρ, st, S, q.imp fun t st' _ r => fun F' as' H' v' n s So rr => ⟨by show 2 ≤ sizeLine; decide, fun tp htp => ⟨v', tp, rfl, upd_same, (r F' as' H' v' n s So rr).grow htp⟩⟩⟩
theorem ok_idx {es : List E} {x y : Expr} {p : Pos} (hn : notSlice y = true) (h : PEBs X xi W call hear [x, y] es) : OpOk X xi W call hear .idx es (.Subscript x y p) := by
  obtain ⟨e, f, rfl, h1, h2⟩ := h.two
  exact PE.imp (pe_ix ix_s h1 h2 (plainIx hn)) fun σ H Q q => two_of q
theorem dget_of {K : PySem.W.Frag} {x y : V} {H : Hp} {Q : VK} (h : ROp K .dget [x, y] H Q) : ∃ a v, x = .ref a ∧ DGet H a y (some v) ∧ Q v H := by
  obtain ⟨F, as, st, ts, t, hs, S, hr, e, q⟩ := h
  obtain ⟨a, b, rfl, ha, hb⟩ := hr.two
  simp only [opEval] at e
  obtain ⟨kvs, e1, e2⟩ := Option.bind_eq_some_iff.mp e
  obtain ⟨k, e3, e4⟩ := Option.bind_eq_some_iff.mp e2
  obtain ⟨d, vs, rfl, h1, h2⟩ := viewD S hs ha e1
  have hk : y = kV k := by
    rcases hb with hb | ⟨c, _, _, _, hc⟩
    · exact hb.key e3
    · cases b <;> simp only [Cont] at hc <;> simp only [keyOf] at e3 <;> cases e3
  subst hk
  rcases h2.val k with ⟨_, z⟩ | ⟨v, u, g1, g2, g3⟩
  · rw [e4] at z; cases z
  · rw [e4] at g2; cases g2
    refine ⟨d, v, rfl, ?_, ?_⟩
    · have z := DGet.k (k := k) h1
      rw [g1] at z
      exact z
    · unfold PostF at q
      rw [show freshOp Op.dget = false from rfl, Bool.false_and] at q
      exact q _ _ _ _ (Nxt.refl F as H) hs S g3
theorem ok_dget {es : List E} {x y : Expr} {p : Pos} (hu : X.A.units + 1 < cLine) (hn : notSlice y = true) (h : PEBs X xi W call hear [x, y] es) : OpOk X xi W call hear .dget es (.Subscript x y p) := by
  obtain ⟨e, f, rfl, h1, h2⟩ := h.two
  refine PE.imp (pe_dget hu h1 h2 (noSl hn)) fun σ H Q q => ?_
  obtain ⟨F, as, ρ, st, S, q⟩ := two_of q
  refine ⟨F, as, ρ, st, S, q.imp fun t st' _ r => fun F' as' H' v' n s So rr => ?_⟩
  obtain ⟨F2, as2, ρ2, st2, S2, q2⟩ := r F' as' H' v' n s So rr
  exact ⟨F2, as2, ρ2, st2, S2, q2.imp fun t st' _ r => fun F' as' H' v' n s So rr => dget_of (r F' as' H' v' n s So rr)⟩
theorem opBin_rule {o : Op} {b : Operator} (h : opBin o = some b) : OpR X (binaryOp b) (fun u v H Q => ROp X.K o [u, v] H Q) := by
  cases o <;> simp only [opBin] at h <;> cases h
  · exact op_add_s
  · exact op_sub_s
  · exact op_mul_s
  · exact op_fdiv_s
  · exact op_mod_s
  · exact op_pow_s
theorem opCmp_rule {o : Op} {c : CmpOp} (hu : X.A.units + 70 < cLine) (h : opCmp o = some c) : OpR X (compareOp c) (fun u v H Q => ROp X.K o [u, v] H Q) := by
  cases o <;> simp only [opCmp] at h <;> cases h
  · exact op_eq_s (by omega)
  · exact op_ne_s (by omega)
  · exact op_lt_s
  · exact op_le_s
  · exact op_gt_s
  · exact op_ge_s
  · exact op_in_s (by omega)
  · exact op_notIn_s (by omega)
theorem len1 {α : Type} {l : List α} (h : (l.length == 1) = true) : ∃ x, l = [x] := by
  match l, h with
  | [x], _ => exact ⟨x, rfl⟩
theorem len2 {α : Type} {l : List α} (h : (l.length == 2) = true) : ∃ x y, l = [x, y] := by
  match l, h with
  | [x, y], _ => exact ⟨x, y, rfl⟩
theorem ok_b1 {o : Op} {n : PySem.Str} {id : String} {ex : Expr} {xs : List Expr} {es : List E} (G : XG Γ W X) (rule : CallR X (.builtin id) (fun vs H Q => ROp X.K o vs H Q)) (hf : n ∈ blts) (hv : bootBuiltins n = some (.builtin id)) (hn : n ≠ "__name__") (hd : (n == ("__debug__" : PySem.Str)) = false)
    (e : (bcall Γ n ex).filter (fun l => l.length == 1) = some xs) (h : PEBs X xi W call hear xs es) : OpOk X xi W call hear o es ex := by
  obtain ⟨l, hl⟩ := Option.filter_eq_some_iff.mp e
  obtain ⟨p, p', rfl, hg, hs⟩ := bcall_some l
  obtain ⟨x, rfl⟩ := len1 hl
  exact ok_call G rule hg hf hv hs h hn hd
theorem ok_b2 {o : Op} {n : PySem.Str} {id : String} {ex : Expr} {xs : List Expr} {es : List E} (G : XG Γ W X) (rule : CallR X (.builtin id) (fun vs H Q => ROp X.K o vs H Q)) (hf : n ∈ blts) (hv : bootBuiltins n = some (.builtin id)) (hn : n ≠ "__name__") (hd : (n == ("__debug__" : PySem.Str)) = false)
    (e : (bcall Γ n ex).filter (fun l => l.length == 2) = some xs) (h : PEBs X xi W call hear xs es) : OpOk X xi W call hear o es ex := by
  obtain ⟨l, hl⟩ := Option.filter_eq_some_iff.mp e
  obtain ⟨p, p', rfl, hg, hs⟩ := bcall_some l
  obtain ⟨x, y, rfl⟩ := len2 hl
  exact ok_call G rule hg hf hv hs h hn hd
theorem ok_t1 {o : Op} {n : PySem.Str} {id : String} {ex : Expr} {xs : List Expr} {es : List E} (G : XG Γ W X) (rule : CallR X (.type id) (fun vs H Q => ROp X.K o vs H Q)) (hf : n ∈ blts) (hv : bootBuiltins n = some (.type id)) (hn : n ≠ "__name__") (hd : (n == ("__debug__" : PySem.Str)) = false)
    (e : (bcall Γ n ex).filter (fun l => l.length == 1) = some xs) (h : PEBs X xi W call hear xs es) : OpOk X xi W call hear o es ex := by
  obtain ⟨l, hl⟩ := Option.filter_eq_some_iff.mp e
  obtain ⟨p, p', rfl, hg, hs⟩ := bcall_some l
  obtain ⟨x, rfl⟩ := len1 hl
  exact ok_callT G rule hg hf hv hs h hn hd
theorem ok_isi' {k : Kind} {ex : Expr} {xs : List Expr} {es : List E} (G : XG Γ W X) (hk : k ≠ .seq) (e : (match bcall Γ "isinstance" ex with
        | some [x, c] => if isNm k.nm c = true ∧ Γ.gl k.nm = true then some [x] else none
        | _ => none) = some xs) (h : PEBs X xi W call hear xs es) : OpOk X xi W call hear (.isi k) es ex := by
  split at e
  · rename_i x c eb
    split at e
    · rename_i hc
      cases e
      obtain ⟨p, p', rfl, hg, hs⟩ := bcall_some eb
      obtain ⟨q, rfl⟩ := isNm_s hc.1
      rw [List.all_cons, Bool.and_eq_true] at hs
      exact ok_isi G hk hg hc.2 hs.1 h
    · cases e
  · cases e
end
end Q
end
/-! QNode -/
section
set_option linter.all false
set_option maxRecDepth 100000
set_option maxHeartbeats 1000000
namespace Q
open PySem L2
section
variable {Γ : Sc} {W : WX} {X : Cx} {xi : XI} {call : Nat → List T → List T → Store → O T} {hear : Nat → Store → O T → O T}
/-- an expression: its value shared; borrowed; new lists as they are; as a test -/
abbrev SE (X : Cx) (xi : XI) (W : WX) (call : Nat → List T → List T → Store → O T) (hear : Nat → Store → O T → O T) (e : E) (ex : Expr) : Prop := PE X ex (tE X.K xi W (evalE call hear e))
abbrev SB (X : Cx) (xi : XI) (W : WX) (call : Nat → List T → List T → Store → O T) (hear : Nat → Store → O T → O T) (e : E) (ex : Expr) : Prop := PE X ex (tB X.K xi W (evBx call hear e))
abbrev SF (X : Cx) (xi : XI) (W : WX) (call : Nat → List T → List T → Store → O T) (hear : Nat → Store → O T → O T) (e : E) (ex : Expr) : Prop := PE X ex (tF X.K xi W (freshE e) (evalE call hear e))
abbrev ST (X : Cx) (xi : XI) (W : WX) (call : Nat → List T → List T → Store → O T) (hear : Nat → Store → O T → O T) (e : E) (ex : Expr) : Prop := PT X ex (tT X.K xi W (evBx call hear e))
theorem SF.se {e : E} {ex : Expr} (h : SF X xi W call hear e ex) : SE X xi W call hear e ex := PE.imp h fun σ H Q q => tE_tF q
theorem tB_tE' {e : E} {σ : L2.St} {H : Hp} {Q : VK} {K : PySem.W.Frag} (hv : ∀ ρ, ownVar e ρ = none) (h : tB K xi W (evBx call hear e) σ H Q) : tE K xi W (evalE call hear e) σ H Q := by
  obtain ⟨F, as, ρ, st, S, h⟩ := h
  refine ⟨F, as, ρ, st, S, ?_⟩
  unfold evBx at h
  rw [hv ρ] at h
  exact h.imp fun t st' _ p => p.post
theorem SE.sb {e : E} {ex : Expr} (hv : ∀ ρ, ownVar e ρ = none) (h : SE X xi W call hear e ex) : SB X xi W call hear e ex := PE.imp h fun σ H Q q => tB_tE' hv q
/-! names -/
theorem sb_var {i : Nat} {x : PySem.Str} {p : Pos} (hN : X.N[i]? = some x) (hv : Vis X.env.scope x) (hd : (x == ("__debug__" : PySem.Str)) = false) (hcd : (x == ("__classdict__" : PySem.Str)) = false) : SB X xi W call hear (.var i) (.Name x p) := by
  refine PE.imp (pe_var hN hv hd hcd) fun σ H Q h => ?_
  obtain ⟨F, as, ρ, st, S, h⟩ := h
  have h : Out X.K xi F as H σ W (orB (slotO ρ i) st (lift (slotV ρ i) st)) _ := h
  unfold slotO slotV at h
  cases e : ρ[i]? with
  | none => simp only [e, orB, lift] at h; exact h.elim
  | some sl =>
    cases sl with
    | no => simp only [e, orB, lift] at h; exact h.elim
    | val t =>
      simp only [e, orB, lift] at h
      obtain ⟨v, h1, h2⟩ := S.val i t e
      exact ⟨v, h1, h _ _ _ _ (Nxt.refl _ _ _) S.sub S.sto (.inl h2)⟩
    | own t =>
      simp only [e, orB] at h
      obtain ⟨a, h1, h2, h3, h4⟩ := S.own i t e
      exact ⟨_, h1, h _ _ _ _ (Nxt.refl _ _ _) S.sub S.sto (.inr ⟨a, rfl, h2, h3, h4⟩)⟩
theorem se_var {i : Nat} {x : PySem.Str} {p : Pos} (hN : X.N[i]? = some x) (hv : Vis X.env.scope x) (hd : (x == ("__debug__" : PySem.Str)) = false) (hcd : (x == ("__classdict__" : PySem.Str)) = false) : SE X xi W call hear (.var i) (.Name x p) := by
  refine PE.imp (pe_var hN hv hd hcd) fun σ H Q h => ?_
  obtain ⟨F, as, ρ, st, S, h⟩ := h
  have h : Out X.K xi F as H σ W (lift (slotV ρ i) st) _ := h
  unfold slotV at h
  cases e : ρ[i]? with
  | none => simp only [e, lift] at h; exact h.elim
  | some sl =>
    cases sl with
    | no => simp only [e, lift] at h; exact h.elim
    | own t => simp only [e, lift] at h; exact h.elim
    | val t =>
      simp only [e, lift] at h
      obtain ⟨v, h1, h2⟩ := S.val i t e
      exact ⟨v, h1, h _ _ _ _ (Nxt.refl _ _ _) S.sub S.sto h2⟩
/-! constants -/
theorem se_con {t : T} {v : V} {ex : Expr} (h : PE X ex (tC v)) (r : ∀ F as, Rep X.K F as v t) : SE X xi W call hear (.con t) ex := by
  refine PE.imp h fun σ H Q h => ?_
  obtain ⟨F, as, ρ, st, S, h⟩ := h
  have h : Out X.K xi F as H σ W (.ok t st) _ := h
  exact h _ _ _ _ (Nxt.refl _ _ _) S.sub S.sto (r F as)
/-! displays -/
theorem evalEs_len : ∀ {es : List E} {ρ : Env} {st st1 : Store} {ts : List T}, evalEs call hear es ρ st = .ok ts st1 → ts.length = es.length := by
  intro es
  induction es with
  | nil => intro ρ st st1 ts e; unfold evalEs at e; cases e; rfl
  | cons a as ih =>
    intro ρ st st1 ts e
    unfold evalEs at e
    cases ea : evalE call hear a ρ st with
    | ok t s1 =>
      rw [ea, O.bind_ok] at e
      cases eb : evalEs call hear as ρ s1 with
      | ok us s2 => rw [eb, O.bind_ok] at e; cases e; exact congrArg Nat.succ (ih eb)
      | ex x s2 => rw [eb] at e; cases e
      | bad => rw [eb] at e; cases e
    | ex x s2 => rw [ea] at e; cases e
    | bad => rw [ea] at e; cases e
theorem sf_tup {es : List E} {xs : List Expr} {k : Nat} {p : Pos} (h : PEEs X xi W call hear xs es) (hs : xs.all notStar = true) (hl : es.length ≤ 1000) : SF X xi W call hear (.tup es) (.Tuple xs k p) := by
  refine PE.imp (pe_tup (h.pa hs)) fun σ H Q q => ?_
  obtain ⟨F, as, ρ, st, S, q⟩ := q
  have q : Out X.K xi F as H σ W ((evalEs call hear es ρ st).bind fun ts st' => .ok (T.tup ts) st') (fun t st' => PostF (freshE (.tup es)) X.K F as H t st' Q) := q
  refine ⟨F, as, ρ, st, S, q.bind fun ts st1 e1 h1 F' as' H' vs n s So r => ?_⟩
  have hz : vs.length ≤ sizeLine := by
    have l := r.length
    rw [evalEs_len e1] at l
    rw [sizeLine_eq]
    omega
  refine ⟨hz, fun b hb => ?_⟩
  have h1 : PostF (freshE (.tup es)) X.K F as H (.tup ts) st1 Q := h1
  exact (h1.nxt n).tup s So r hz b hb
theorem sf_lst {es : List E} {xs : List Expr} {p : Pos} (h : PEEs X xi W call hear xs es) (hs : xs.all notStar = true) (hl : es.length ≤ 1000) : SF X xi W call hear (.lst es) (.List xs p) := by
  refine PE.imp (pe_lst (h.pa hs)) fun σ H Q q => ?_
  obtain ⟨F, as, ρ, st, S, q⟩ := q
  have q : Out X.K xi F as H σ W ((evalEs call hear es ρ st).bind fun ts st' => .ok (T.lst ts) st') (fun t st' => PostF true X.K F as H t st' Q) := q
  refine ⟨F, as, ρ, st, S, q.bind fun ts st1 e1 h1 F' as' H' vs n s So r => ?_⟩
  have hz : vs.length ≤ sizeLine := by
    have l := r.length
    rw [evalEs_len e1] at l
    rw [sizeLine_eq]
    omega
  refine ⟨hz, fun b hb => ?_⟩
  have h1 : PostF true X.K F as H (.lst ts) st1 Q := h1
  exact (h1.nxt n).lst s So r hz b hb
theorem sf_dic {p : Pos} : SF X xi W call hear .dic0 (.Dict [] [] p) := by
  refine PE.imp pe_dnewK fun σ H Q q => ?_
  obtain ⟨F, as, ρ, st, S, q⟩ := q
  have q : PostF true X.K F as H (.dic []) st Q := q
  exact fun p hp => q.dic S.sub S.sto p hp
/-! a slice -/
def isPart : Option Expr → List E → Prop
  | none, es => es = []
  | some _, es => ∃ e, es = [e]
/-- a part's reading -/
def tPt (K : PySem.W.Frag) (xi : XI) (W : WX) (call : Nat → List T → List T → Store → O T) (hear : Nat → Store → O T → O T) (es : List E) : TO := fun σ H Q => ∃ F as ρ st, Sim K F as ρ st σ H ∧
  Out K xi F as H σ W (evalBs call hear es ρ st) fun ts st' => match partOf ts with
    | some o => ∀ F' as' H', Nxt F as H F' as' H' → Sub F' H' → Sto K F' as' st' H' → Q o H'
    | none => False
theorem po_no : PO X none (tPt X.K xi W call hear []) := ⟨fun pins s σ H Q I h => po_none.run pins s σ H Q I (by
  obtain ⟨F, as, ρ, st, S, h⟩ := h
  exact h _ _ _ (Nxt.refl _ _ _) S.sub S.sto)⟩
theorem po_so {e : E} {ex : Expr} (he : SB X xi W call hear e ex) : PO X (some ex) (tPt X.K xi W call hear [e]) := ⟨fun pins s σ H Q I h => (po_some he).run pins s σ H Q I (by
  obtain ⟨F, as, ρ, st, S, h⟩ := h
  have h : Out X.K xi F as H σ W ((evBx call hear e ρ st).bind fun t st' => O.bind (.ok [] st') fun ts st'' => .ok (t :: ts) st'') _ := h
  refine ⟨F, as, ρ, st, S, h.bind fun t st1 _ h1 F' as' H' v n s So r => ?_⟩
  have h1 : match partOf [t] with
    | some o => ∀ F' as' H', Nxt F as H F' as' H' → Sub F' H' → Sto X.K F' as' st1 H' → Q o H'
    | none => False := h1
  cases t with
  | int i => exact ⟨i, r.int, h1 F' as' H' n s So⟩
  | _ => exact h1.elim)⟩
theorem sf_slc {a : E} {lo hi : List E} {x : Expr} {l u : Option Expr} {p p2 : Pos} (ha : SB X xi W call hear a x) (hl : PO X l (tPt X.K xi W call hear lo)) (hu : PO X u (tPt X.K xi W call hear hi)) : SF X xi W call hear (.slc a lo hi) (.Subscript x (.Slice l u none p2) p) := by
  refine PE.imp (pe_slice sl_s ha hl hu) fun σ H Q q => ?_
  obtain ⟨F, as, ρ, st, S, q⟩ := q
  have q : Out X.K xi F as H σ W ((evBx call hear a ρ st).bind fun t st1 => (evalBs call hear lo ρ st1).bind fun ls st2 => match partOf ls with
    | some l => (evalBs call hear hi ρ st2).bind fun hs st3 => match partOf hs with
      | some h => lift (slice st3 t l h) st3
      | none => .bad
    | none => .bad) (fun t st' => PostF true X.K F as H t st' Q) := q
  refine ⟨F, as, ρ, st, S, q.bind fun t st1 _ h1 F1 as1 H1 v n1 s1 So1 r1 => ?_⟩
  refine ⟨F1, as1, ρ, st1, S.nxt n1 s1 So1, ?_⟩
  refine (h1.nxt n1 fun t st' _ p => p).bind fun ls st2 _ h2 => ?_
  cases eo : partOf ls with
  | none => rw [eo] at h2; exact h2.elim
  | some o =>
    rw [eo] at h2
    intro F2 as2 H2 n2 s2 So2
    refine ⟨F2, as2, ρ, st2, S.nxt (n1.trans n2) s2 So2, ?_⟩
    refine (h2.nxt n2 fun t st' _ p => p).bind fun hs st3 _ h3 => ?_
    cases eh : partOf hs with
    | none => rw [eh] at h3; exact h3.elim
    | some o' =>
      rw [eh] at h3
      intro F3 as3 H3 n3 s3 So3
      have h3 : Out X.K xi F2 as2 H2 σ W (lift (slice st3 t o o') st3) (fun t st' => PostF true X.K F as H t st' Q) := h3
      cases es : slice st3 t o o' with
      | none => rw [es] at h3; exact h3.elim
      | some z =>
        rw [es] at h3
        have h3 : PostF true X.K F as H z st3 Q := h3
        exact ⟨F3, as3, st3, t, z, s3, So3, (r1.nxt n2).nxt n3, es, h3.nxt ((n1.trans n2).trans n3)⟩
end
end Q
end
/-! QNode2 -/
section
set_option linter.all false
set_option maxRecDepth 100000
set_option maxHeartbeats 1000000
namespace Q
open PySem L2
section
variable {Γ : Sc} {W : WX} {X : Cx} {xi : XI} {call : Nat → List T → List T → Store → O T} {hear : Nat → Store → O T → O T}
/-! and, or -/
abbrev evBop (call : Nat → List T → List T → Store → O T) (hear : Nat → Store → O T → O T) (stop : Bool) (es : List E) : Ev := fun ρ st => bopL stop (evalFs call hear es ρ) st
theorem bop_step {stop : Bool} {e f : E} {es : List E} {K : PySem.W.Frag} {σ : L2.St} {H : Hp} {Q : VK} (q : tE K xi W (evBop call hear stop (e :: f :: es)) σ H Q) :
    tE K xi W (evalE call hear e) σ H fun x H1 => ∃ k, TruV K x H1 k ∧ if k = stop then Q x H1 else tE K xi W (evBop call hear stop (f :: es)) σ H1 Q := by
  obtain ⟨F, as, ρ, st, S, q⟩ := q
  have q : Out K xi F as H σ W ((evalE call hear e ρ st).bind fun t st' => match truth st' t with
    | some b => if b = stop then .ok t st' else bopL stop (evalFs call hear (f :: es) ρ) st'
    | none => .bad) (fun t st' => Post K F as H t st' Q) := q
  refine ⟨F, as, ρ, st, S, q.bind fun t st1 _ h1 F1 as1 H1 v n s So r => ?_⟩
  cases et : truth st1 t with
  | none => rw [et] at h1; exact h1.elim
  | some b =>
    rw [et] at h1
    refine ⟨b, truV So s (.inl r) et, ?_⟩
    by_cases hb : b = stop
    · rw [if_pos hb]
      have h1 : Out K xi F as H σ W (if b = stop then .ok t st1 else bopL stop (evalFs call hear (f :: es) ρ) st1) (fun t st' => Post K F as H t st' Q) := h1
      rw [if_pos hb] at h1
      exact h1 F1 as1 H1 v n s So r
    · rw [if_neg hb]
      have h1 : Out K xi F as H σ W (if b = stop then .ok t st1 else bopL stop (evalFs call hear (f :: es) ρ) st1) (fun t st' => Post K F as H t st' Q) := h1
      rw [if_neg hb] at h1
      exact ⟨F1, as1, ρ, st1, S.nxt n s So, h1.nxt n fun t st' _ p => p.nxt n⟩
theorem se_and : ∀ {es : List E} {xs : List Expr} {p : Pos}, PEEs X xi W call hear xs es → es ≠ [] → PE X (.BoolOp .And xs p) (tE X.K xi W (evBop call hear false es))
  | _, _, _, .nil, h => absurd rfl h
  | _, _, _, .cons a .nil, _ => pe_one a
  | _, _, _, .cons a (.cons b r), _ => by
    refine PE.imp (pe_andT a (se_and (.cons b r) (fun z => nomatch z))) fun σ H Q q => ?_
    obtain ⟨F, as, ρ, st, S, q⟩ := bop_step q
    refine ⟨F, as, ρ, st, S, q.imp fun t st1 _ p F' as' H' v n s So r => ?_⟩
    obtain ⟨k, h1, h2⟩ := p F' as' H' v n s So r
    refine ⟨k, h1, ?_⟩
    cases k with
    | true => exact h2
    | false => exact h2
theorem se_or : ∀ {es : List E} {xs : List Expr} {p : Pos}, PEEs X xi W call hear xs es → es ≠ [] → PE X (.BoolOp .Or xs p) (tE X.K xi W (evBop call hear true es))
  | _, _, _, .nil, h => absurd rfl h
  | _, _, _, .cons a .nil, _ => pe_one a
  | _, _, _, .cons a (.cons b r), _ => by
    refine PE.imp (pe_orT a (se_or (.cons b r) (fun z => nomatch z))) fun σ H Q q => ?_
    obtain ⟨F, as, ρ, st, S, q⟩ := bop_step q
    refine ⟨F, as, ρ, st, S, q.imp fun t st1 _ p F' as' H' v n s So r => ?_⟩
    obtain ⟨k, h1, h2⟩ := p F' as' H' v n s So r
    refine ⟨k, h1, ?_⟩
    cases k with
    | true => exact h2
    | false => exact h2
/-! as tests -/
inductive PTEs (X : Cx) (xi : XI) (W : WX) (call : Nat → List T → List T → Store → O T) (hear : Nat → Store → O T → O T) : List Expr → List E → Prop
  | nil : PTEs X xi W call hear [] []
  | cons {x : Expr} {e : E} {xs : List Expr} {es : List E} : PT X x (tT X.K xi W (evalE call hear e)) → PTEs X xi W call hear xs es → PTEs X xi W call hear (x :: xs) (e :: es)
theorem tT_ok {ev : Ev} {K : PySem.W.Frag} {σ : L2.St} {H : Hp} {Q : Bool → Hp → Prop} (h : tT K xi W ev σ H Q) : ∃ F as ρ st, Sim K F as ρ st σ H ∧ Out K xi F as H σ W (ev ρ st) fun t st' => ∃ b, truth st' t = some b ∧ ∀ F' as' H', Nxt F as H F' as' H' → Sub F' H' → Sto K F' as' st' H' → Q b H' := by
  obtain ⟨F, as, ρ, st, S, h⟩ := h
  refine ⟨F, as, ρ, st, S, h.bind fun t st1 _ h1 => ?_⟩
  cases et : truth st1 t with
  | none => rw [et] at h1; exact h1.elim
  | some b => rw [et] at h1; exact ⟨b, rfl, h1⟩
theorem tT_of {ev : Ev} {K : PySem.W.Frag} {σ : L2.St} {H : Hp} {Q : Bool → Hp → Prop} (h : ∃ F as ρ st, Sim K F as ρ st σ H ∧ Out K xi F as H σ W (ev ρ st) fun t st' => ∃ b, truth st' t = some b ∧ ∀ F' as' H', Nxt F as H F' as' H' → Sub F' H' → Sto K F' as' st' H' → Q b H') : tT K xi W ev σ H Q := by
  obtain ⟨F, as, ρ, st, S, h⟩ := h
  refine ⟨F, as, ρ, st, S, ?_⟩
  cases ee : ev ρ st with
  | bad => rw [ee] at h; exact h.elim
  | ex x s1 => rw [ee] at h; exact h
  | ok t s1 =>
    rw [ee] at h
    obtain ⟨b, h1, h2⟩ := h
    rw [O.bind_ok, h1]
    exact h2
theorem bop_stepT {stop : Bool} {e f : E} {es : List E} {K : PySem.W.Frag} {σ : L2.St} {H : Hp} {Q : Bool → Hp → Prop} (q : tT K xi W (evBop call hear stop (e :: f :: es)) σ H Q) :
    tT K xi W (evalE call hear e) σ H fun k H1 => if k = stop then Q k H1 else tT K xi W (evBop call hear stop (f :: es)) σ H1 Q := by
  obtain ⟨F, as, ρ, st, S, q⟩ := tT_ok q
  have q : Out K xi F as H σ W ((evalE call hear e ρ st).bind fun t st' => match truth st' t with
    | some b => if b = stop then .ok t st' else bopL stop (evalFs call hear (f :: es) ρ) st'
    | none => .bad) _ := q
  refine tT_of ⟨F, as, ρ, st, S, q.bind fun t st1 _ h1 => ?_⟩
  cases et : truth st1 t with
  | none => rw [et] at h1; exact h1.elim
  | some b =>
    rw [et] at h1
    refine ⟨b, rfl, fun F1 as1 H1 n s So => ?_⟩
    by_cases hb : b = stop
    · rw [if_pos hb]
      have h1 : Out K xi F as H σ W (if b = stop then .ok t st1 else bopL stop (evalFs call hear (f :: es) ρ) st1) (fun t st' => ∃ b, truth st' t = some b ∧ ∀ F' as' H', Nxt F as H F' as' H' → Sub F' H' → Sto K F' as' st' H' → Q b H') := h1
      rw [if_pos hb] at h1
      obtain ⟨c, h2, h3⟩ := h1
      rw [et] at h2; cases h2
      exact h3 F1 as1 H1 n s So
    · rw [if_neg hb]
      have h1 : Out K xi F as H σ W (if b = stop then .ok t st1 else bopL stop (evalFs call hear (f :: es) ρ) st1) (fun t st' => ∃ b, truth st' t = some b ∧ ∀ F' as' H', Nxt F as H F' as' H' → Sub F' H' → Sto K F' as' st' H' → Q b H') := h1
      rw [if_neg hb] at h1
      exact tT_of ⟨F1, as1, ρ, st1, S.nxt n s So, h1.nxt n fun t st' _ ⟨c, h2, h3⟩ => ⟨c, h2, fun F' as' H' m => h3 F' as' H' (n.trans m)⟩⟩
theorem PW.mk' {e : Expr} {t t' : TT} (h : PW X e t) (k : ∀ σ H Q, t' σ H Q → t σ H Q) : PW X e t' := PW.imp h k
theorem tT_mono {ev : Ev} {K : PySem.W.Frag} {σ : L2.St} {H : Hp} {Q Q' : Bool → Hp → Prop} (h : tT K xi W ev σ H Q) (k : ∀ b H1, Q b H1 → Q' b H1) : tT K xi W ev σ H Q' := by
  obtain ⟨F, as, ρ, st, S, h⟩ := h
  exact ⟨F, as, ρ, st, S, h.imp fun b st' _ p F' as' H' n s So => k _ _ (p F' as' H' n s So)⟩
theorem st_and : ∀ {es : List E} {xs : List Expr} {p : Pos}, PTEs X xi W call hear xs es → es ≠ [] → PW X (.BoolOp .And xs p) (tT X.K xi W (evBop call hear false es))
  | _, _, _, .nil, h => absurd rfl h
  | _, _, _, .cons a .nil, _ => pw_and1 a
  | _, _, _, .cons a (.cons b r), _ => PW.imp (pw_and a (st_and (.cons b r) (fun z => nomatch z))) fun σ H Q q => tT_mono (bop_stepT q) fun k H1 h => by
    cases k with
    | true => exact h
    | false => exact h
theorem st_or : ∀ {es : List E} {xs : List Expr} {p : Pos}, PTEs X xi W call hear xs es → es ≠ [] → PW X (.BoolOp .Or xs p) (tT X.K xi W (evBop call hear true es))
  | _, _, _, .nil, h => absurd rfl h
  | _, _, _, .cons a .nil, _ => pw_or1 a
  | _, _, _, .cons a (.cons b r), _ => PW.imp (pw_or a (st_or (.cons b r) (fun z => nomatch z))) fun σ H Q q => tT_mono (bop_stepT q) fun k H1 h => by
    cases k with
    | true => exact h
    | false => exact h
/-! not, if else -/
theorem se_not {e : E} {ex : Expr} {p : Pos} (h : SB X xi W call hear e ex) : SE X xi W call hear (.not e) (.UnaryOp .Not ex p) := by
  refine PE.imp (pe_notT h) fun σ H Q q => ?_
  obtain ⟨F, as, ρ, st, S, q⟩ := q
  have q : Out X.K xi F as H σ W ((evBx call hear e ρ st).bind fun t st' => match truth st' t with
    | some b => .ok (.bl (!b)) st'
    | none => .bad) (fun t st' => Post X.K F as H t st' Q) := q
  refine ⟨F, as, ρ, st, S, q.bind fun t st1 _ h1 F1 as1 H1 v n s So r => ?_⟩
  cases et : truth st1 t with
  | none => rw [et] at h1; exact h1.elim
  | some b =>
    rw [et] at h1
    exact ⟨b, truV So s r et, h1 F1 as1 H1 _ n s So (.bl _)⟩
theorem st_not {e : E} {ex : Expr} {p : Pos} (h : ST X xi W call hear e ex) : PT X (.UnaryOp .Not ex p) (tT X.K xi W (evalE call hear (.not e))) := by
  refine PT.imp (pt_not h) fun σ H Q q => ?_
  obtain ⟨F, as, ρ, st, S, q⟩ := tT_ok q
  have q : Out X.K xi F as H σ W ((evBx call hear e ρ st).bind fun t st' => match truth st' t with
    | some b => .ok (T.bl (!b)) st'
    | none => .bad) (fun t st' => ∃ b, truth st' t = some b ∧ ∀ F' as' H', Nxt F as H F' as' H' → Sub F' H' → Sto X.K F' as' st' H' → Q b H') := q
  refine tT_of ⟨F, as, ρ, st, S, q.bind fun t st1 _ h1 => ?_⟩
  cases et : truth st1 t with
  | none => rw [et] at h1; exact h1.elim
  | some b =>
    rw [et] at h1
    obtain ⟨c, h2, h3⟩ := h1
    cases h2
    exact ⟨b, rfl, h3⟩
theorem se_ite {c a b : E} {x y z : Expr} {p : Pos} (hc : ST X xi W call hear c x) (ha : SE X xi W call hear a y) (hb : SE X xi W call hear b z) : SE X xi W call hear (.ite c a b) (.IfExp x y z p) := by
  refine PE.imp (pe_ifExp hc ha hb) fun σ H Q q => ?_
  obtain ⟨F, as, ρ, st, S, q⟩ := q
  have q : Out X.K xi F as H σ W ((evBx call hear c ρ st).bind fun t st' => match truth st' t with
    | some true => evalE call hear a ρ st'
    | some false => evalE call hear b ρ st'
    | none => .bad) (fun t st' => Post X.K F as H t st' Q) := q
  refine tT_of ⟨F, as, ρ, st, S, q.bind fun t st1 _ h1 => ?_⟩
  cases et : truth st1 t with
  | none => rw [et] at h1; exact h1.elim
  | some b =>
    rw [et] at h1
    refine ⟨b, rfl, fun F1 as1 H1 n s So => ?_⟩
    cases b with
    | true => exact ⟨F1, as1, ρ, st1, S.nxt n s So, Out.nxt h1 n fun t st' _ p => p.nxt n⟩
    | false => exact ⟨F1, as1, ρ, st1, S.nxt n s So, Out.nxt h1 n fun t st' _ p => p.nxt n⟩
/-! a comparison chain -/
theorem chn_in {o1 o2 : Op} {a b c : E} {K : PySem.W.Frag} {σ : L2.St} {H : Hp} {Q : VK} (f1 : freshOp o1 = false) (f2 : freshOp o2 = false) (h : tE K xi W (evalE call hear (.chn o1 o2 a b c)) σ H Q) :
    tChain (fun u v H Q => ROp K o1 [u, v] H Q) (fun u v H Q => ROp K o2 [u, v] H Q) (tE K xi W (evalE call hear a)) (tE K xi W (evalE call hear b)) (tE K xi W (evalE call hear c)) σ H Q := by
  obtain ⟨F, as, ρ, st, S, q⟩ := h
  have q : Out K xi F as H σ W ((evalE call hear a ρ st).bind fun x st1 => (evalE call hear b ρ st1).bind fun y st2 => match opEval st2 o1 [x, y] with
    | some (.bl true) => (evalE call hear c ρ st2).bind fun z st3 => lift (opEval st3 o2 [y, z]) st3
    | some (.bl false) => .ok (.bl false) st2
    | _ => .bad) (fun t st' => Post K F as H t st' Q) := q
  refine ⟨F, as, ρ, st, S, q.bind fun x st1 _ h1 F1 as1 H1 v n1 s1 So1 r1 => ?_⟩
  refine ⟨F1, as1, ρ, st1, S.nxt n1 s1 So1, (h1.nxt n1 fun t st' _ p => p).bind fun y st2 _ h2 F2 as2 H2 u n2 s2 So2 r2 => ?_⟩
  have key : ∀ k, opEval st2 o1 [x, y] = some (.bl k) → ROp K o1 [v, u] H2 fun z H3 => ∃ k, z = .bl k ∧ (if k = true then tE K xi W (evalE call hear c) σ H3 (fun w' H4 => ROp K o2 [u, w'] H4 Q) else Q (.bl false) H3) := fun k e => by
    refine ⟨F2, as2, st2, [x, y], .bl k, s2, So2, ⟨.inl (r1.mono n2.ff n2.pre), .inl r2, True.intro⟩, e, ?_⟩
    unfold PostF
    rw [f1, Bool.false_and]
    intro F3 as3 H3 z n3 s3 So3 r3
    cases r3
    refine ⟨k, rfl, ?_⟩
    cases k with
    | false =>
      rw [if_neg Bool.false_ne_true]
      have h2' : Out K xi F1 as1 H1 σ W (match opEval st2 o1 [x, y] with
        | some (.bl true) => (evalE call hear c ρ st2).bind fun z st3 => lift (opEval st3 o2 [y, z]) st3
        | some (.bl false) => .ok (.bl false) st2
        | _ => .bad) (fun t st' => Post K F as H t st' Q) := h2
      rw [e] at h2'
      exact h2' F3 as3 H3 _ ((n1.trans n2).trans n3) s3 So3 (.bl _)
    | true =>
      rw [if_pos rfl]
      have h2' : Out K xi F1 as1 H1 σ W (match opEval st2 o1 [x, y] with
        | some (.bl true) => (evalE call hear c ρ st2).bind fun z st3 => lift (opEval st3 o2 [y, z]) st3
        | some (.bl false) => .ok (.bl false) st2
        | _ => .bad) (fun t st' => Post K F as H t st' Q) := h2
      rw [e] at h2'
      have h2' : Out K xi F1 as1 H1 σ W ((evalE call hear c ρ st2).bind fun z st3 => lift (opEval st3 o2 [y, z]) st3) (fun t st' => Post K F as H t st' Q) := h2'
      refine ⟨F3, as3, ρ, st2, S.nxt ((n1.trans n2).trans n3) s3 So3, (h2'.nxt (n2.trans n3) fun t st' _ p => p).bind fun z st3 _ h3 F4 as4 H4 w' n4 s4 So4 r4 => ?_⟩
      cases e2 : opEval st3 o2 [y, z] with
      | none => rw [e2] at h3; exact h3.elim
      | some t =>
        rw [e2] at h3
        have m := n3.trans n4
        refine ⟨F4, as4, st3, [y, z], t, s4, So4, ⟨.inl (r2.mono m.ff m.pre), .inl r4, True.intro⟩, e2, ?_⟩
        unfold PostF
        rw [f2, Bool.false_and]
        have h3 : Post K F as H t st3 Q := h3
        exact h3.nxt ((n1.trans n2).trans m)
  have h2' : Out K xi F1 as1 H1 σ W (match opEval st2 o1 [x, y] with
    | some (.bl true) => (evalE call hear c ρ st2).bind fun z st3 => lift (opEval st3 o2 [y, z]) st3
    | some (.bl false) => .ok (.bl false) st2
    | _ => .bad) (fun t st' => Post K F as H t st' Q) := h2
  cases e : opEval st2 o1 [x, y] with
  | none => rw [e] at h2'; exact h2'.elim
  | some z =>
    rw [e] at h2'
    cases z with
    | bl k => exact key k e
    | _ => exact h2'.elim
theorem se_chn {o1 o2 : Op} {c1 c2 : CmpOp} {a b c : E} {x y z : Expr} {p : Pos} (hu : X.A.units + 70 < cLine) (k1 : opCmp o1 = some c1) (k2 : opCmp o2 = some c2) (f1 : freshOp o1 = false) (f2 : freshOp o2 = false) (hm : lastMarks [c1, c2] [y, z] = false)
    (ha : SE X xi W call hear a x) (hb : SE X xi W call hear b y) (hc : SE X xi W call hear c z) : SE X xi W call hear (.chn o1 o2 a b c) (.Compare x [c1, c2] [y, z] p) :=
  PE.imp (pe_chain (opCmp_rule hu k1) (opCmp_rule hu k2) ha hb hc hm) fun σ H Q q => chn_in f1 f2 q
/-! tests of values that are bools -/
theorem tT_b {ev : Ev} {K : PySem.W.Frag} (hb : ∀ ρ st t st', ev ρ st = .ok t st' → ∃ b, t = .bl b) {σ : L2.St} {H : Hp} {Q : Bool → Hp → Prop} (h : tT K xi W ev σ H Q) : tE K xi W ev σ H fun x H' => ∃ k, x = .bl k ∧ Q k H' := by
  obtain ⟨F, as, ρ, st, S, h⟩ := tT_ok h
  refine ⟨F, as, ρ, st, S, h.imp fun t st1 e ⟨b, h1, h2⟩ F' as' H' v n s So r => ?_⟩
  obtain ⟨c, rfl⟩ := hb ρ st t st1 e
  cases h1
  cases r
  exact ⟨_, rfl, h2 F' as' H' n s So⟩
theorem st_chn {o1 o2 : Op} {c1 c2 : CmpOp} {a b c : E} {x y z : Expr} {p : Pos} (hu : X.A.units + 70 < cLine) (k1 : opCmp o1 = some c1) (k2 : opCmp o2 = some c2) (f1 : freshOp o1 = false) (f2 : freshOp o2 = false) (hm : lastMarks [c1, c2] [y, z] = false)
    (hb' : ∀ ρ st t st', evalE call hear (.chn o1 o2 a b c) ρ st = .ok t st' → ∃ b, t = .bl b)
    (ha : SE X xi W call hear a x) (hb : SE X xi W call hear b y) (hc : SE X xi W call hear c z) : PT X (.Compare x [c1, c2] [y, z] p) (tT X.K xi W (evalE call hear (.chn o1 o2 a b c))) :=
  PT.imp (pt_chain (opCmp_rule hu k1) (opCmp_rule hu k2) ha hb hc hm) fun σ H Q q => chn_in f1 f2 (tT_b hb' q)
theorem st_val {e : E} {ex : Expr} (h : SB X xi W call hear e ex) (he : ∀ whole, isTrue ex X.env whole = (do let v ← whole; standAt ex.pos; holding [v] (truthy v))) : ST X xi W call hear e ex := by
  refine PT.imp (pt_truth h he) fun σ H Q q => ?_
  obtain ⟨F, as, ρ, st, S, q⟩ := tT_ok q
  refine ⟨F, as, ρ, st, S, q.imp fun t st1 _ ⟨b, h1, h2⟩ F' as' H' v n s So r => ?_⟩
  exact ⟨b, truV So s r h1, h2 F' as' H' n s So⟩
end
end Q
end
/-! QIter -/
section
set_option linter.all false
set_option maxRecDepth 100000
set_option maxHeartbeats 1000000
namespace Q
open PySem L2
theorem PI.imp {X : Cx} {tg e : Expr} {t t' : TI} (h : PI X tg e t) (k : ∀ σ H R, t' σ H R → t σ H R) : PI X tg e t' := ⟨fun pins s σ H R I q => h.run pins s σ H R I (k σ H R q)⟩
theorem PI.or {X : Cx} {tg e : Expr} {t t' : TI} (h : PI X tg e t) (h' : PI X tg e t') : PI X tg e (fun σ H Q => t σ H Q ∨ t' σ H Q) := ⟨fun pins s σ H Q I q => q.elim (h.run pins s σ H Q I) (h'.run pins s σ H Q I)⟩
/-- the heaps in which a source stays: those that come later; those that keep what is frozen -/
abbrev GR := Hp → List Addr → Hp → Hp → List Addr → Hp → Prop
def gC : GR := Nxt
def gF : GR := fun F as _ F' as' _ => Sub F F' ∧ Pre as as'
/-- an iteration gives the items xs -/
def ItOk (K : PySem.W.Frag) (g : Hp → List Addr → Hp → Prop) (J : It) (xs : List T) : Prop := ∀ F as H st, g F as H → Sub F H → Sto K F as st H → ∀ i,
  (i < xs.length → J.go i H ∧ ∀ x H', J.yld i H x H' → ∃ F', Nxt F as H F' as H' ∧ Sub F' H' ∧ Sto K F' as st H' ∧ ∃ t, xs[i]? = some t ∧ Rep K F' as x t) ∧ (xs.length ≤ i → J.stop i H)
def isTupT : T → Bool
  | .tup _ => true
  | _ => false
/-- a source: where its items stand, as long as g -/
def Kp (K : PySem.W.Frag) (g : Hp → List Addr → Hp → Prop) (v : V) (t : T) : Prop := ∀ xs, plainSeq t = some xs → ∃ a vs, v = .ref a ∧ vs.length ≤ sizeLine ∧
  ∀ F as H, g F as H → Sub F H → (if isTupT t then SqT K H a vs else SqL K H a vs) ∧ Reps K F as vs xs
section
variable {K : PySem.W.Frag} {F : Hp} {as : List Addr} {H : Hp} {st : Store}
theorem kp_rep {g : Hp → List Addr → Hp → Prop} {v : V} {t : T} (hg : ∀ F' as' H', g F' as' H' → Sub F F' ∧ Pre as as') (r : Rep K F as v t) : Kp K g v t := by
  intro xs e
  cases r <;> simp only [plainSeq, Option.some.injEq] at e <;> try cases e
  case tup a vs h l r => exact ⟨a, vs, rfl, l, fun F' as' H' q s => ⟨(Sub.trans (hg _ _ _ q).1 s).sqT h, r.mono (hg _ _ _ q).1 (hg _ _ _ q).2⟩⟩
  case lst a vs h l r => exact ⟨a, vs, rfl, l, fun F' as' H' q s => ⟨SqL.of ((Sub.trans (hg _ _ _ q).1 s) _ _ h), r.mono (hg _ _ _ q).1 (hg _ _ _ q).2⟩⟩
  case scr a vs h l r => exact ⟨a, vs, rfl, l, fun F' as' H' q s => ⟨(Sub.trans (hg _ _ _ q).1 s).sqL h, r.mono (hg _ _ _ q).1 (hg _ _ _ q).2⟩⟩
theorem kp_F {v : V} {t : T} (r : Rep K F as v t) : Kp K (gF F as H) v t := kp_rep (fun _ _ _ q => q) r
theorem kp_C {v : V} {t : T} (r : RepB K F as H v t) : Kp K (gC F as H) v t := by
  rcases r with r | ⟨a, rfl, h1, h2, c⟩
  · exact kp_rep (fun _ _ _ q => ⟨q.ff, q.pre⟩) r
  · intro xs e
    cases t <;> simp only [Cont] at c <;> simp only [plainSeq, Option.some.injEq] at e <;> try cases e
    obtain ⟨vs, q1, q2, q3⟩ := c
    exact ⟨a, vs, rfl, q2, fun F' as' H' n s => ⟨SqL.of (n.keep _ _ q1 (fun _ z => nomatch z) h2), q3.mono n.ff n.pre⟩⟩
theorem SqL_inj {K : PySem.W.Frag} {H : Hp} {a : Addr} : True := trivial
section
variable {g : Hp → List Addr → Hp → Prop}
theorem itok_list {a : Addr} {vs : List V} {xs : List T} (h : ∀ F as H, g F as H → Sub F H → SqL K H a vs ∧ Reps K F as vs xs) : ItOk K g (Itl K a) xs := by
  intro F as H st q s So i
  obtain ⟨h1, h2⟩ := h F as H q s
  have hl := h2.length
  refine ⟨fun hi => ?_, fun hi => ⟨vs, h1, by omega⟩⟩
  have hi' : i < vs.length := by omega
  refine ⟨⟨vs, vs[i], h1, List.getElem?_eq_getElem hi'⟩, fun x H' y => ?_⟩
  obtain ⟨rfl, y⟩ := y
  obtain ⟨t, e, r⟩ := h2.getV (y vs h1)
  exact ⟨F, Nxt.refl _ _ _, s, So, t, e, r⟩
theorem itok_tup {a : Addr} {vs : List V} {xs : List T} (h : ∀ F as H, g F as H → Sub F H → SqT K H a vs ∧ Reps K F as vs xs) : ItOk K g (Itt K a) xs := by
  intro F as H st q s So i
  obtain ⟨h1, h2⟩ := h F as H q s
  have hl := h2.length
  refine ⟨fun hi => ?_, fun hi => ⟨vs, h1, by omega⟩⟩
  have hi' : i < vs.length := by omega
  refine ⟨⟨vs, vs[i], h1, List.getElem?_eq_getElem hi'⟩, fun x H' y => ?_⟩
  obtain ⟨rfl, y⟩ := y
  obtain ⟨t, e, r⟩ := h2.getV (y vs h1)
  exact ⟨F, Nxt.refl _ _ _, s, So, t, e, r⟩
theorem itok_rng (lo : Int) (n : Nat) : ItOk K g (Itr lo n) ((List.range n).map fun (i : Nat) => T.int (lo + i)) := by
  intro F as H st q s So i
  refine ⟨fun hi => ?_, fun hi => ?_⟩
  · have hi' : i < n := by simpa using hi
    refine ⟨hi', fun x H' y => ?_⟩
    obtain ⟨rfl, rfl⟩ := y
    refine ⟨F, Nxt.refl _ _ _, s, So, .int (lo + i), ?_, .int _⟩
    simp [hi']
  · show n ≤ i
    simpa using hi
theorem itok_pair {J : It} {xs : List T} (h : ∀ F as H st, g F as H → Sub F H → Sto K F as st H → ∀ i, (i < xs.length → J.go i H ∧ ∀ x H', J.yld i H x H' → ∃ p v w t u, x = .ref p ∧ H p = none ∧ H' = upd H p (.tup [v, w]) ∧ Rep K F as v t ∧ Rep K F as w u ∧ xs[i]? = some (.tup [t, u])) ∧ (xs.length ≤ i → J.stop i H)) : ItOk K g J xs := by
  intro F as H st q s So i
  obtain ⟨h1, h2⟩ := h F as H st q s So i
  refine ⟨fun hi => ⟨(h1 hi).1, fun x H' y => ?_⟩, h2⟩
  obtain ⟨p, v, w, t, u, rfl, hp, rfl, r1, r2, e⟩ := (h1 hi).2 x H' y
  have n := nxt_new (as := as) (o := .tup [v, w]) s hp
  exact ⟨_, n, sub_upd2 s, So.new s hp, _, e, .tup (SqT.of upd_same) (by show 2 ≤ sizeLine; decide) (.cons (r1.mono n.ff n.pre) (.cons (r2.mono n.ff n.pre) .nil))⟩
theorem itok_enum {a : Addr} {vs : List V} {xs : List T} (h : ∀ F as H, g F as H → Sub F H → SqL K H a vs ∧ Reps K F as vs xs) : ItOk K g (Ite K a) (xs.mapIdx fun i x => .tup [.int i, x]) := by
  refine itok_pair fun F as H st q s So i => ?_
  obtain ⟨h1, h2⟩ := h F as H q s
  have hl := h2.length
  rw [List.length_mapIdx]
  refine ⟨fun hi => ?_, fun hi => ⟨vs, h1, by omega⟩⟩
  have hi' : i < vs.length := by omega
  refine ⟨⟨vs, vs[i], h1, List.getElem?_eq_getElem hi'⟩, fun x H' y => ?_⟩
  obtain ⟨p, w, rfl, hp, rfl, y⟩ := y
  obtain ⟨t, e, r⟩ := h2.getV (y vs h1)
  exact ⟨p, _, w, .int i, t, rfl, hp, rfl, .int _, r, by simp [e]⟩
theorem itok_zip {a b : Addr} {vs ws : List V} {xs ys : List T} (h : ∀ F as H, g F as H → Sub F H → SqL K H a vs ∧ Reps K F as vs xs) (h' : ∀ F as H, g F as H → Sub F H → SqL K H b ws ∧ Reps K F as ws ys) : ItOk K g (Itz K a b) ((xs.zip ys).map fun p => .tup [p.1, p.2]) := by
  refine itok_pair fun F as H st q s So i => ?_
  obtain ⟨h1, h2⟩ := h F as H q s
  obtain ⟨k1, k2⟩ := h' F as H q s
  have hl := h2.length
  have kl := k2.length
  rw [List.length_map, List.length_zip]
  refine ⟨fun hi => ?_, fun hi => ⟨vs, ws, h1, k1, by omega⟩⟩
  have hi' : i < vs.length := by omega
  have ki' : i < ws.length := by omega
  refine ⟨⟨vs, ws, vs[i], ws[i], h1, k1, List.getElem?_eq_getElem hi', List.getElem?_eq_getElem ki'⟩, fun x H' y => ?_⟩
  obtain ⟨p, v, w, rfl, hp, rfl, y1, y2⟩ := y
  obtain ⟨t, e, r⟩ := h2.getV (y1 vs h1)
  obtain ⟨u, e2, r2⟩ := k2.getV (y2 ws k1)
  refine ⟨p, v, w, t, u, rfl, hp, rfl, r, r2, ?_⟩
  rw [List.getElem?_map]
  have : (xs.zip ys)[i]? = some (t, u) := List.getElem?_zip_eq_some.mpr ⟨e, e2⟩
  rw [this]; rfl
end
end
end Q
end
/-! QPI -/
section
set_option linter.all false
set_option maxRecDepth 100000
set_option maxHeartbeats 1000000
namespace Q
open PySem L2
section
variable {Γ : Sc} {W : WX} {X : Cx} {xi : XI} {call : Nat → List T → List T → Store → O T} {hear : Nat → Store → O T → O T}
/-- an iterable's reading -/
def iQ (K : PySem.W.Frag) (xi : XI) (W : WX) (g : GR) (k : ItK) (ev : Evs) : TI := fun σ H R => ∃ F as ρ st, Sim K F as ρ st σ H ∧ Out K xi F as H σ W (ev ρ st) fun ts st1 => match itEval k ts with
  | some xs => ∀ F' as' H' J, Nxt F as H F' as' H' → Sub F' H' → Sto K F' as' st1 H' → ItOk K (g F' as' H') J xs → xs.length ≤ sizeLine → R J H'
  | none => False
/-- one source: its evaluation as a value's reading -/
def ev1 (ev : Ev) : Evs := fun ρ st => (ev ρ st).bind fun t st' => O.bind (.ok [] st') fun ts st'' => .ok (t :: ts) st''
def ev2 (e f : Ev) : Evs := fun ρ st => (e ρ st).bind fun t st' => ((f ρ st').bind fun t st'' => O.bind (.ok [] st'') fun ts st3 => .ok (t :: ts) st3).bind fun ts st'' => .ok (t :: ts) st''
/-- what holds of the values of a reading: shared (tE, gF); borrowed (tB, gC) -/
structure Mode (K : PySem.W.Frag) (xi : XI) (W : WX) (g : GR) (R : Hp → List Addr → Hp → V → T → Prop) (tM : Ev → TE) : Prop where
  kp : ∀ {F as H v t}, R F as H v t → Kp K (g F as H) v t
  int : ∀ {F as H v i}, R F as H v (.int i) → v = .int i
  nxt : ∀ {F as H F' as' H' v t}, R F as H v t → Nxt F as H F' as' H' → R F' as' H' v t
  self : ∀ F as H, g F as H F as H
  to : ∀ {ev : Ev} {σ : L2.St} {H : Hp} {Q : VK}, (∃ F as ρ st, Sim K F as ρ st σ H ∧ Out K xi F as H σ W (ev ρ st) fun t st' => ∀ F' as' H' v, Nxt F as H F' as' H' → Sub F' H' → Sto K F' as' st' H' → R F' as' H' v t → Q v H') → tM ev σ H Q
theorem modeF {K : PySem.W.Frag} : Mode K xi W gF (fun F as _ v t => Rep K F as v t) (tE K xi W) where
  kp := fun r => kp_F r
  int := fun r => by cases r; rfl
  nxt := fun r n => r.mono n.ff n.pre
  self := fun F as H => ⟨Sub.refl F, Pre.refl as⟩
  to := fun h => h
theorem modeC {K : PySem.W.Frag} : Mode K xi W gC (fun F as H v t => RepB K F as H v t) (tB K xi W) where
  kp := fun r => kp_C r
  int := fun r => r.int
  nxt := fun r n => r.nxt n
  self := fun F as H => Nxt.refl F as H
  to := fun h => h
section
variable {g : GR} {R : Hp → List Addr → Hp → V → T → Prop} {tM : Ev → TE} {tg : Expr}
theorem iq1 {K : PySem.W.Frag} {k : ItK} {ev : Ev} {σ : L2.St} {H : Hp} {Q : It → Hp → Prop} (h : iQ K xi W g k (ev1 ev) σ H Q) : ∃ F as ρ st, Sim K F as ρ st σ H ∧ Out K xi F as H σ W (ev ρ st) fun t st1 => match itEval k [t] with
  | some xs => ∀ F' as' H' J, Nxt F as H F' as' H' → Sub F' H' → Sto K F' as' st1 H' → ItOk K (g F' as' H') J xs → xs.length ≤ sizeLine → Q J H'
  | none => False := by
  obtain ⟨F, as, ρ, st, S, h⟩ := h
  exact ⟨F, as, ρ, st, S, Out.bind h fun t st1 _ h1 => h1⟩
/-- for .. in a list or a tuple -/
theorem pi_seq {ev : Ev} {l : Expr} (M : Mode X.K xi W g R tM) (h : PE X l (tM ev)) : PI X tg l (iQ X.K xi W g .seq (ev1 ev)) := by
  refine PI.imp (PI.or (pi_list h) (pi_tup h)) fun σ H Q q => ?_
  obtain ⟨F, as, ρ, st, S, q⟩ := iq1 q
  by_cases hd : ∃ xs st1, ev ρ st = .ok (.tup xs) st1
  · obtain ⟨ys, st1, ey⟩ := hd
    refine .inr (M.to ⟨F, as, ρ, st, S, q.imp fun t st2 e p F' as' H' v n s So r => ?_⟩)
    rw [ey] at e; cases e
    obtain ⟨a, vs, rfl, hl, hk⟩ := M.kp r ys rfl
    exact ⟨a, rfl, ⟨vs, (hk _ _ _ (M.self _ _ _) s).1⟩, p F' as' H' _ n s So (itok_tup fun F2 as2 H2 q2 s2 => hk F2 as2 H2 q2 s2) (by rw [← (hk _ _ _ (M.self _ _ _) s).2.length]; exact hl)⟩
  · refine .inl (M.to ⟨F, as, ρ, st, S, q.imp fun t st2 e p F' as' H' v n s So r => ?_⟩)
    have ht : isTupT t = false := by
      cases t <;> first | rfl | exact absurd ⟨_, _, e⟩ hd
    cases ex : plainSeq t with
    | none =>
      have p : match plainSeq t with
        | some xs => ∀ F' as' H' J, Nxt F as H F' as' H' → Sub F' H' → Sto X.K F' as' st2 H' → ItOk X.K (g F' as' H') J xs → xs.length ≤ sizeLine → Q J H'
        | none => False := p
      rw [ex] at p; exact p.elim
    | some xs =>
      have p : match plainSeq t with
        | some xs => ∀ F' as' H' J, Nxt F as H F' as' H' → Sub F' H' → Sto X.K F' as' st2 H' → ItOk X.K (g F' as' H') J xs → xs.length ≤ sizeLine → Q J H'
        | none => False := p
      rw [ex] at p
      obtain ⟨a, vs, rfl, hl, hk⟩ := M.kp r xs ex
      simp only [ht, Bool.false_eq_true, if_false] at hk
      exact ⟨a, rfl, ⟨vs, (hk _ _ _ (M.self _ _ _) s).1⟩, p F' as' H' _ n s So (itok_list fun F2 as2 H2 q2 s2 => hk F2 as2 H2 q2 s2) (by rw [← (hk _ _ _ (M.self _ _ _) s).2.length]; exact hl)⟩
theorem to1 {ev : Ev} {σ : L2.St} {H : Hp} {Q : List V → Hp → Prop} (M : Mode X.K xi W g R tM) {P : T → Store → Hp → List Addr → Hp → Prop} (h : ∃ F as ρ st, Sim X.K F as ρ st σ H ∧ Out X.K xi F as H σ W (ev ρ st) fun t st' => ∀ F' as' H' v, Nxt F as H F' as' H' → Sub F' H' → Sto X.K F' as' st' H' → R F' as' H' v t → Q [v] H') : tCons (tM ev) tNil σ H Q := M.to h
/-- for .. in range(n) -/
theorem pi_rng1 {ev : Ev} {a : Expr} {p pos : Pos} (M : Mode X.K xi W g R tM) (G : XG Γ W X) (hg : Γ.gl "range" = true) (hs : notStar a = true) (h : PE X a (tM ev)) : PI X tg (.Call (.Name "range" p) [a] [] pos) (iQ X.K xi W g .rng1 (ev1 ev)) := by
  refine PI.imp (pi_range1 (G.gl hg) (G.free _ (by decide)) (pa_cons h pa_nil (star1 hs)) (star1 hs)) fun σ H Q q => ?_
  obtain ⟨F, as, ρ, st, S, q⟩ := iq1 q
  refine M.to ⟨F, as, ρ, st, S, q.imp fun t st2 e p F' as' H' v n s So r => ?_⟩
  cases t with
  | int i =>
    have p : match (if -1000000 ≤ i ∧ i ≤ 1000000 then some ((List.range i.toNat).map fun (i : Nat) => T.int i) else none) with
      | some xs => ∀ F' as' H' J, Nxt F as H F' as' H' → Sub F' H' → Sto X.K F' as' st2 H' → ItOk X.K (g F' as' H') J xs → xs.length ≤ sizeLine → Q J H'
      | none => False := p
    have ev := M.int r
    subst ev
    by_cases hi : -1000000 ≤ i ∧ i ≤ 1000000
    · rw [if_pos hi] at p
      refine ⟨i, rfl, by omega, by omega, p F' as' H' _ n s So ?_ (by rw [List.length_map, List.length_range, sizeLine_eq]; omega)⟩
      have z := itok_rng (K := X.K) (g := g F' as' H') 0 i.toNat
      simpa using z
    · rw [if_neg hi] at p
      exact p.elim
  | _ => exact p.elim
theorem iq2 {K : PySem.W.Frag} {k : ItK} {e1 e2 : Ev} {σ : L2.St} {H : Hp} {Q : It → Hp → Prop} (M : Mode K xi W g R tM) {Z : V → V → Hp → Prop} (h : iQ K xi W g k (ev2 e1 e2) σ H Q)
    (hz : ∀ F as H t u st xs v w, itEval k [t, u] = some xs → (∀ F' as' H' J, Nxt F as H F' as' H' → Sub F' H' → Sto K F' as' st H' → ItOk K (g F' as' H') J xs → xs.length ≤ sizeLine → Q J H') → Sub F H → Sto K F as st H → R F as H v t → R F as H w u → Z v w H) :
    tM e1 σ H fun v H1 => tM e2 σ H1 fun w H2 => Z v w H2 := by
  obtain ⟨F, as, ρ, st, S, h⟩ := h
  refine M.to ⟨F, as, ρ, st, S, Out.bind h fun t st1 _ h1 F1 as1 H1 v n1 s1 So1 r1 => ?_⟩
  have h1 : Out K xi F as H σ W (((e2 ρ st1).bind fun t st'' => O.bind (.ok [] st'') fun ts st3 => .ok (t :: ts) st3).bind fun ts st'' => .ok (t :: ts) st'') (fun ts st1 => match itEval k ts with
    | some xs => ∀ F' as' H' J, Nxt F as H F' as' H' → Sub F' H' → Sto K F' as' st1 H' → ItOk K (g F' as' H') J xs → xs.length ≤ sizeLine → Q J H'
    | none => False) := h1
  have h2 : Out K xi F as H σ W (e2 ρ st1) (fun u st2 => match itEval k [t, u] with
    | some xs => ∀ F' as' H' J, Nxt F as H F' as' H' → Sub F' H' → Sto K F' as' st2 H' → ItOk K (g F' as' H') J xs → xs.length ≤ sizeLine → Q J H'
    | none => False) := Out.bind (Out.bind h1 fun _ _ _ h2 => h2) fun _ _ _ h3 => h3
  refine M.to ⟨F1, as1, ρ, st1, S.nxt n1 s1 So1, h2.nxt n1 fun u st2 _ p F2 as2 H2 w n2 s2 So2 r2 => ?_⟩
  cases ex : itEval k [t, u] with
  | none => rw [ex] at p; exact p.elim
  | some xs =>
    rw [ex] at p
    exact hz F2 as2 H2 t u st2 xs v w ex (fun F' as' H' J m => p F' as' H' J ((n1.trans n2).trans m)) s2 So2 (M.nxt r1 n2) r2
/-- for .. in range(a, b) -/
theorem pi_rng2 {e1 e2 : Ev} {a b : Expr} {p pos : Pos} (M : Mode X.K xi W g R tM) (G : XG Γ W X) (hg : Γ.gl "range" = true) (hs : notStar a = true) (hs2 : notStar b = true) (h : PE X a (tM e1)) (h2 : PE X b (tM e2)) : PI X tg (.Call (.Name "range" p) [a, b] [] pos) (iQ X.K xi W g .rng2 (ev2 e1 e2)) := by
  refine PI.imp (pi_range2 (G.gl hg) (G.free _ (by decide)) (pa_cons h (pa_cons h2 pa_nil (star1 hs2)) (star1 hs)) (by rw [star1 hs, star1 hs2]; rfl) (star1 hs2)) fun σ H Q q => ?_
  refine iq2 M q fun F as H t u st xs v w e p s So r1 r2 => ?_
  obtain ⟨i, rfl⟩ : ∃ i, t = .int i := by cases t <;> first | exact ⟨_, rfl⟩ | (simp only [itEval] at e; cases e)
  obtain ⟨j, rfl⟩ : ∃ i, u = .int i := by cases u <;> first | exact ⟨_, rfl⟩ | (simp only [itEval] at e; cases e)
  simp only [itEval] at e
  have hv := M.int r1
  have hw := M.int r2
  subst hv hw
  by_cases hi : (-1000000 ≤ i ∧ i ≤ 1000000) ∧ (-1000000 ≤ j ∧ j ≤ 1000000)
  · rw [if_pos hi] at e
    cases e
    exact ⟨i, j, rfl, by omega, p F as H _ (Nxt.refl _ _ _) s So (itok_rng i (j - i).toNat) (by rw [List.length_map, List.length_range, sizeLine_eq]; omega)⟩
  · rw [if_neg hi] at e; cases e
theorem kp_lst {K : PySem.W.Frag} {g : Hp → List Addr → Hp → Prop} {v : V} {t : T} {xs : List T} (h : Kp K g v t) (e : plainLst t = some xs) : ∃ a vs, v = .ref a ∧ vs.length ≤ sizeLine ∧ ∀ F as H, g F as H → Sub F H → SqL K H a vs ∧ Reps K F as vs xs := by
  cases t <;> simp only [plainLst, Option.some.injEq] at e <;> try cases e
  obtain ⟨a, vs, h1, h2, h3⟩ := h xs rfl
  exact ⟨a, vs, h1, h2, fun F as H q s => h3 F as H q s⟩
theorem pi_zip' {e1 e2 : Ev} {a b : Expr} {p pos tp : Pos} {elts : List Expr} {kk : Nat} (M : Mode X.K xi W g R tM) (G : XG Γ W X) (hg : Γ.gl "zip" = true) (hs : notStar a = true) (hs2 : notStar b = true) (h : PE X a (tM e1)) (h2 : PE X b (tM e2)) :
    PI X (.Tuple elts kk tp) (.Call (.Name "zip" p) [a, b] [] pos) (iQ X.K xi W g .zip (ev2 e1 e2)) := by
  refine PI.imp (pi_zip (G.gl hg) (G.free _ (by decide)) (pa_cons h (pa_cons h2 pa_nil (star1 hs2)) (star1 hs)) (star1 hs) (by rw [star1 hs2]; rfl)) fun σ H Q q => ?_
  refine iq2 M q fun F as H t u st xs v w e p s So r1 r2 => ?_
  have e : ((plainLst t).bind fun xs => (plainLst u).map fun ys => (xs.zip ys).map fun p => T.tup [p.1, p.2]) = some xs := e
  obtain ⟨ys, e1, e2⟩ := Option.bind_eq_some_iff.mp e
  obtain ⟨zs, e3, e4⟩ := Option.map_eq_some_iff.mp e2
  subst e4
  obtain ⟨d, vs, rfl, l1, k1⟩ := kp_lst (M.kp r1) e1
  obtain ⟨d2, ws, rfl, l2, k2⟩ := kp_lst (M.kp r2) e3
  exact ⟨d, d2, vs, ws, rfl, (k1 _ _ _ (M.self _ _ _) s).1, (k2 _ _ _ (M.self _ _ _) s).1, p F as H _ (Nxt.refl _ _ _) s So (itok_zip k1 k2) (by
    have z := (k1 _ _ _ (M.self _ _ _) s).2.length
    rw [List.length_map, List.length_zip]
    omega)⟩
end
end
end Q
end
/-! QEnumT -/
section
set_option linter.all false
set_option maxRecDepth 100000
set_option maxHeartbeats 1000000
namespace Q
open PySem PySem.Spec PyProof.Rows L2
set_option maxHeartbeats 2000000 in
theorem meets_enum_new1 {v : Value} {o : Obj} {H : Heap → Prop} (B : Begins v o H) :
    Meets (Builtin.«enumerate.__new__» ⟨[.type "enumerate", v], []⟩) (fun _ R s => H s.heap ∧
      R (.ok (.ret (.ref (s.heap.push o).objs.size))) { s with heap := (s.heap.push o).push { cls := .type "enumerate", data := .fields #[.none, .bool false, .ref s.heap.objs.size, rawInt 0, .none, .none] } }) :=
  .of_wp fun prog w A R s h => by
    obtain ⟨hp, g, d, tk, os⟩ := s
    obtain ⟨h1, h⟩ := h
    have hsub := sub_enumerate
    have q1 : ∀ {A' : Around} {E : Value → Shared → Prop} {Q : Value → Shared → Prop}, Q (.ref hp.objs.size) ⟨hp.push o, g, d, tk, os⟩ → wpAny (model prog w) A' (pyIter v) Q E ⟨hp, g, d, tk, os⟩ :=
      fun q => B.iter prog w _ _ ⟨hp, g, d, tk, os⟩ _ h1 q
    wp_walk using q1
    refine wpAny_stack_any fun st => wpAny_pure ?_
    split
    · rename_i c _ _ _ _ _
      cases (c == Value.type "enumerate")
      · wp_walk using q1
        exact ⟨_, rfl, h⟩
      · wp_walk using q1
        exact ⟨_, rfl, h⟩
    · wp_walk using q1
      exact ⟨_, rfl, h⟩
section
variable {prog : Program} {w : World} {A : Around} {E : Value → Shared → Prop} {s : Shared}
theorem enum_begins1 {v : Value} {o : Obj} {H : Heap → Prop} {Q : Value → Shared → Prop} (B : Begins v o H) (h1 : H s.heap)
    (h : ∀ h', IsEnum h' (s.heap.objs.size + 1) s.heap.objs.size 0 .none → h'.get? s.heap.objs.size = some o → h'.objs.size = s.heap.objs.size + 2 →
      (∀ b o, s.heap.get? b = some o → h'.get? b = some o) → Q (.ref (s.heap.objs.size + 1)) { s with heap := h' }) :
    wpAny (model prog w) A (call (.type "enumerate") [v]) Q E s := by
  refine callType_new F.called_enumerate (by decide) (F.typeCall_enumerate_1 _) (F.newCall_enumerate_1 _) (fun obj => F.args_object_init_2 obj _) F.entry_enumerate_new
    (meets_enum_new1 B) ⟨h1, ?_⟩
  have hz : (s.heap.push o).objs.size = s.heap.objs.size + 1 := Heap.size_push ..
  show _ ∧ _
  rw [hz]
  have he : IsEnum ((s.heap.push o).push { cls := .type "enumerate", data := .fields #[.none, .bool false, .ref s.heap.objs.size, rawInt 0, .none, .none] }) (s.heap.objs.size + 1) s.heap.objs.size 0 .none := by
    have := Heap.get?_push_size (s.heap.push o) (o := { cls := .type "enumerate", data := .fields #[.none, .bool false, .ref s.heap.objs.size, rawInt 0, .none, .none] }) rfl
    rw [hz] at this; exact this
  exact ⟨⟨_, he, rfl⟩, h _ he (Heap.get?_push_of_some _ (Heap.get?_push_size _ B.free)) (by rw [Heap.size_push, hz]) fun b o x => Heap.get?_push_of_some _ (Heap.get?_push_of_some _ x)⟩
end
/-- enumerate over the tuple at a -/
def IteT (K : PySem.W.Frag) (a : Addr) : It :=
  ⟨fun i H => ∃ (xs : List V) (x : V), SqT K H a xs ∧ xs[i]? = some x, fun i H v H' => ∃ T x, v = .ref T ∧ H T = none ∧ H' = upd H T (.tup [.int (i : Nat), x]) ∧ ∀ xs, SqT K H a xs → xs[i]? = some x, fun i H => ∃ xs : List V, SqT K H a xs ∧ xs.length ≤ i⟩
theorem turn_enumT {P : Program} {w : World} {K : PySem.W.Frag} {elts : List Expr} {kk : Nat} {tpos : Pos} (a e it : Addr) :
    Turn P w K (.Tuple elts kk tpos) (IteT K a) [e, it] e (fun i h => (∃ old, IsEnum h e it ((i : Nat) : Int) old) ∧ h.IsTupleIter it a i ∧ e ≠ it) where
  mem := by simp
  obj := fun i h st b hb => by
    obtain ⟨⟨old, he⟩, ⟨o, ho, hc, hd⟩, _⟩ := st
    have e' : b = e ∨ b = it := by simpa using hb
    rcases e' with z | z
    · rw [z]; exact ⟨_, he, fun v q => nomatch q⟩
    · rw [z]; exact ⟨o, ho, fun v q => by rw [hd] at q; cases q⟩
  keep := fun i h h' st k => let ⟨⟨old, he⟩, hi, hne⟩ := st; ⟨⟨old, k e (by simp) _ he⟩, hi.at fun o q => k it (by simp) o q, hne⟩
  item := by
    intro X hP hw hK hc i pins s σ H E I hf st hg
    subst hP hw hK
    obtain ⟨⟨old, he⟩, hit, hne⟩ := st
    obtain ⟨xs, x, hq, hx⟩ := hg
    obtain ⟨its, rv, p, hz⟩ := I.tuple hq
    obtain ⟨u, hu, ru⟩ := rv.get hx
    have hel : e < s.heap.objs.size := Heap.lt_size he
    have hil : it < s.heap.objs.size := by obtain ⟨_, q, _⟩ := hit; exact Heap.lt_size q
    have hT0 : s.heap.IsTuple a its.toArray := p
    have na : a ≠ it := fun z => by
      obtain ⟨o, h1, h2, _⟩ := id hT0
      obtain ⟨o', h1', h2', h3'⟩ := id hit
      rw [z, h1'] at h1; cases h1
      rw [h2'] at h2
      exact absurd h2 (by decide)
    have ni : e ∉ [it, a] := fun hm => by
      have z : e = it ∨ e = a := by simpa using hm
      rcases z with z | z
      · exact hne z
      · obtain ⟨o, h1, h2, _⟩ := id hT0
        rw [← z, he] at h1; cases h1
        exact absurd (show Value.type "enumerate" = Value.type "tuple" from h2) (by decide)
    have hu' : its.toArray[i]? = some u := by simpa using hu
    refine wpAny_pyNext_enum_itemD (Draws.tuple (prog := X.prog) (w := X.w) (A := X.A.in1) (show X.A.in1.handled = none from I.ok.hd hc) it a na its.toArray) he ⟨hit, hT0⟩ (by
      have := (Array.getElem?_eq_some_iff.mp hu').1; exact this) hne ni fun y h' tk hy ho hit' hT hsz hk => ?_
    have ey : y = u := by rw [hu'] at hy; exact (Option.some.inj hy).symm
    subst ey
    refine ⟨_, rfl, wpAny_letOwnedTupleGo_enum (s := { s with heap := h', toks := tk + 1 }) ho fun h'' he' sb => ?_⟩
    have hT2 : h''.get? s.heap.objs.size = some { cls := .type "tuple", data := .seq #[.int i tk, y] } := (sb.2 _ (Nat.ne_of_gt hel)).trans hT
    have new : ObjOk X.prog X.w (upd H s.heap.objs.size (.tup [.int (i : Nat), x])) h'' s.heap.objs.size (.tup [.int (i : Nat), x]) :=
      ⟨by show 2 ≤ sizeLine; decide, [.int i tk, y], .cons ⟨_, rfl⟩ (.cons ru .nil), ⟨_, hT2, rfl, _, rfl⟩⟩
    have I1 : Inv X pins σ (upd H s.heap.objs.size (.tup [.int (i : Nat), x])) { s with heap := h'', toks := tk + 1 } :=
      I.turnedNew (ch := [e, it]) (fun b ob hb q => (sb.2 b (fun z => hb (by simp [z]))).trans (hk b ob (fun z => hb (by simp [z])) (fun z => hb (by simp [z])) q)) hf (Nat.le_refl _) new
    refine ⟨.ref s.heap.objs.size, _, I1, rfl, ⟨_, x, rfl, I.hok.fresh (Nat.le_refl _), rfl, fun ys hy => by rw [I.tuple_inj hy hq]; exact hx⟩, ⟨⟨y, ?_⟩, hit'.1.at fun o q => (sb.2 it (Ne.symm hne)).trans q, hne⟩, fun b hb => ?_⟩
    · have e1 : ((i + 1 : Nat) : Int) = (i : Int) + 1 := by omega
      rw [e1]; exact he'
    · have hb' : b < s.heap.objs.size := by
        have e' : b = e ∨ b = it := by simpa using hb
        rcases e' with z | z
        · rw [z]; exact hel
        · rw [z]; exact hil
      rw [upd_ne (Nat.ne_of_lt hb')]
      exact (hf b hb).1
  done := by
    intro X hP hw hK hc i pins s σ H E I hf st hg
    subst hP hw hK
    obtain ⟨⟨old, he⟩, hit, hne⟩ := st
    obtain ⟨xs, hq, hx⟩ := hg
    obtain ⟨its, rv, p, hz⟩ := I.tuple hq
    obtain ⟨f0, f1, f2, f3, f4, f5⟩ := hf it (by simp)
    have hl := rv.length
    have hT0 : s.heap.IsTuple a its.toArray := p
    have hT : s.TypeIs (.ref e) "enumerate" := ⟨_, he, rfl⟩
    unfold pyNext
    refine wpAny_bind (wpAny_attempt (wpAny_callSpecial?_slot (name := Str.ofString "__next__") hT F.slot_enumerate_next
      (wpAny_call_entry F.slot_enumerate_next hT F.entry_enumerate_next ?_ (F.args_enumerate_next_1 _))))
    show wpAny _ _ (field (.ref e) 2 >>= _) _ _ _
    refine wpAny_bind (wpAny_field he rfl (x := .ref it) rfl ?_)
    refine wpAny_bind (RZ.nextOf_tuple_end (I.ok.hd hc) hit hT0 (by simp; omega) fun h' x he' hx' => ?_)
    obtain ⟨o, ho, hc'⟩ := hx'
    refine wpAny_bind (wpAny_isInstance (T := "StopIteration") (b := true) ⟨o, ho, hc'⟩ isSubtype_stop ?_)
    exact wpAny_pure ⟨rfl, I.turned (t' := s.toks) (fun b o hb q => he' b o hb q) f0 f1 f3 f4 f5⟩
  self := fun A i s Q E st h => let ⟨⟨_, he⟩, _⟩ := st; wpAny_pyIter_enum he h
def iEnumT (K : PySem.W.Frag) (ta : TA) : TI := fun σ H R => ta σ H fun vs H1 => ∃ a xs, vs = [.ref a] ∧ SqT K H1 a xs ∧ R (IteT K a) H1
theorem pi_enumT {X : Cx} {e : Expr} {ta : TA} {p pos tpos : Pos} {elts : List Expr} {kk : Nat} (hg : Gl X "enumerate") (hm : X.mg "enumerate" = none) (ha : PA X [e] ta) (hs : starEach [e] X.env = [(false, eval e X.env)] := by rfl) :
    PI X (.Tuple elts kk tpos) (.Call (.Name "enumerate" p) [e] [] pos) (iEnumT X.K ta) := by
  refine ⟨fun pins s σ H R I h => ?_⟩
  refine Call_ (ld_blt I hg hm boot_enumerate (PyProof.Rows.callWith_type1 (thn (ha.run pos pins s σ H _ I h) fun us s1 ⟨vs, H1, I1, r1, q1⟩ => ?_) hs rfl))
  obtain ⟨a, xs, ex, hq, q⟩ := q1
  subst ex
  cases r1 with
  | cons r rr =>
    cases rr
    cases r
    obtain ⟨its, rv, p', hz⟩ := I1.tuple hq
    refine enum_begins1 (begins_tuple a its.toArray) p' fun h' he hit hsz hk => wpAny_pyIter_enum he ?_
    have I2 : Inv X pins σ H1 { s1 with heap := h' } := I1.kept (t' := s1.toks) hk
    refine ⟨s1.heap.objs.size + 1, [s1.heap.objs.size + 1, s1.heap.objs.size], _, _, H1, rfl, I2, turn_enumT a (s1.heap.objs.size + 1) s1.heap.objs.size, ⟨⟨.none, he⟩, ⟨_, hit, rfl, rfl⟩, Nat.succ_ne_self _⟩, fun b hb => ?_, q⟩
    have e' : b = s1.heap.objs.size + 1 ∨ b = s1.heap.objs.size := by simpa using hb
    have hle : s1.heap.objs.size ≤ b := by
      rcases e' with z | z
      · rw [z]; exact Nat.le_add_right _ _
      · rw [z]; exact Nat.le_refl _
    exact I1.fpOk hle (I1.hok.fresh hle)
section
variable {K : PySem.W.Frag} {g : Hp → List Addr → Hp → Prop}
theorem itok_enumT {a : Addr} {vs : List V} {xs : List T} (h : ∀ F as H, g F as H → Sub F H → SqT K H a vs ∧ Reps K F as vs xs) : ItOk K g (IteT K a) (xs.mapIdx fun i x => .tup [.int i, x]) := by
  refine itok_pair fun F as H st q s So i => ?_
  obtain ⟨h1, h2⟩ := h F as H q s
  have hl := h2.length
  rw [List.length_mapIdx]
  refine ⟨fun hi => ?_, fun hi => ⟨vs, h1, by omega⟩⟩
  have hi' : i < vs.length := by omega
  refine ⟨⟨vs, vs[i], h1, List.getElem?_eq_getElem hi'⟩, fun x H' y => ?_⟩
  obtain ⟨p, w, rfl, hp, rfl, y⟩ := y
  obtain ⟨t, e, r⟩ := h2.getV (y vs h1)
  exact ⟨p, _, w, .int i, t, rfl, hp, rfl, .int _, r, by simp [e]⟩
end
section
variable {Γ : Sc} {W : WX} {X : Cx} {xi : XI} {g : GR} {R : Hp → List Addr → Hp → V → T → Prop} {tM : Ev → TE}
theorem pi_en {ev : Ev} {l : Expr} {p pos tp : Pos} {elts : List Expr} {kk : Nat} (M : Mode X.K xi W g R tM) (G : XG Γ W X) (hg : Γ.gl "enumerate" = true) (hs : notStar l = true) (h : PE X l (tM ev)) :
    PI X (.Tuple elts kk tp) (.Call (.Name "enumerate" p) [l] [] pos) (iQ X.K xi W g .enum (ev1 ev)) := by
  refine PI.imp (PI.or (pi_enum (G.gl hg) (G.free _ (by decide)) (pa_cons h pa_nil (star1 hs)) (star1 hs)) (pi_enumT (G.gl hg) (G.free _ (by decide)) (pa_cons h pa_nil (star1 hs)) (star1 hs))) fun σ H Q q => ?_
  obtain ⟨F, as, ρ, st, S, q⟩ := iq1 q
  by_cases hd : ∃ xs st1, ev ρ st = .ok (.tup xs) st1
  · obtain ⟨ys, st1, ey⟩ := hd
    refine .inr (M.to ⟨F, as, ρ, st, S, q.imp fun t st2 e p F' as' H' v n s So r => ?_⟩)
    rw [ey] at e; cases e
    obtain ⟨a, vs, rfl, hl, hk⟩ := M.kp r ys rfl
    exact ⟨a, vs, rfl, (hk _ _ _ (M.self _ _ _) s).1, p F' as' H' _ n s So (itok_enumT fun F2 as2 H2 q2 s2 => hk F2 as2 H2 q2 s2) (by rw [List.length_mapIdx, ← (hk _ _ _ (M.self _ _ _) s).2.length]; exact hl)⟩
  · refine .inl (M.to ⟨F, as, ρ, st, S, q.imp fun t st2 e p F' as' H' v n s So r => ?_⟩)
    have ht : isTupT t = false := by
      cases t <;> first | rfl | exact absurd ⟨_, _, e⟩ hd
    have p : match (plainSeq t).map fun xs => xs.mapIdx fun i x => T.tup [.int i, x] with
      | some xs => ∀ F' as' H' J, Nxt F as H F' as' H' → Sub F' H' → Sto X.K F' as' st2 H' → ItOk X.K (g F' as' H') J xs → xs.length ≤ sizeLine → Q J H'
      | none => False := p
    cases ex : plainSeq t with
    | none => rw [ex] at p; exact p.elim
    | some xs =>
      rw [ex] at p
      obtain ⟨a, vs, rfl, hl, hk⟩ := M.kp r xs ex
      simp only [ht, Bool.false_eq_true, if_false] at hk
      exact ⟨a, vs, rfl, (hk _ _ _ (M.self _ _ _) s).1, p F' as' H' _ n s So (itok_enum fun F2 as2 H2 q2 s2 => hk F2 as2 H2 q2 s2) (by rw [List.length_mapIdx, ← (hk _ _ _ (M.self _ _ _) s).2.length]; exact hl)⟩
end
end Q
end
/-! QTgt -/
section
set_option linter.all false
set_option maxRecDepth 100000
set_option maxHeartbeats 1000000
namespace Q
open PySem L2
mutual
def Tg.slots : Tg → List Nat
  | .nm i => [i]
  | .tp ts => slotsL ts
def slotsL : List Tg → List Nat
  | [] => []
  | t :: ts => t.slots ++ slotsL ts
end
mutual
def tgG (K : PySem.W.Frag) : Tg → TG
  | .nm i => gName i
  | .tp ts => gTup K ts.length (tgGs K ts)
def tgGs (K : PySem.W.Frag) : List Tg → TGs
  | [] => gNil
  | t :: ts => gCons (tgG K t) (tgGs K ts)
end
def asTup : Expr → Option (List Expr)
  | .Tuple es _ _ => some es
  | _ => none
def asNm : Expr → Option PySem.Str
  | .Name x _ => some x
  | _ => none
theorem asTup_some {e : Expr} {es : List Expr} (h : asTup e = some es) : ∃ k p, e = .Tuple es k p := by
  unfold asTup at h
  split at h
  · cases h; exact ⟨_, _, rfl⟩
  · cases h
theorem asNm_some {e : Expr} {x : PySem.Str} (h : asNm e = some x) : ∃ p, e = .Name x p := by
  unfold asNm at h
  split at h
  · cases h; exact ⟨_, rfl⟩
  · cases h
mutual
def chkTg (Γ : Sc) : Tg → Expr → Bool
  | .nm i, e => match asNm e with
    | some x => decide (Γ.N[i]? = some x) && Γ.loc x
    | none => false
  | .tp ts, e => match asTup e with
    | some es => chkTgs Γ ts es
    | none => false
def chkTgs (Γ : Sc) : List Tg → List Expr → Bool
  | [], [] => true
  | t :: ts, e :: es => notStar e && chkTg Γ t e && chkTgs Γ ts es
  | _, _ => false
end
section
variable {Γ : Sc} {W : WX} {X : Cx}
theorem eachOne {e : Expr} {es : List Expr} {env : PySem.Env} (h : notStar e = true) : assignEach (e :: es) env = (false, PySem.assign e env) :: assignEach es env := by cases e <;> first | rfl | cases h
theorem chkTgs_len : ∀ {ts : List Tg} {es : List Expr}, chkTgs Γ ts es = true → es.length = ts.length ∧ es.all notStar = true
  | [], [], _ => ⟨rfl, rfl⟩
  | t :: ts, e :: es, h => by
    unfold chkTgs at h
    rw [Bool.and_eq_true, Bool.and_eq_true] at h
    obtain ⟨h1, h2⟩ := chkTgs_len h.2
    exact ⟨congrArg Nat.succ h1, by rw [List.all_cons, h.1.1, h2]; rfl⟩
theorem each_len {env : PySem.Env} : ∀ {es : List Expr}, es.all notStar = true → (assignEach es env).length = es.length ∧ (assignEach es env).findIdx? (·.1) = none
  | [], _ => ⟨rfl, rfl⟩
  | e :: es, h => by
    rw [List.all_cons, Bool.and_eq_true] at h
    rw [eachOne h.1]
    obtain ⟨h1, h2⟩ := each_len (env := env) h.2
    refine ⟨congrArg Nat.succ h1, ?_⟩
    rw [List.findIdx?_cons]
    simp [h2]
mutual
theorem pg_tg (G : XG Γ W X) : ∀ {t : Tg} {e : Expr}, chkTg Γ t e = true → PG X e (tgG X.K t)
  | .nm i, e, h => by
    unfold chkTg at h
    split at h
    · rename_i x ex
      rw [Bool.and_eq_true] at h
      obtain ⟨p, rfl⟩ := asNm_some ex
      obtain ⟨h1, h2⟩ := G.loc h.2
      exact pg_name G.nd (by rw [G.N]; exact of_decide_eq_true h.1) h1 h2
    · cases h
  | .tp ts, e, h => by
    unfold chkTg at h
    split at h
    · rename_i es ex
      obtain ⟨k, p, rfl⟩ := asTup_some ex
      obtain ⟨h1, h2⟩ := chkTgs_len h
      obtain ⟨h3, h4⟩ := each_len (env := X.env) h2
      exact pg_tup G.calm (pgs_tg G h) (h3.trans h1) h4
    · cases h
theorem pgs_tg (G : XG Γ W X) : ∀ {ts : List Tg} {es : List Expr}, chkTgs Γ ts es = true → PGs X es (tgGs X.K ts)
  | [], [], _ => pgs_nil
  | t :: ts, e :: es, h => by
    unfold chkTgs at h
    rw [Bool.and_eq_true, Bool.and_eq_true] at h
    exact pgs_cons (pg_tg G h.1.2) (pgs_tg G h.2) (by rw [eachOne h.1.1]; rfl)
  | [], _ :: _, h => by unfold chkTgs at h; cases h
  | _ :: _, [], h => by unfold chkTgs at h; cases h
end
end
/-- the frame but the slots of U -/
structure SimU (U : Nat → Prop) (K : PySem.W.Frag) (F : Hp) (as : List Addr) (ρ : Env) (st : Store) (σ : L2.St) (H : Hp) : Prop where
  sub : Sub F H
  sto : Sto K F as st H
  len : ρ.length = σ.length
  val : ∀ (i : Nat) (t : T), ¬ U i → ρ[i]? = some (.val t) → ∃ v, σ[i]? = some (some v) ∧ Rep K F as v t
  own : ∀ (i : Nat) (t : T), ¬ U i → ρ[i]? = some (.own t) → ∃ a, σ[i]? = some (some (.ref a)) ∧ F a = none ∧ a ∉ as ∧ Cont K F as H a t
  inj : ∀ (i j : Nat) (t u : T) (a : Addr), ¬ U i → ¬ U j → ρ[i]? = some (.own t) → ρ[j]? = some (.own u) → σ[i]? = some (some (.ref a)) → σ[j]? = some (some (.ref a)) → i = j
section
variable {K : PySem.W.Frag} {F : Hp} {as : List Addr} {ρ : Env} {st : Store} {σ σ' : L2.St} {H : Hp} {U : Nat → Prop}
theorem Sim.u (S : Sim K F as ρ st σ H) (hl : σ'.length = σ.length) (h : ∀ i, ¬ U i → σ'[i]? = σ[i]?) : SimU U K F as ρ st σ' H where
  sub := S.sub
  sto := S.sto
  len := S.len.trans hl.symm
  val := fun i t u e => by rw [h i u]; exact S.val i t e
  own := fun i t u e => by rw [h i u]; exact S.own i t e
  inj := fun i j t u a ui uj e1 e2 e3 e4 => S.inj i j t u a e1 e2 ((h i ui).symm.trans e3) ((h j uj).symm.trans e4)
theorem SimU.sim (S : SimU U K F as ρ st σ H) (h : ∀ i, ¬ U i) : Sim K F as ρ st σ H where
  sub := S.sub
  sto := S.sto
  len := S.len
  val := fun i t e => S.val i t (h i) e
  own := fun i t e => S.own i t (h i) e
  inj := fun i j t u a e1 e2 e3 e4 => S.inj i j t u a (h i) (h j) e1 e2 e3 e4
theorem SimU.set {v : V} {t : T} {i : Nat} (S : SimU U K F as ρ st σ H) (hi : i < ρ.length) (r : Rep K F as v t) : SimU (fun j => U j ∧ j ≠ i) K F as (ρ.set i (.val t)) st (σ.set i (some v)) H where
  sub := S.sub
  sto := S.sto
  len := by rw [List.length_set, List.length_set]; exact S.len
  val := fun j u n e => by
    by_cases hj : i = j
    · subst hj
      rw [List.getElem?_set_self hi] at e
      cases e
      exact ⟨v, List.getElem?_set_self (by rw [← S.len]; exact hi), r⟩
    · rw [List.getElem?_set_ne hj] at e ⊢
      exact S.val j u (fun q => n ⟨q, Ne.symm hj⟩) e
  own := fun j u n e => by
    by_cases hj : i = j
    · subst hj
      rw [List.getElem?_set_self hi] at e
      cases e
    · rw [List.getElem?_set_ne hj] at e ⊢
      exact S.own j u (fun q => n ⟨q, Ne.symm hj⟩) e
  inj := fun j k t u a nj nk e1 e2 e3 e4 => by
    have hj : i ≠ j := fun q => by subst q; rw [List.getElem?_set_self hi] at e1; cases e1
    have hk : i ≠ k := fun q => by subst q; rw [List.getElem?_set_self hi] at e2; cases e2
    rw [List.getElem?_set_ne hj] at e1 e3
    rw [List.getElem?_set_ne hk] at e2 e4
    exact S.inj j k t u a (fun q => nj ⟨q, Ne.symm hj⟩) (fun q => nk ⟨q, Ne.symm hk⟩) e1 e2 e3 e4
theorem SimU.weak {U' : Nat → Prop} (S : SimU U K F as ρ st σ H) (h : ∀ i, U i → U' i) : SimU U' K F as ρ st σ H where
  sub := S.sub
  sto := S.sto
  len := S.len
  val := fun i t u e => S.val i t (fun q => u (h i q)) e
  own := fun i t u e => S.own i t (fun q => u (h i q)) e
  inj := fun i j t u a ui uj e1 e2 e3 e4 => S.inj i j t u a (fun q => ui (h i q)) (fun q => uj (h j q)) e1 e2 e3 e4
mutual
theorem assign_s : ∀ {tg : Tg} {t : T} {v : V} {ρ ρ' : Env} {σ : L2.St} {U : Nat → Prop} {Q : L2.St → Hp → Prop}, SimU U K F as ρ st σ H → Rep K F as v t → assign tg t ρ = some ρ' →
    (∀ σ', SimU (fun j => U j ∧ j ∉ tg.slots) K F as ρ' st σ' H → σ'.length = σ.length → (∀ i, i ∉ tg.slots → σ'[i]? = σ[i]?) → Q σ' H) → tgG K tg v σ H Q
  | .nm i, t, v, ρ, ρ', σ, U, Q, S, r, e, k => by
    unfold assign at e
    split at e
    · rename_i hi
      cases e
      unfold tgG gName
      refine k _ ((S.set hi r).weak fun j q => ⟨q.1, ?_⟩) (by rw [List.length_set]) fun j hj => ?_
      · unfold Tg.slots; simpa using q.2
      · unfold Tg.slots at hj
        exact List.getElem?_set_ne (by simpa using Ne.symm (show ¬ j = i by simpa using hj))
    · cases e
  | .tp ts, .tup xs, v, ρ, ρ', σ, U, Q, S, r, e, k => by
    unfold assign at e
    unfold tgG gTup
    cases r with
    | tup h l rs =>
      rename_i a vs
      refine ⟨a, vs, rfl, S.sub.sqT h, ?_, assigns_s S rs e fun σ' S' hl hk => k σ' (S'.weak fun j q => q) hl hk⟩
      have : ∀ {ts : List Tg} {xs : List T} {ρ ρ' : Env}, assigns ts xs ρ = some ρ' → xs.length = ts.length := by
        intro ts
        induction ts with
        | nil =>
          intro xs ρ ρ' e
          cases xs with
          | nil => rfl
          | cons _ _ => unfold assigns at e; cases e
        | cons t ts ih =>
          intro xs ρ ρ' e
          cases xs with
          | nil => unfold assigns at e; cases e
          | cons x xs =>
            unfold assigns at e
            split at e
            · exact congrArg Nat.succ (ih e)
            · cases e
      rw [rs.length, this e]
  | .tp ts, .non, _, _, _, _, _, _, _, _, e, _ => by unfold assign at e; cases e
  | .tp ts, .bl _, _, _, _, _, _, _, _, _, e, _ => by unfold assign at e; cases e
  | .tp ts, .int _, _, _, _, _, _, _, _, _, e, _ => by unfold assign at e; cases e
  | .tp ts, .str _, _, _, _, _, _, _, _, _, e, _ => by unfold assign at e; cases e
  | .tp ts, .lst _, _, _, _, _, _, _, _, _, e, _ => by unfold assign at e; cases e
  | .tp ts, .dic _, _, _, _, _, _, _, _, _, e, _ => by unfold assign at e; cases e
  | .tp ts, .ref _, _, _, _, _, _, _, _, _, e, _ => by unfold assign at e; cases e
  | .tp ts, .scr _, _, _, _, _, _, _, _, _, e, _ => by unfold assign at e; cases e
  | .tp ts, .tab _ _, _, _, _, _, _, _, _, _, e, _ => by unfold assign at e; cases e
theorem assigns_s : ∀ {ts : List Tg} {xs : List T} {vs : List V} {ρ ρ' : Env} {σ : L2.St} {U : Nat → Prop} {Q : L2.St → Hp → Prop}, SimU U K F as ρ st σ H → Reps K F as vs xs → assigns ts xs ρ = some ρ' →
    (∀ σ', SimU (fun j => U j ∧ j ∉ slotsL ts) K F as ρ' st σ' H → σ'.length = σ.length → (∀ i, i ∉ slotsL ts → σ'[i]? = σ[i]?) → Q σ' H) → tgGs K ts vs σ H Q
  | [], [], vs, ρ, ρ', σ, U, Q, S, r, e, k => by
    cases r
    unfold assigns at e
    cases e
    unfold tgGs gNil
    exact ⟨rfl, k σ (S.weak fun j q => ⟨q, by unfold slotsL; simp⟩) rfl fun _ _ => rfl⟩
  | t :: ts, x :: xs, vs, ρ, ρ', σ, U, Q, S, r, e, k => by
    cases r with
    | cons h rs =>
      unfold assigns at e
      split at e
      · rename_i ρ1 e1
        unfold tgGs gCons
        refine ⟨_, _, rfl, assign_s S h e1 fun σ1 S1 hl1 hk1 => assigns_s S1 rs e fun σ2 S2 hl2 hk2 => k σ2 (S2.weak fun j q => ⟨q.1.1, ?_⟩) (hl2.trans hl1) fun i hi => ?_⟩
        · unfold slotsL
          rw [List.mem_append, not_or]
          exact ⟨q.1.2, q.2⟩
        · unfold slotsL at hi
          rw [List.mem_append, not_or] at hi
          exact (hk2 i hi.2).trans (hk1 i hi.1)
      · cases e
  | [], _ :: _, _, _, _, _, _, _, _, _, e, _ => by unfold assigns at e; cases e
  | _ :: _, [], _, _, _, _, _, _, _, _, e, _ => by unfold assigns at e; cases e
end
end
end Q
end
/-! QComp -/
section
set_option linter.all false
set_option maxRecDepth 100000
set_option maxHeartbeats 1000000
namespace Q
open PySem L2
/-- no exception is wished for -/
def W0 : WX := fun _ _ _ _ => False
section
variable {K : PySem.W.Frag} {xi : XI} {call : Nat → List T → List T → Store → O T} {hear : Nat → Store → O T → O T}
theorem out_ok {α : Type} {F : Hp} {as : List Addr} {H : Hp} {σ : L2.St} {W : WX} {t : α} {st : Store} {o : O α} {P : α → Store → Prop} (e : o = .ok t st) (p : P t st) : Out K xi F as H σ W o P := by subst e; exact p
theorem O.bind_eq_ok {α β : Type} {o : O α} {f : α → Store → O β} {b : β} {s : Store} (h : o.bind f = .ok b s) : ∃ a s1, o = .ok a s1 ∧ f a s1 = .ok b s := by
  cases o with
  | ok a s1 => exact ⟨a, s1, rfl, h⟩
  | ex x s1 => cases h
  | bad => cases h
theorem noex_ok {α : Type} {o : O α} {a : α} {s : Store} (h : noex o = .ok a s) : o = .ok a s := by
  cases o with
  | ok b s1 => exact h
  | ex x s1 => cases h
  | bad => cases h
theorem compL_noex {f : T → Store → O (Option T)} : ∀ {xs : List T} {st : Store} {x : Exn} {s : Store}, compL f xs st ≠ .ex x s
  | [], st, x, s, h => by unfold compL at h; cases h
  | y :: ys, st, x, s, h => by
    unfold compL at h
    cases e : f y st with
    | ok r s1 =>
      rw [e] at h
      simp only [noex, O.bind_ok] at h
      cases e2 : compL f ys s1 with
      | ok rs s2 => rw [e2] at h; cases h
      | ex y s2 => exact compL_noex e2
      | bad => rw [e2] at h; cases h
    | ex y s1 => rw [e] at h; simp only [noex, O.bind_bad] at h; cases h
    | bad => rw [e] at h; simp only [noex, O.bind_bad] at h; cases h
/-- the conditions -/
def tTs (K : PySem.W.Frag) (xi : XI) (W : WX) (call : Nat → List T → List T → Store → O T) (hear : Nat → Store → O T → O T) (cs : List E) : TT := fun σ H Q => ∃ F as ρ st, Sim K F as ρ st σ H ∧
  Out K xi F as H σ W (condsL (evalFs call hear cs ρ) st) fun b st' => ∀ F' as' H', Nxt F as H F' as' H' → Sub F' H' → Sto K F' as' st' H' → Q b H'
theorem PTs.imp {X : Cx} {e : List Expr} {t t' : TT} (h : PTs X e t) (k : ∀ σ H Q, t' σ H Q → t σ H Q) : PTs X e t' := ⟨fun pins s σ H Q I q => h.run pins s σ H Q I (k σ H Q q)⟩
theorem pts_0 {X : Cx} {W : WX} : PTs X [] (tTs X.K xi W call hear []) := PTs.imp pts_nil fun σ H Q h => by
  obtain ⟨F, as, ρ, st, S, h⟩ := h
  exact h F as H (Nxt.refl _ _ _) S.sub S.sto
theorem pts_1 {X : Cx} {W : WX} {c : E} {x : Expr} (h : PT X x (tT X.K xi W (evalE call hear c))) : PTs X [x] (tTs X.K xi W call hear [c]) := PTs.imp (pts_one h) fun σ H Q h => by
  obtain ⟨F, as, ρ, st, S, h⟩ := h
  have h : Out X.K xi F as H σ W ((evalE call hear c ρ st).bind fun t st' => match truth st' t with
    | some true => .ok true st'
    | some false => .ok false st'
    | none => .bad) (fun b st' => ∀ F' as' H', Nxt F as H F' as' H' → Sub F' H' → Sto X.K F' as' st' H' → Q b H') := h
  refine tT_of ⟨F, as, ρ, st, S, h.bind fun t st1 _ h1 => ?_⟩
  cases et : truth st1 t with
  | none => rw [et] at h1; exact h1.elim
  | some b =>
    rw [et] at h1
    refine ⟨b, rfl, ?_⟩
    cases b with
    | true => exact h1
    | false => exact h1
theorem wipe_in {σ : L2.St} {i : Nat} : ∀ {vs : List Nat}, i ∈ vs → i < σ.length → (wipe σ vs)[i]? = some none
  | v :: vs, h, hl => by
    unfold wipe
    by_cases e : v = i
    · subst e
      rw [List.getElem?_set_self (by rw [wipe_length]; exact hl)]
    · rw [List.getElem?_set_ne e]
      exact wipe_in ((List.mem_cons.mp h).resolve_left (Ne.symm e)) hl
theorem wipe_eq {σ σ' : L2.St} {vs : List Nat} (hl : σ'.length = σ.length) (h : ∀ i, i ∉ vs → σ'[i]? = (wipe σ vs)[i]?) : wipe σ' vs = wipe σ vs := by
  apply List.ext_getElem?
  intro i
  by_cases hi : i ∈ vs
  · by_cases hlt : i < σ.length
    · rw [wipe_in hi (by omega), wipe_in hi hlt]
    · rw [List.getElem?_eq_none (by rw [wipe_length]; omega), List.getElem?_eq_none (by rw [wipe_length]; omega)]
  · rw [wipe_out hi, h i hi]
theorem Sto.updOut {F : Hp} {as : List Addr} {st : Store} {H : Hp} {a : Addr} {o : HO} (S : Sto K F as st H) (n : a ∉ as) : Sto K F as st (upd H a o) where
  len := S.len
  nd := S.nd
  at_ := fun i b t h e => by
    obtain ⟨h1, h2⟩ := S.at_ i b t h e
    have q : b ≠ a := fun z => n (z ▸ List.mem_of_getElem? h)
    exact ⟨h1, h2.mono (Sub.refl _) (Pre.refl _) fun u hu => by rw [upd_ne q]; exact hu⟩
theorem Nxt.updOut {F F' H H' : Hp} {as as' : List Addr} {a : Addr} {o : HO} (n : Nxt F as H F' as' H') (hn : H a = none) : Nxt F as H F' as' (upd H' a o) where
  ff := n.ff
  pre := n.pre
  keep := fun b u e nt m => by
    rw [upd_ne (ne_of_none e hn)]
    exact n.keep b u e nt m
  alive := fun b e => by
    by_cases q : b = a
    · subst q; exact absurd hn e
    · rw [upd_ne q]; exact n.alive b e
  fnew := n.fnew
  anew := n.anew
/-- an object apart stays -/
theorem Nxt.apart {F F' H H' : Hp} {as as' : List Addr} {a : Addr} {o : HO} (n : Nxt F as H F' as' H') (e : H a = some o) (nt : ∀ ps, o ≠ .tbl ps) (f : F a = none) (m : a ∉ as) : H' a = some o ∧ F' a = none ∧ a ∉ as' := by
  refine ⟨n.keep a o e nt m, ?_, fun z => ?_⟩
  · by_cases q : F' a = none
    · exact q
    · have z := n.fnew a q f
      rw [e] at z; cases z
  · have q := n.anew a z m
    rw [e] at q; cases q
/-- the list at D, apart, holds ts -/
structure AccAt (K : PySem.W.Frag) (F : Hp) (as : List Addr) (H : Hp) (D : Addr) (ts : List T) (n : Nat) : Prop where
  f : F D = none
  na : D ∉ as
  acc : ∃ vs, H D = some (.lst vs) ∧ Reps K F as vs ts
  len : ts.length ≤ n
theorem AccAt.nxt {F F' H H' : Hp} {as as' : List Addr} {D : Addr} {ts : List T} {n : Nat} (A : AccAt K F as H D ts n) (m : Nxt F as H F' as' H') : AccAt K F' as' H' D ts n := by
  obtain ⟨vs, e, r⟩ := A.acc
  obtain ⟨h1, h2, h3⟩ := m.apart e (fun _ z => nomatch z) A.f A.na
  exact ⟨h2, h3, ⟨vs, h1, r.mono m.ff m.pre⟩, A.len⟩
def addO (r : Option T) (rs : List T) : List T := match r with
  | some y => y :: rs
  | none => rs
theorem comp_in {W : WX} {tg : Tg} {k : ItK} {src cs : List E} {el : E} {vs : List Nat} {σ : L2.St} {H : Hp} {Q : VK} (h1 : ∀ i ∈ vs, i ∈ tg.slots) (h2 : ∀ i ∈ tg.slots, i ∈ vs) (q : tF K xi W true (evalE call hear (.comp tg k src cs el)) σ H Q) :
    tLc (iQ K xi W gC k (evalBs call hear src)) (tgG K tg) (tTs K xi W0 call hear cs) (tE K xi W0 (evalE call hear el)) vs σ H Q := by
  obtain ⟨F, as, ρ, st, S, q⟩ := q
  have q : Out K xi F as H σ W ((evalBs call hear src ρ st).bind fun ts st' => match itEval k ts with
    | some xs => (compL (fun x s => match assign tg x ρ with
      | some ρ' => (condsL (evalFs call hear cs ρ') s).bind fun c s' => if c then (evalE call hear el ρ' s').bind fun y s'' => .ok (some y) s'' else .ok none s'
      | none => .bad) xs st').bind fun ys st'' => .ok (T.lst ys) st''
    | none => .bad) (fun t st' => PostF true K F as H t st' Q) := q
  refine ⟨F, as, ρ, st, S, q.bind fun ts st1 _ h => ?_⟩
  cases ex : itEval k ts with
  | none => rw [ex] at h; exact h.elim
  | some xs =>
    rw [ex] at h
    intro F1 as1 H1 J n1 s1 So1 io hz D hD
    generalize hf : (fun x s => match assign tg x ρ with
      | some ρ' => (condsL (evalFs call hear cs ρ') s).bind fun c s' => if c then (evalE call hear el ρ' s').bind fun y s'' => .ok (some y) s'' else .ok none s'
      | none => .bad : T → Store → O (Option T)) = f at h
    have h : Out K xi F as H σ W ((compL f xs st1).bind fun ys st'' => .ok (T.lst ys) st'') (fun t st' => PostF true K F as H t st' Q) := h
    cases ey : compL f xs st1 with
    | ex x s => exact absurd ey compL_noex
    | bad => rw [ey] at h; exact h.elim
    | ok ys stE =>
      rw [ey] at h
      have h : PostO K F as H (.lst ys) stE Q := h
      have nD : ∀ {F' as' H'}, Nxt F1 as1 H1 F' as' H' → True := fun _ => trivial
      refine ⟨fun i m H => m = xs.length - i ∧ i ≤ xs.length ∧ ∃ F as st ts rs, Nxt F1 as1 H1 F as H ∧ Sub F H ∧ Sto K F as st H ∧ AccAt K F as H D ts i ∧ compL f (xs.drop i) st = .ok rs stE ∧ ts ++ rs = ys, ⟨xs.length, by simp, Nat.zero_le _, F1, as1, st1, [], ys, ?_, ?_, ?_, ?_, by simpa using ey, rfl⟩, ?_⟩
      · exact (Nxt.refl _ _ _).updOut hD
      · exact sub_updR s1 (sub_none s1 hD)
      · refine So1.updOut fun m => (So1.there m).1 hD
      · exact ⟨sub_none s1 hD, fun m => (So1.there m).1 hD, ⟨[], upd_same, .nil⟩, Nat.zero_le _⟩
      · rintro i m Hi ⟨rfl, hi, Fi, asi, sti, ts', rs, ni, si, Soi, Ai, ec, eq⟩
        obtain ⟨go, stop⟩ := io Fi asi Hi sti ni si Soi i
        by_cases hlt : i < xs.length
        · obtain ⟨g1, g2⟩ := go hlt
          refine .inr ⟨g1, fun H' => ∃ F as st ts rs, Nxt F1 as1 H1 F as H' ∧ Sub F H' ∧ Sto K F as st H' ∧ AccAt K F as H' D ts (i + 1) ∧ compL f (xs.drop (i + 1)) st = .ok rs stE ∧ ts ++ rs = ys, fun H' p => ⟨xs.length - (i + 1), by omega, rfl, hlt, p⟩, fun x H' y => ?_⟩
          obtain ⟨F2, n2, s2, So2, t, et, r⟩ := g2 x H' y
          have ed : xs.drop i = t :: xs.drop (i + 1) := by
            have q : t = xs[i] := by
              have := List.getElem?_eq_getElem hlt
              rw [et] at this; exact Option.some.inj this
            rw [q]; exact List.drop_eq_getElem_cons hlt
          rw [ed] at ec
          unfold compL at ec
          obtain ⟨rr, sa, e1, e2⟩ := O.bind_eq_ok ec
          have e1 := noex_ok e1
          obtain ⟨rs', sb, e3, e4⟩ := O.bind_eq_ok e2
          rw [← hf] at e1
          have e1 : (match assign tg t ρ with
            | some ρ' => (condsL (evalFs call hear cs ρ') sti).bind fun c s' => if c then (evalE call hear el ρ' s').bind fun y s'' => .ok (some y) s'' else .ok none s'
            | none => .bad) = O.ok rr sa := e1
          cases ea : assign tg t ρ with
          | none => rw [ea] at e1; cases e1
          | some ρ' =>
            rw [ea] at e1
            obtain ⟨c, sc, e5, e6⟩ := O.bind_eq_ok e1
            have m2 := ni.trans n2
            have A2 := Ai.nxt n2
            have S2 : SimU (fun i => i ∈ vs) K F2 asi ρ sti (wipe σ vs) H' := (S.nxt (n1.trans m2) s2 So2).u (wipe_length _ _) fun j hj => wipe_out hj
            refine assign_s S2 r ea fun σ2 S3 hl hk => ⟨wipe_eq (hl.trans (wipe_length _ _)) fun j hj => hk j fun m => hj (h2 j m), ?_⟩
            have S3 := S3.sim fun j q => q.2 (h1 j q.1)
            refine ⟨F2, asi, ρ', sti, S3, out_ok e5 fun F3 as3 H3 n3 s3 So3 => ?_⟩
            have A3 := A2.nxt n3
            have e4 : O.ok (addO rr rs') sb = O.ok rs stE := e4
            have z1 : addO rr rs' = rs ∧ sb = stE := by
              injection e4 with q1 q2
              exact ⟨q1, q2⟩
            obtain ⟨z1, rfl⟩ := z1
            cases c with
            | false =>
              show ite _ _ _
              rw [if_neg Bool.false_ne_true]
              have e6 : O.ok none sc = O.ok rr sa := e6
              injection e6 with q1 q2
              subst q1 q2
              exact ⟨F3, as3, sc, ts', rs, m2.trans n3, s3, So3, ⟨A3.f, A3.na, A3.acc, Nat.le_succ_of_le A3.len⟩, by rw [← z1]; exact e3, eq⟩
            | true =>
              show ite _ _ _
              rw [if_pos rfl]
              have e6 : ((evalE call hear el ρ' sc).bind fun y s'' => O.ok (some y) s'') = O.ok rr sa := e6
              obtain ⟨y, sy, e7, e8⟩ := O.bind_eq_ok e6
              injection e8 with q1 q2
              subst q1 q2
              refine ⟨F3, as3, ρ', sc, S3.nxt n3 s3 So3, out_ok e7 fun F4 as4 H4 v n4 s4 So4 r4 => ?_⟩
              have A4 := A3.nxt n4
              obtain ⟨acc, ha, hr⟩ := A4.acc
              have hla := hr.length
              have hll := A4.len
              have M : Nxt F1 as1 H1 F4 as4 H4 := (m2.trans n3).trans n4
              refine ⟨acc, ha, by omega, F4, as4, sy, ts' ++ [y], rs', M.updOut hD, sub_updR s4 A4.f, So4.updOut A4.na, ⟨A4.f, A4.na, ⟨_, upd_same, hr.append (.cons r4 .nil)⟩, by rw [List.length_append]; simp; omega⟩, e3, ?_⟩
              rw [← eq, ← z1]; simp [addO]
        · have e : i = xs.length := by omega
          subst e
          refine .inl ⟨stop (Nat.le_refl _), ?_⟩
          rw [List.drop_length] at ec
          unfold compL at ec
          injection ec with q1 q2
          subst q1 q2
          rw [List.append_nil] at eq
          subst eq
          obtain ⟨acc, ha, hr⟩ := Ai.acc
          have hla := hr.length
          have hll := Ai.len
          refine h Fi asi Hi D (n1.trans ni) si Soi Ai.f Ai.na ?_ ⟨acc, ha, by omega, hr⟩
          by_cases q : H D = none
          · exact q
          · exact absurd hD (n1.alive D q)
theorem sf_comp {X : Cx} {W : WX} {tg : Tg} {k : ItK} {src cs : List E} {el : E} {elt tgx iter : Expr} {ifs : List Expr} {scope : Scope} {own : List (PySem.Str × Nat)} {pos : Pos} (hc : X.calm = true) (hN : X.N.Nodup)
    (hi : PI X tgx iter (iQ X.K xi W gC k (evalBs call hear src))) (ok : BlkOk X.N X.env.scope scope own)
    (hg : ∀ (s : Shared) (H : Hp) (C : Addr) (cl : List (PySem.Str × Addr)) (fp : List Addr), PG (X.blk s H scope (compEnvC scope cl C X.env) fp) tgx (tgG X.K tg))
    (ht : ∀ (s : Shared) (H : Hp) (C : Addr) (cl : List (PySem.Str × Addr)) (fp : List Addr), PTs (X.blk s H scope (compEnvC scope cl C X.env) fp) ifs (tTs X.K xi W0 call hear cs))
    (he : ∀ (s : Shared) (H : Hp) (C : Addr) (cl : List (PySem.Str × Addr)) (fp : List Addr), PE (X.blk s H scope (compEnvC scope cl C X.env) fp) elt (tE X.K xi W0 (evalE call hear el)))
    (h1 : ∀ i ∈ own.map (·.2), i ∈ tg.slots) (h2 : ∀ i ∈ tg.slots, i ∈ own.map (·.2)) (hs : notSet iter = true) :
    PE X (.ListComp elt [⟨tgx, iter, ifs, 0⟩] scope pos) (tF X.K xi W true (evalE call hear (.comp tg k src cs el))) :=
  PE.imp (pe_lc hc hN hi ok hg ht he fun x => by cases iter <;> first | rfl | cases hs) fun σ H Q q => comp_in h1 h2 q
end
end Q
end
/-! QCall -/
section
set_option linter.all false
set_option maxRecDepth 100000
set_option maxHeartbeats 1000000
namespace Q
open PySem L2
/-- what a def of the program promises, its keywords given -/
def FnC (P : Program) (w : World) (K : PySem.W.Frag) (mg : PySem.Str → Option Value) (base : Heap) (k : Nat) (f : Addr) (ks : List PySem.Str) (sp : List V → List V → Hp → VK → XK → Prop) : Prop :=
  ∀ (A : Around) (outer : List PySem.Env) (s : Shared) (H : Hp) (us ws : List Value) (vs zs : List V) (Q : VK) (E : XK), Room k A → Env0 P w K mg base A outer s H → Vals vs us → Vals zs ws → sp vs zs H Q E →
    codeAny (model P w) A (.call (.ref f) ⟨us, ks.zip ws⟩) (CR (L2.CX P w) outer P w H s Q E) s
/-- .. by a call's outcome -/
def spK (K : PySem.W.Frag) (xi : XI) (call : List T → List T → Store → O T) (vs zs : List V) (H : Hp) (Q : VK) (E : XK) : Prop :=
  ∃ F as ts us st, Sub F H ∧ Sto K F as st H ∧ Reps K F as vs ts ∧ Reps K F as zs us ∧ Out K xi F as H [] (fun cls d _ H => E cls d H) (call ts us st) fun t st' => Post K F as H t st' Q
theorem Out.wish {α : Type} {K : PySem.W.Frag} {xi : XI} {F : Hp} {as : List Addr} {H : Hp} {σ σ' : L2.St} {W W' : WX} {o : O α} {P : α → Store → Prop} (h : Out K xi F as H σ W o P) (k : ∀ cls d H', W cls d σ H' → W' cls d σ' H') : Out K xi F as H σ' W' o P := by
  cases o with
  | ok t st => exact h
  | ex x st => exact fun F' as' H' cls d n s So r => k _ _ _ (h F' as' H' cls d n s So r)
  | bad => exact h
section
variable {Γ : Sc} {W : WX} {X : Cx} {xi : XI} {call : Nat → List T → List T → Store → O T} {hear : Nat → Store → O T → O T}
/-- the positional values -/
def evArgs (call : Nat → List T → List T → Store → O T) (hear : Nat → Store → O T → O T) (es sa : List E) : Evs := fun ρ st => (evalEs call hear es ρ st).bind fun ts st1 => (evalBs call hear sa ρ st1).bind fun ss st2 => match flatS st2 ss with
  | some xs => .ok (ts ++ xs) st2
  | none => .bad
theorem evArgs_cons {e : E} {es sa : List E} {ρ : Env} {st : Store} : evArgs call hear (e :: es) sa ρ st = (evalE call hear e ρ st).bind fun t st' => (evArgs call hear es sa ρ st').bind fun ts st'' => .ok (t :: ts) st'' := by
  show (O.bind ((evalE call hear e ρ st).bind fun t st' => (evalEs call hear es ρ st').bind fun ts st'' => .ok (t :: ts) st'') _) = _
  cases h1 : evalE call hear e ρ st with
  | ex x s => rfl
  | bad => rfl
  | ok t s1 =>
    simp only [O.bind_ok]
    unfold evArgs
    cases h2 : evalEs call hear es ρ s1 with
    | ex x s => rfl
    | bad => rfl
    | ok ts s2 =>
      simp only [O.bind_ok]
      cases h3 : evalBs call hear sa ρ s2 with
      | ex x s => rfl
      | bad => rfl
      | ok ss s3 =>
        simp only [O.bind_ok]
        cases h4 : flatS s3 ss with
        | none => rfl
        | some xs => rfl
theorem pa_nostar : PA X [] (tEs X.K xi W (evArgs call hear [] [])) := PA.imp pa_nil fun σ H Q h => by
  obtain ⟨F, as, ρ, st, S, h⟩ := h
  exact h F as H [] (Nxt.refl _ _ _) S.sub S.sto .nil
theorem pa_star1 {x : Expr} {e : E} {p : Pos} (h : SB X xi W call hear e x) : PA X [.Starred x p] (tEs X.K xi W (evArgs call hear [] [e])) := PA.imp (StX.pa_star h pa_nil) fun σ H Q q => by
  obtain ⟨F, as, ρ, st, S, q⟩ := q
  have q : Out X.K xi F as H σ W (((evBx call hear e ρ st).bind fun t st' => O.bind (.ok [] st') fun ts st'' => .ok (t :: ts) st'').bind fun ss st2 => match flatS st2 ss with
    | some xs => .ok ([] ++ xs) st2
    | none => .bad) (fun ts st' => PostEs X.K F as H ts st' Q) := q
  have q2 := Out.bind q (P' := fun ss st2 => match flatS st2 ss with | some xs => PostEs X.K F as H xs st2 Q | none => False) fun ss st2 _ h => by
    cases ef : flatS st2 ss with
    | none => rw [ef] at h; exact h.elim
    | some xs => rw [ef] at h; exact h
  refine ⟨F, as, ρ, st, S, q2.bind fun t st1 _ h1 F' as' H' v n s So r => ?_⟩
  have h1 : match flatS st1 [t] with | some xs => PostEs X.K F as H xs st1 Q | none => False := h1
  unfold flatS at h1
  cases es : seqOf st1 t with
  | none => rw [es] at h1; exact h1.elim
  | some xs =>
    rw [es] at h1
    have h1 : PostEs X.K F as H (xs ++ []) st1 Q := h1
    rw [List.append_nil] at h1
    obtain ⟨a, vs, rfl, k1, k2, k3⟩ := viewS So s r es
    exact ⟨a, vs, rfl, k1.symm, by show Q (vs ++ []) H'; rw [List.append_nil]; exact h1 F' as' H' vs n s So k3⟩
theorem pa_args {ys : List Expr} {sa : List E} (hy : PA X ys (tEs X.K xi W (evArgs call hear [] sa))) : ∀ {xs : List Expr} {es : List E}, PEEs X xi W call hear xs es → xs.all notStar = true → PA X (xs ++ ys) (tEs X.K xi W (evArgs call hear es sa))
  | _, _, .nil, _ => hy
  | _, _, .cons p r, h => by
    rw [List.all_cons, Bool.and_eq_true] at h
    refine PA.imp (pa_cons p (pa_args hy r h.2) (star1 h.1)) fun σ H Q q => tEs_cons ?_
    obtain ⟨F, as, ρ, st, S, q⟩ := q
    rw [evArgs_cons] at q
    exact ⟨F, as, ρ, st, S, q⟩
theorem pk_args : ∀ {kws : List Keyword} {es : List E}, PEEs X xi W call hear (kws.map (·.value)) es → PK X kws (tEs X.K xi W (evalEs call hear es))
  | [], _, .nil => ⟨fun pos pins s σ H Q I h => pk_nil.run pos pins s σ H Q I (tEs_nil h)⟩
  | ⟨nm, v, p⟩ :: kws, _, .cons h r => ⟨fun pos pins s σ H Q I q => (pk_cons h (pk_args r)).run pos pins s σ H Q I (tEs_cons q)⟩
theorem run_fnC {k : Nat} {f : Addr} {ks : List PySem.Str} {sp : List V → List V → Hp → VK → XK → Prop} {pins : List (Addr × Obj)} {σ : L2.St} {H : Hp} {s : Shared} {Q : VK} {us ws : List Value} {vs zs : List V} (F : FnC X.prog X.w X.K X.mg X.base k f ks sp) (hr : Room k X.A) (tk : Takes X W)
    (I : Inv X pins σ H s) (r : Vals vs us) (rz : Vals zs ws) (h : sp vs zs H Q (WE W σ)) : wpAny (model X.prog X.w) X.A (PySem.call (.ref f) us (ks.zip ws)) (EP X pins σ Q) X.xe s := by
  refine wpAny_call (codeAny_mono (F X.A X.stack s H us ws vs zs Q (WE W σ) hr I.env0 r rz h) fun r s' hq => ?_)
  cases r with
  | error e => exact passAt tk σ pins H s e s' I hq
  | ok fl =>
    cases fl with
    | ret u => exact I.after hq
    | next => exact False.elim hq
    | brk => exact False.elim hq
    | cont => exact False.elim hq
/-- the reading of a call -/
def tCal (K : PySem.W.Frag) (xi : XI) (W : WX) (call : List T → List T → Store → O T) (ta tk : TA) : TE := fun σ H Q => ta σ H fun vs H1 => tk σ H1 fun zs H2 => spK K xi call vs zs H2 Q (WE W σ)
theorem cal_in {c : Nat} {es sa ks : List E} {K : PySem.W.Frag} {σ : L2.St} {H : Hp} {Q : VK} (h : tE K xi W (evalE call hear (.call c es sa ks)) σ H Q) : tCal K xi W (call c) (tEs K xi W (evArgs call hear es sa)) (tEs K xi W (evalEs call hear ks)) σ H Q := by
  obtain ⟨F, as, ρ, st, S, q⟩ := h
  have e : evalE call hear (.call c es sa ks) ρ st = (evArgs call hear es sa ρ st).bind fun xs st2 => (evalEs call hear ks ρ st2).bind fun zs st3 => call c xs zs st3 := by
    show ((evalEs call hear es ρ st).bind fun ts st1 => (evalBs call hear sa ρ st1).bind fun ss st2 => match flatS st2 ss with
      | some xs => (evalEs call hear ks ρ st2).bind fun zs st3 => call c (ts ++ xs) zs st3
      | none => .bad) = _
    unfold evArgs
    cases h2 : evalEs call hear es ρ st with
    | ex x s => rfl
    | bad => rfl
    | ok ts s2 =>
      simp only [O.bind_ok]
      cases h3 : evalBs call hear sa ρ s2 with
      | ex x s => rfl
      | bad => rfl
      | ok ss s3 =>
        simp only [O.bind_ok]
        cases h4 : flatS s3 ss with
        | none => rfl
        | some xs => rfl
  rw [e] at q
  refine ⟨F, as, ρ, st, S, q.bind fun xs st1 _ h1 F1 as1 H1 vs n1 s1 So1 r1 => ?_⟩
  refine ⟨F1, as1, ρ, st1, S.nxt n1 s1 So1, (h1.nxt n1 fun t st' _ p => p).bind fun zs st2 _ h2 F2 as2 H2 ws n2 s2 So2 r2 => ?_⟩
  exact ⟨F2, as2, xs, zs, st2, s2, So2, r1.mono n2.ff n2.pre, r2, (h2.nxt n2 fun t st' _ p => p.nxt (n1.trans n2)).wish fun _ _ _ w => w⟩
/-- the keywords' names -/
def kwNames (kws : List Keyword) : Option (List PySem.Str) := kws.mapM fun k => k.arg
theorem kw_all : ∀ {kws : List Keyword} {ks : List PySem.Str} {pos : Pos} {env : PySem.Env}, kws.map (·.arg) = ks.map some → (backToKw pos (keywordEach kws env)).all (·.1.isSome) = true ∧ (backToKw pos (keywordEach kws env)).filterMap (·.1) = ks ∧ (backToKw pos (keywordEach kws env)).any (·.1.isNone) = false
  | [], [], _, _, _ => ⟨rfl, rfl, rfl⟩
  | ⟨nm, v, p⟩ :: kws, k :: ks, pos, env, h => by
    rw [List.map_cons, List.map_cons] at h
    injection h with h1 h2
    obtain ⟨e1, e2, e3⟩ := kw_all (pos := pos) (env := env) h2
    have h1 : nm = some k := h1
    subst h1
    refine ⟨?_, ?_, ?_⟩
    · show (true && (backToKw pos (keywordEach kws env)).all (·.1.isSome)) = true
      rw [e1]; rfl
    · show k :: (backToKw pos (keywordEach kws env)).filterMap (·.1) = _
      rw [e2]
    · show (false || (backToKw pos (keywordEach kws env)).any (·.1.isNone)) = false
      rw [e3]; rfl
  | [], _ :: _, _, _, h => by cases h
  | _ :: _, [], _, _, h => by cases h
theorem ev_nil {K : PySem.W.Frag} {σ : L2.St} {H : Hp} {Q : List V → Hp → Prop} (h : tEs K xi W (evArgs call hear [] []) σ H Q) : Q [] H := by
  obtain ⟨F, as, ρ, st, S, h⟩ := h
  exact h F as H [] (Nxt.refl _ _ _) S.sub S.sto .nil
/-- a call without stars -/
theorem se_cal {n : PySem.Str} {f : Addr} {k : Nat} {ks : List PySem.Str} {xs : List Expr} {kws : List Keyword} {es ke : List E} {p pos : Pos} {c : Nat} (F : FnC X.prog X.w X.K X.mg X.base k f ks (spK X.K xi (call c))) (hr : Room k X.A) (tkk : Takes X W)
    (hg : Gl X n) (hm : X.mg n = some (.ref f)) (hk : PySem.W.keepIn X.K (.ref f) = true) (hd : (n == ("__debug__" : PySem.Str)) = false) (hs : xs.all notStar = true) (hkn : kws.map (·.arg) = ks.map some) (ha : PEEs X xi W call hear xs es) (hkw : PEEs X xi W call hear (kws.map (·.value)) ke) :
    SE X xi W call hear (.call c es [] ke) (.Call (.Name n p) xs kws pos) := by
  refine ⟨fun pins s σ H Q I h => ?_⟩
  have h := cal_in h
  refine wpAny_Call_Name_kw (ld_glob I hg hm ?_ hd)
  obtain ⟨e1, e2, e3⟩ := kw_all (pos := pos) (env := X.env) hkn
  have hPA : PA X xs (tEs X.K xi W (evArgs call hear es [])) := by
    have z := pa_args (xi := xi) (W := W) (call := call) (hear := hear) (pa_nostar (X := X)) ha hs
    rwa [List.append_nil] at z
  have hPK := pk_args hkw
  cases kws with
  | nil =>
    obtain rfl : ks = [] := by
      cases ks with
      | nil => rfl
      | cons _ _ => cases hkn
    cases hkw
    cases ha with
    | nil =>
      refine PySem.W.callWith_K0 I.kIn hk ?_
      exact run_fnC (us := []) (ws := []) F hr tkk I .nil .nil (tEs_nil (ev_nil h))
    | cons q r =>
      rw [List.all_cons, Bool.and_eq_true] at hs
      refine PySem.W.callWith_K (h₀ := X.base) I.ok.mod.kin hk (thn (hPA.run pos pins s σ H _ I h) fun us s1 ⟨vs, H1, I1, r1, q1⟩ => ⟨I1.kIn, ?_⟩) (star1 hs.1) (stars hs.2)
      exact run_fnC (ws := []) F hr tkk I1 r1 .nil (tEs_nil q1)
  | cons kw kws =>
    cases ha with
    | nil =>
      refine PySem.W.callWith_KW0 (h₀ := X.base) I.ok.mod.kin hk e1 ?_ e3
      refine thn (hPK.run pos pins s σ H _ I (ev_nil h)) fun ws s2 ⟨zs, H2, I2, rz, q2⟩ => ⟨I2.kIn, ?_⟩
      rw [e2]
      exact run_fnC (us := []) F hr tkk I2 .nil rz q2
    | cons q r =>
      have hs' := hs
      rw [List.all_cons, Bool.and_eq_true] at hs'
      refine PySem.W.callWith_KW (h₀ := X.base) I.ok.mod.kin hk e1 (thn (hPA.run pos pins s σ H _ I h) fun us s1 ⟨vs, H1, I1, r1, q1⟩ => ?_) (by rw [stars hs, e3]; rfl) (star1 hs'.1)
      refine thn (hPK.run pos pins s1 σ H1 _ I1 q1) fun ws s2 ⟨zs, H2, I2, rz, q2⟩ => ⟨I2.kIn, ?_⟩
      rw [e2]
      exact run_fnC F hr tkk I2 r1 rz q2
theorem star_last {xs : List Expr} {y : Expr} {q : Pos} {env : PySem.Env} {pos : Pos} : xs.all notStar = true → (backTo pos (starEach (xs ++ [.Starred y q]) env)).any (·.1) = true := by
  induction xs with
  | nil => intro _; rfl
  | cons x xs ih =>
    intro h
    rw [List.all_cons, Bool.and_eq_true] at h
    rw [List.cons_append, star1 h.1]
    show (false || (backTo pos (starEach (xs ++ [.Starred y q]) env)).any (·.1)) = true
    rw [ih h.2]; rfl
/-- .. with a starred argument at the end -/
theorem se_calS {n : PySem.Str} {f : Addr} {k : Nat} {xs : List Expr} {y : Expr} {es : List E} {se : E} {p q pos : Pos} {c : Nat} (F : FnC X.prog X.w X.K X.mg X.base k f [] (spK X.K xi (call c))) (hr : Room k X.A) (tkk : Takes X W)
    (hg : Gl X n) (hm : X.mg n = some (.ref f)) (hk : PySem.W.keepIn X.K (.ref f) = true) (hd : (n == ("__debug__" : PySem.Str)) = false) (hs : xs.all notStar = true) (ha : PEEs X xi W call hear xs es) (hy : SB X xi W call hear se y) :
    SE X xi W call hear (.call c es [se] []) (.Call (.Name n p) (xs ++ [.Starred y q]) [] pos) := by
  refine ⟨fun pins s σ H Q I h => ?_⟩
  have h := cal_in h
  have hPA : PA X (xs ++ [.Starred y q]) (tEs X.K xi W (evArgs call hear es [se])) := pa_args (pa_star1 hy) ha hs
  cases xs with
  | nil =>
    cases ha
    refine wpAny_Call_Name_kw (ld_glob I hg hm ?_ hd)
    obtain ⟨F0, as, ρ, st, S, q⟩ := h
    have q : Out X.K xi F0 as H σ W (((evBx call hear se ρ st).bind fun t st' => O.bind (.ok [] st') fun ts st'' => .ok (t :: ts) st'').bind fun ss st2 => match flatS st2 ss with
      | some xs => .ok ([] ++ xs) st2
      | none => .bad) _ := q
    have q2 := Out.bind q (P' := fun ss st2 => match flatS st2 ss with | some xs => PostEs X.K F0 as H xs st2 (fun vs H1 => tEs X.K xi W (evalEs call hear []) σ H1 fun zs H2 => spK X.K xi (call c) vs zs H2 Q (WE W σ)) | none => False) fun ss st2 _ h => by
      cases ef : flatS st2 ss with
      | none => rw [ef] at h; exact h.elim
      | some xs => rw [ef] at h; exact h
    have q3 : tB X.K xi W (evBx call hear se) σ H fun v H1 => ∃ a xs, v = .ref a ∧ (SqT X.K H1 a xs ∨ SqL X.K H1 a xs) ∧ spK X.K xi (call c) xs [] H1 Q (WE W σ) := by
      refine ⟨F0, as, ρ, st, S, q2.bind fun t st1 _ h1 F' as' H' v n s So r => ?_⟩
      have h1 : match flatS st1 [t] with | some xs => PostEs X.K F0 as H xs st1 (fun vs H1 => tEs X.K xi W (evalEs call hear []) σ H1 fun zs H2 => spK X.K xi (call c) vs zs H2 Q (WE W σ)) | none => False := h1
      unfold flatS at h1
      cases es : seqOf st1 t with
      | none => rw [es] at h1; exact h1.elim
      | some xs =>
        rw [es] at h1
        have h1 : PostEs X.K F0 as H (xs ++ []) st1 (fun vs H1 => tEs X.K xi W (evalEs call hear []) σ H1 fun zs H2 => spK X.K xi (call c) vs zs H2 Q (WE W σ)) := h1
        rw [List.append_nil] at h1
        obtain ⟨a, vs, rfl, k1, k2, k3⟩ := viewS So s r es
        exact ⟨a, vs, rfl, k1.symm, tEs_nil (h1 F' as' H' vs n s So k3)⟩
    refine PySem.W.callWith_S (h₀ := X.base) I.ok.mod.kin hk (thn (hy.run pins s σ H _ I q3) fun v s1 ⟨z, H1, I1, ry, a, xs, ey, hxs, q4⟩ => ?_) rfl
    subst ey
    obtain rfl : v = Value.ref a := ry
    exact StX.star_any I1 hxs fun us s2 I2 rv => ⟨I2.kIn, run_fnC (ws := []) F hr tkk I2 rv .nil q4⟩
  | cons x xs =>
    rw [List.all_cons, Bool.and_eq_true] at hs
    refine wpAny_Call_Name_kw (ld_glob I hg hm ?_ hd)
    refine PySem.W.callWith_S2 (h₀ := X.base) I.ok.mod.kin hk (thn (hPA.run pos pins s σ H _ I h) fun us s1 ⟨vs, H1, I1, r, q⟩ => ⟨I1.kIn, ?_⟩) (star1 hs.1) (star_last hs.2)
    exact run_fnC (ws := []) F hr tkk I1 r .nil (tEs_nil q)
end
end Q
end
/-! QChk -/
section
set_option linter.all false
set_option maxRecDepth 100000
set_option maxHeartbeats 1000000
namespace Q
open PySem L2
/-! the syntax check -/
mutual
def beqT : T → T → Bool
  | .non, .non => true
  | .bl a, .bl b => a == b
  | .int a, .int b => decide (a = b)
  | .str a, .str b => decide (a = b)
  | .tup a, .tup b => beqTs a b
  | .lst a, .lst b => beqTs a b
  | .scr a, .scr b => beqTs a b
  | _, _ => false
def beqTs : List T → List T → Bool
  | [], [] => true
  | a :: as, b :: bs => beqT a b && beqTs as bs
  | _, _ => false
end
mutual
theorem beqT_eq : ∀ {a b : T}, beqT a b = true → a = b
  | .non, b, h => by cases b <;> first | rfl | (unfold beqT at h; cases h)
  | .bl a, b, h => by cases b <;> first | (unfold beqT at h; rw [eq_of_beq h]) | (unfold beqT at h; cases h)
  | .int a, b, h => by cases b <;> first | (unfold beqT at h; rw [of_decide_eq_true h]) | (unfold beqT at h; cases h)
  | .str a, b, h => by cases b <;> first | (unfold beqT at h; rw [of_decide_eq_true h]) | (unfold beqT at h; cases h)
  | .tup a, b, h => by cases b <;> first | (unfold beqT at h; rw [beqTs_eq h]) | (unfold beqT at h; cases h)
  | .lst a, b, h => by cases b <;> first | (unfold beqT at h; rw [beqTs_eq h]) | (unfold beqT at h; cases h)
  | .scr a, b, h => by cases b <;> first | (unfold beqT at h; rw [beqTs_eq h]) | (unfold beqT at h; cases h)
  | .dic a, b, h => by cases b <;> (unfold beqT at h; cases h)
  | .ref a, b, h => by cases b <;> (unfold beqT at h; cases h)
  | .tab _ _, b, h => by cases b <;> (unfold beqT at h; cases h)
theorem beqTs_eq : ∀ {a b : List T}, beqTs a b = true → a = b
  | [], [], _ => rfl
  | a :: as, b :: bs, h => by
    unfold beqTs at h
    rw [Bool.and_eq_true] at h
    rw [beqT_eq h.1, beqTs_eq h.2]
  | [], _ :: _, h => by unfold beqTs at h; cases h
  | _ :: _, [], h => by unfold beqTs at h; cases h
end
def asNot : Expr → Option Expr
  | .UnaryOp .Not x _ => some x
  | _ => none
theorem asNot_some {e x : Expr} (h : asNot e = some x) : ∃ p, e = .UnaryOp .Not x p := by
  unfold asNot at h
  split at h
  · cases h; exact ⟨_, rfl⟩
  · cases h
def asAnd : Expr → Option (List Expr)
  | .BoolOp .And xs _ => some xs
  | _ => none
theorem asAnd_some {e : Expr} {x : List Expr} (h : asAnd e = some x) : ∃ p, e = .BoolOp .And x p := by
  unfold asAnd at h
  split at h
  · cases h; exact ⟨_, rfl⟩
  · cases h
def asOr : Expr → Option (List Expr)
  | .BoolOp .Or xs _ => some xs
  | _ => none
theorem asOr_some {e : Expr} {x : List Expr} (h : asOr e = some x) : ∃ p, e = .BoolOp .Or x p := by
  unfold asOr at h
  split at h
  · cases h; exact ⟨_, rfl⟩
  · cases h
def asIf : Expr → Option (Expr × Expr × Expr)
  | .IfExp c a b _ => some (c, a, b)
  | _ => none
theorem asIf_some {e c a b : Expr} (h : asIf e = some (c, a, b)) : ∃ p, e = .IfExp c a b p := by
  unfold asIf at h
  split at h
  · cases h; exact ⟨_, rfl⟩
  · cases h
def asLst : Expr → Option (List Expr)
  | .List es _ => some es
  | _ => none
theorem asLst_some {e : Expr} {x : List Expr} (h : asLst e = some x) : ∃ p, e = .List x p := by
  unfold asLst at h
  split at h
  · cases h; exact ⟨_, rfl⟩
  · cases h
def isDic0 : Expr → Bool
  | .Dict [] [] _ => true
  | _ => false
theorem isDic0_s {e : Expr} (h : isDic0 e = true) : ∃ p, e = .Dict [] [] p := by
  unfold isDic0 at h
  split at h
  · exact ⟨_, rfl⟩
  · cases h
def asSlc : Expr → Option (Expr × Option Expr × Option Expr)
  | .Subscript a (.Slice l u none _) _ => some (a, l, u)
  | _ => none
theorem asSlc_some {e a : Expr} {l u : Option Expr} (h : asSlc e = some (a, l, u)) : ∃ p q, e = .Subscript a (.Slice l u none q) p := by
  unfold asSlc at h
  split at h
  · cases h; exact ⟨_, _, rfl⟩
  · cases h
def asCall : Expr → Option (PySem.Str × List Expr × List Keyword)
  | .Call (.Name n _) xs ks _ => some (n, xs, ks)
  | _ => none
theorem asCall_some {e : Expr} {n : PySem.Str} {xs : List Expr} {ks : List Keyword} (h : asCall e = some (n, xs, ks)) : ∃ p q, e = .Call (.Name n q) xs ks p := by
  unfold asCall at h
  split at h
  · cases h; exact ⟨_, _, rfl⟩
  · cases h
def asComp : Expr → Option (Expr × Expr × Expr × List Expr × Scope)
  | .ListComp elt [⟨tg, iter, ifs, 0⟩] sc _ => some (elt, tg, iter, ifs, sc)
  | _ => none
theorem asComp_some {e elt tg iter : Expr} {ifs : List Expr} {sc : Scope} (h : asComp e = some (elt, tg, iter, ifs, sc)) : ∃ p, e = .ListComp elt [⟨tg, iter, ifs, 0⟩] sc p := by
  unfold asComp at h
  split at h
  · cases h; exact ⟨_, rfl⟩
  · cases h
def asStar : List Expr → Option Expr
  | [.Starred y _] => some y
  | _ => none
theorem asStar_some {l : List Expr} {y : Expr} (h : asStar l = some y) : ∃ p, l = [.Starred y p] := by
  unfold asStar at h
  split at h
  · cases h; exact ⟨_, rfl⟩
  · cases h
/-- what a test may be -/
def plainTest : Expr → Bool
  | .UnaryOp .Not _ _ => false
  | .BoolOp _ _ _ => false
  | .IfExp _ _ _ _ => false
  | .Compare _ _ _ _ => false
  | _ => true
def testOk : Expr → Bool
  | .IfExp _ _ _ _ => false
  | _ => true
theorem plain_is {e : Expr} (h : plainTest e = true) (env : PySem.Env) : ∀ whole, isTrue e env whole = (do let v ← whole; standAt e.pos; holding [v] (truthy v)) := fun w => by
  cases e <;> first | rfl | (cases h; done) | skip
  rename_i op x p
  cases op <;> first | rfl | cases h
def okNm (x : PySem.Str) : Bool := (x == ("__debug__" : PySem.Str)) == false && (x == ("__classdict__" : PySem.Str)) == false
/-- the names of a comprehension's block, as they stand in the scope Γ -/
def relK (Γ : Sc) (scope : Scope) (x : PySem.Str) : Option NameKind := match scope.names.lookup x with
  | some .free => if Γ.kind x = some .cell then some .cell else some .free
  | k => k
def Sc.sub (Γ : Sc) (scope : Scope) : Sc := ⟨Γ.N, relK Γ scope, true, Γ.hr, false⟩
/-- what the check knows of the program: the constants, the kinds of calls; a heard lambda's body and scope -/
structure Wd where
  cons : List (PySem.Str × T)
  cks : List (PySem.Str × CK)
  hsyn : Sc → Nat → Expr → Option (Sc × Expr)
def chkConst : Const → T → Bool
  | .none, .non => true
  | .bool b, .bl c => b == c
  | .int i, .int j => decide (i = j)
  | .str x, .str y => decide (x = y)
  | _, _ => false
def asConst : Expr → Option Const
  | .Constant c _ _ => some c
  | _ => none
theorem asConst_some {e : Expr} {c : Const} (h : asConst e = some c) : ∃ j p, e = .Constant c j p := by
  unfold asConst at h
  split at h
  · cases h; exact ⟨_, _, rfl⟩
  · cases h
def chkCon (D : Wd) (Γ : Sc) (t : T) (ex : Expr) : Bool := match asConst ex with
  | some c => chkConst c t
  | none => match asNm ex with
    | some x => Γ.gl x && okNm x && (match D.cons.lookup x with
      | some u => beqT u t
      | none => false)
    | none => false
def isTupE : Expr → Bool
  | .Tuple _ _ _ => true
  | _ => false
/-- an iterable's sources -/
def itSyn (Γ : Sc) (k : ItK) (tg iter : Expr) : Option (List Expr) := match k with
  | .seq => if notSet iter && notStar iter then some [iter] else none
  | .rng1 => (bcall Γ "range" iter).filter fun l => l.length == 1
  | .rng2 => (bcall Γ "range" iter).filter fun l => l.length == 2
  | .enum => if isTupE tg then (bcall Γ "enumerate" iter).filter fun l => l.length == 1 else none
  | .zip => if isTupE tg then (bcall Γ "zip" iter).filter fun l => l.length == 2 else none
/-- the block's own names with their places in N -/
def ownOf (Γ : Sc) (scope : Scope) (is : List Nat) : List (PySem.Str × Nat) := is.filterMap fun i => (Γ.N[i]?).map fun x => (x, i)
/-- the check of a block's scope, as blkC, by the kinds -/
def blkK (Γ : Sc) (scope : Scope) (own : List (PySem.Str × Nat)) : Bool :=
  (match scope.kind with | .function => true | _ => false) && (scope.names.all fun y => decide (scope.names.lookup y.1 = some y.2)) && (own.all fun p => decide (Γ.N[p.2]? = some p.1)) &&
    (scope.names.all fun y => match y.2 with
      | .free => (match Γ.kind y.1 with | some .cell => true | some .free => true | _ => false)
      | .local => decide (y.1 ∈ own.map (·.1)) || decide (y.1 ∉ Γ.N)
      | .cell => decide (y.1 ∈ own.map (·.1)) || decide (y.1 ∉ Γ.N)
      | _ => true)
mutual
def chkE (D : Wd) : Sc → E → Expr → Bool
  | Γ, .var i, ex => match asNm ex with
    | some x => decide (Γ.N[i]? = some x) && Γ.vis x && okNm x
    | none => false
  | Γ, .con t, ex => chkCon D Γ t ex
  | Γ, .op o es, ex => match opSyn Γ o ex with
    | some xs => chkEs D Γ es xs
    | none => false
  | Γ, .band es, ex => match asAnd ex with
    | some xs => chkEs D Γ es xs && xs.all testOk && !es.isEmpty
    | none => false
  | Γ, .bor es, ex => match asOr ex with
    | some xs => chkEs D Γ es xs && xs.all testOk && !es.isEmpty
    | none => false
  | Γ, .not e, ex => match asNot ex with
    | some x => chkE D Γ e x && testOk x
    | none => false
  | Γ, .ite c a b, ex => match asIf ex with
    | some (x, y, z) => chkE D Γ c x && testOk x && chkE D Γ a y && chkE D Γ b z
    | none => false
  | Γ, .tup es, ex => match asTup ex with
    | some xs => xs.all notStar && chkEs D Γ es xs && decide (es.length ≤ 1000)
    | none => false
  | Γ, .lst es, ex => match asLst ex with
    | some xs => xs.all notStar && chkEs D Γ es xs && decide (es.length ≤ 1000)
    | none => false
  | _, .dic0, ex => isDic0 ex
  | Γ, .slc a lo hi, ex => match asSlc ex with
    | some (x, l, u) => chkE D Γ a x && chkEs D Γ lo l.toList && chkEs D Γ hi u.toList
    | none => false
  | Γ, .chn o1 o2 a b c, ex => match asCmp2 ex with
    | some (x, c1, y, c2, z) => decide (opCmp o1 = some c1) && decide (opCmp o2 = some c2) && notSet y && notSet z && chkE D Γ a x && chkE D Γ b y && chkE D Γ c z
    | none => false
  | Γ, .call c es sa ks, ex => match asCall ex with
    | some (n, xs, kws) => match D.cks[c]? with
      | some (m, ck) => decide (n = m) && Γ.gl n && okNm n && (xs.take es.length).all notStar && chkEs D Γ es (xs.take es.length) && decide (kws.map (·.arg) = ck.ks.map some) && chkEs D Γ ks (kws.map (·.value)) &&
        (if sa.isEmpty then decide ((xs.drop es.length).length = 0) else ks.isEmpty && ck.ks.isEmpty && (match asStar (xs.drop es.length) with
          | some y => chkEs D Γ sa [y]
          | none => false))
      | none => false
    | none => false
  | Γ, .comp tg k src cs el, ex => match asComp ex with
    | some (elt, tgx, iter, ifs, sc) => (match itSyn Γ k tgx iter with
        | some xs => xs.all notStar && chkEs D Γ src xs
        | none => false) && notSet iter && blkK Γ sc (ownOf Γ sc tg.slots) && decide ((ownOf Γ sc tg.slots).map (·.2) = tg.slots) && chkTg (Γ.sub sc) tg tgx && decide (ifs.length ≤ 1) && ifs.all testOk && chkEs D (Γ.sub sc) cs ifs && chkE D (Γ.sub sc) el elt
    | none => false
  | Γ, .heard g e, ex => match D.hsyn Γ g ex with
    | some (Γ', body) => chkE D Γ' e body
    | none => false
def chkEs (D : Wd) : Sc → List E → List Expr → Bool
  | _, [], [] => true
  | Γ, e :: es, x :: xs => chkE D Γ e x && chkEs D Γ es xs
  | _, _, _ => false
end
end Q
end
/-! QSound -/
section
set_option linter.all false
set_option maxRecDepth 100000
set_option maxHeartbeats 2000000
namespace Q
open PySem L2
/-- the program as it stands, and what its calls do -/
structure Ctx where
  P : Program
  w : World
  K : PySem.W.Frag
  mg : PySem.Str → Option Value
  base : Heap
  xi : XI
  D : Wd
  kc : Nat
  call : Nat → List T → List T → Store → O T
  hear : Nat → Store → O T → O T
  tP : Addr
  tq : PySem.Str
variable (Z : Ctx)
structure At (Γ : Sc) (W : WX) (X : Cx) : Prop where
  g : XG Γ W X
  P : X.prog = Z.P
  w : X.w = Z.w
  K : X.K = Z.K
  mg : X.mg = Z.mg
  base : X.base = Z.base
  room : Room (if Γ.hr = true then Z.kc + 4 else Z.kc) X.A
  po : Γ.blk = false → PassesOwn (model X.prog X.w) X.A X.env X.xe
  lam : Γ.lam = true → ∃ c, X.env.code = .ref c ∧ LamX.TabB Z.base Z.mg c Z.tP ∧ X.env.qual ++ ("<lambda>" : PySem.Str) = Z.tq
abbrev SEZ (W : WX) (X : Cx) (e : E) (ex : Expr) : Prop := SE X Z.xi W Z.call Z.hear e ex
structure Facts : Prop where
  con : ∀ x t, Z.D.cons.lookup x = some t → ∃ v u, Z.mg x = some u ∧ RelV v u ∧ ∀ F as, Rep Z.K F as v t
  cal : ∀ (c : Nat) (n : PySem.Str) (ck : CK), Z.D.cks[c]? = some (n, ck) → ∃ f, Z.mg n = some (.ref f) ∧ PySem.W.keepIn Z.K (.ref f) = true ∧ FnC Z.P Z.w Z.K Z.mg Z.base Z.kc f ck.ks (spK Z.K Z.xi (Z.call c))
  hea : ∀ (g : Nat) (ex : Expr) (Γ Γ' : Sc) (body : Expr) (e : E) (W : WX) (X : Cx), At Z Γ W X → Z.D.hsyn Γ g ex = some (Γ', body) → (∀ W' X', At Z Γ' W' X' → SEZ Z W' X' e body) → plainTest ex = true ∧ SEZ Z W X (.heard g e) ex
structure Snd (W : WX) (X : Cx) (e : E) (ex : Expr) : Prop where
  sf : SF X Z.xi W Z.call Z.hear e ex
  sb : SB X Z.xi W Z.call Z.hear e ex
  st : testOk ex = true → PT X ex (tT X.K Z.xi W (evalE Z.call Z.hear e))
  stB : testOk ex = true → ST X Z.xi W Z.call Z.hear e ex
inductive SndL (W : WX) (X : Cx) : List Expr → List E → Prop
  | nil : SndL W X [] []
  | cons {x : Expr} {e : E} {xs : List Expr} {es : List E} : Snd Z W X e x → SndL W X xs es → SndL W X (x :: xs) (e :: es)
variable {Z} {Γ : Sc} {W : WX} {X : Cx}
theorem SndL.ees : ∀ {xs : List Expr} {es : List E}, SndL Z W X xs es → PEEs X Z.xi W Z.call Z.hear xs es
  | _, _, .nil => .nil
  | _, _, .cons h r => .cons h.sf.se r.ees
theorem SndL.ebs : ∀ {xs : List Expr} {es : List E}, SndL Z W X xs es → PEBs X Z.xi W Z.call Z.hear xs es
  | _, _, .nil => .nil
  | _, _, .cons h r => .cons h.sb r.ebs
theorem SndL.tes : ∀ {xs : List Expr} {es : List E}, SndL Z W X xs es → xs.all testOk = true → PTEs X Z.xi W Z.call Z.hear xs es
  | _, _, .nil, _ => .nil
  | _, _, .cons h r, q => by
    rw [List.all_cons, Bool.and_eq_true] at q
    exact .cons (h.st q.1) (r.tes q.2)
theorem Snd.mk' {e : E} {ex : Expr} (hv : ∀ ρ, ownVar e ρ = none) (sf : SF X Z.xi W Z.call Z.hear e ex) (st : testOk ex = true → PT X ex (tT X.K Z.xi W (evalE Z.call Z.hear e))) : Snd Z W X e ex := by
  have eb : evBx Z.call Z.hear e = evalE Z.call Z.hear e := by
    funext ρ st
    show orB (ownVar e ρ) st _ = _
    rw [hv ρ]; rfl
  exact ⟨sf, sf.se.sb hv, st, fun h => by have z := st h; show PT X ex (tT X.K Z.xi W (evBx Z.call Z.hear e)); rw [eb]; exact z⟩
theorem st_valE {xi : XI} {call : Nat → List T → List T → Store → O T} {hear : Nat → Store → O T → O T} {e : E} {ex : Expr} (h : SE X xi W call hear e ex) (he : ∀ whole, isTrue ex X.env whole = (do let v ← whole; standAt ex.pos; holding [v] (truthy v))) : PT X ex (tT X.K xi W (evalE call hear e)) := by
  refine PT.imp (pt_truth h he) fun σ H Q q => ?_
  obtain ⟨F, as, ρ, st, S, q⟩ := tT_ok q
  refine ⟨F, as, ρ, st, S, q.imp fun t st1 _ ⟨b, h1, h2⟩ F' as' H' v n s So r => ?_⟩
  exact ⟨b, truV So s (.inl r) h1, h2 F' as' H' n s So⟩
theorem Snd.plain {e : E} {ex : Expr} (hv : ∀ ρ, ownVar e ρ = none) (hp : plainTest ex = true) (sf : SF X Z.xi W Z.call Z.hear e ex) : Snd Z W X e ex := Snd.mk' hv sf fun _ => st_valE sf.se (plain_is hp X.env)
/-! comparisons as tests -/
def isBoolOp : Op → Bool
  | .eq | .ne | .lt | .le | .gt | .ge | .isN | .notN | .isB _ | .notB _ | .inn | .notIn => true
  | _ => false
theorem cmpI_b {f : Int → Int → Bool} {a b t : T} (h : cmpI f a b = some t) : ∃ c, t = .bl c := by
  unfold cmpI at h
  split at h
  · cases h; exact ⟨_, rfl⟩
  · cases h
theorem opEval_b {o : Op} (ho : isBoolOp o = true) {st : Store} {ts : List T} {t : T} (h : opEval st o ts = some t) : ∃ b, t = .bl b := by
  have mp : ∀ {α : Type} {x : Option α} {f : α → Bool}, (x.map fun a => T.bl (f a)) = some t → ∃ b, t = .bl b := fun {α x f} e => by
    obtain ⟨c, _, e2⟩ := Option.map_eq_some_iff.mp e
    exact ⟨_, e2.symm⟩
  match ts, h with
  | [], h => cases o <;> first | (cases ho; done) | (simp [opEval] at h)
  | [a], h =>
    cases o <;> first | (cases ho; done) | skip
    case eq => simp [opEval] at h
    case ne => simp [opEval] at h
    case lt => simp [opEval] at h
    case le => simp [opEval] at h
    case gt => simp [opEval] at h
    case ge => simp [opEval] at h
    case inn => simp [opEval] at h
    case notIn => simp [opEval] at h
    case isN => simp only [opEval, Option.some.injEq] at h; exact ⟨_, h.symm⟩
    case notN => simp only [opEval, Option.some.injEq] at h; exact ⟨_, h.symm⟩
    case isB => cases a <;> simp only [opEval, Option.some.injEq] at h <;> first | (exact ⟨_, h.symm⟩) | (cases h)
    case notB => cases a <;> simp only [opEval, Option.some.injEq] at h <;> first | (exact ⟨_, h.symm⟩) | (cases h)
  | [a, b], h =>
    cases o <;> first | (cases ho; done) | skip
    case eq => simp only [opEval] at h; exact mp (f := id) h
    case ne => simp only [opEval] at h; exact mp h
    case lt => simp only [opEval] at h; exact cmpI_b h
    case le => simp only [opEval] at h; exact cmpI_b h
    case gt => simp only [opEval] at h; exact cmpI_b h
    case ge => simp only [opEval] at h; exact cmpI_b h
    case isN => simp [opEval] at h
    case notN => simp [opEval] at h
    case isB => simp [opEval] at h
    case notB => simp [opEval] at h
    case inn =>
      simp only [opEval] at h
      split at h
      · exact mp h
      · obtain ⟨ys, _, e2⟩ := Option.bind_eq_some_iff.mp h
        exact mp (f := id) e2
    case notIn =>
      simp only [opEval] at h
      split at h
      · exact mp h
      · obtain ⟨ys, _, e2⟩ := Option.bind_eq_some_iff.mp h
        exact mp e2
  | a :: b :: c :: r, h => cases o <;> first | (cases ho; done) | (simp [opEval] at h)
theorem evOp_b {o : Op} (ho : isBoolOp o = true) {call : Nat → List T → List T → Store → O T} {hear : Nat → Store → O T → O T} {es : List E} : ∀ ρ st t st', evalE call hear (.op o es) ρ st = .ok t st' → ∃ b, t = .bl b := fun ρ st t st' h => by
  obtain ⟨ts, s1, _, e2⟩ := O.bind_eq_ok (show (evalBs call hear es ρ st).bind (fun ts st' => lift (opEval st' o ts) st') = .ok t st' from h)
  cases e3 : opEval s1 o ts with
  | none => rw [e3] at e2; cases e2
  | some u => rw [e3] at e2; cases e2; exact opEval_b ho e3
theorem cmpT {o : Op} {c : CmpOp} {xi : XI} {call : Nat → List T → List T → Store → O T} {hear : Nat → Store → O T → O T} {es : List E} {x y : Expr} {p : Pos} (ho : isBoolOp o = true) (rule : OpR X (compareOp c) (fun u v H Q => ROp X.K o [u, v] H Q)) (hm : behindInMarks c y = false) (h : PEBs X xi W call hear [x, y] es) : PT X (.Compare x [c] [y] p) (tT X.K xi W (evalE call hear (.op o es))) := by
  obtain ⟨e, f, rfl, h1, h2⟩ := h.two
  exact PT.imp (pt_cmpR rule h1 h2 hm) fun σ H Q q => two_of (tE_tF (tT_b (evOp_b ho) q))
theorem isT {o : Op} {c : CmpOp} {xi : XI} {call : Nat → List T → List T → Store → O T} {hear : Nat → Store → O T → O T} {es : List E} {x y : Expr} {p : Pos} {v : V} (ho : isBoolOp o = true) (rule : OpR X (compareOp c) (fun u w H Q => w = v ∧ ROp X.K o [u] H Q)) (hy : PE X y (tC v)) (hm : behindInMarks c y = false) (h : PEBs X xi W call hear [x] es) : PT X (.Compare x [c] [y] p) (tT X.K xi W (evalE call hear (.op o es))) := by
  obtain ⟨e, rfl, h1⟩ := h.one
  refine PT.imp (pt_cmpR rule h1 hy hm) fun σ H Q q => ?_
  obtain ⟨F, as, ρ, st, S, q⟩ := one_of (tE_tF (fr := freshOp o) (tT_b (evOp_b ho) q))
  exact ⟨F, as, ρ, st, S, q.imp fun t st' _ r => fun F' as' H' v' n s So rr => ⟨rfl, r F' as' H' v' n s So rr⟩⟩
theorem opCmp_bool {o : Op} {c : CmpOp} (h : opCmp o = some c) : isBoolOp o = true ∧ freshOp o = false := by cases o <;> simp only [opCmp] at h <;> first | exact ⟨rfl, rfl⟩ | cases h
theorem op_test {o : Op} {ex : Expr} {xs : List Expr} {es : List E} (G : XG Γ W X) (e : opSyn Γ o ex = some xs) (h : PEBs X Z.xi W Z.call Z.hear xs es) : plainTest ex = true ∨ PT X ex (tT X.K Z.xi W (evalE Z.call Z.hear (.op o es))) := by
  unfold opSyn at e
  split at e
  · split at e
    · rename_i e1
      obtain ⟨p, rfl⟩ := asBin_some e1
      exact .inl rfl
    · cases e
  · split at e
    · rename_i c ec
      split at e
      · rename_i x c' y e1
        split at e
        · rename_i hb
          obtain ⟨hb, hy⟩ := hb
          subst hb
          cases e
          obtain ⟨p, rfl⟩ := asCmp_some e1
          exact .inr (cmpT (opCmp_bool ec).1 (opCmp_rule G.units ec) (notMarks _ hy) h)
        · cases e
      · cases e
    · have call1 : ∀ {n : PySem.Str} {ex : Expr} {l : List Expr}, bcall Γ n ex = some l → plainTest ex = true := fun q => by
        obtain ⟨p, p', rfl, _, _⟩ := bcall_some q
        rfl
      have call2 : ∀ {n : PySem.Str} {ex : Expr} {l : List Expr} {f : List Expr → Bool}, (bcall Γ n ex).filter f = some l → plainTest ex = true := fun q => call1 (Option.filter_eq_some_iff.mp q).1
      split at e
      · split at e
        · exact .inl rfl
        · cases e
      · split at e
        · split at e
          · rename_i e1 hb
            obtain ⟨rfl, hy⟩ := hb
            cases e
            obtain ⟨p, rfl⟩ := asCmp_some e1
            obtain ⟨j, q, rfl⟩ := isNoneC_s hy
            exact .inr (isT rfl op_isN_s pe_non rfl h)
          · cases e
        · cases e
      · split at e
        · split at e
          · rename_i e1 hb
            obtain ⟨rfl, hy⟩ := hb
            cases e
            obtain ⟨p, rfl⟩ := asCmp_some e1
            obtain ⟨j, q, rfl⟩ := isNoneC_s hy
            exact .inr (isT rfl op_notN_s pe_non rfl h)
          · cases e
        · cases e
      · split at e
        · split at e
          · rename_i e1 hb
            obtain ⟨rfl, hy⟩ := hb
            cases e
            obtain ⟨p, rfl⟩ := asCmp_some e1
            obtain ⟨j, q, rfl⟩ := isBoolC_s hy
            exact .inr (isT rfl op_isB_s pe_bl rfl h)
          · cases e
        · cases e
      · split at e
        · split at e
          · rename_i e1 hb
            obtain ⟨rfl, hy⟩ := hb
            cases e
            obtain ⟨p, rfl⟩ := asCmp_some e1
            obtain ⟨j, q, rfl⟩ := isBoolC_s hy
            exact .inr (isT rfl op_notB_s pe_bl rfl h)
          · cases e
        · cases e
      · exact .inl (call2 e)
      · exact .inl (call2 e)
      · exact .inl (call2 e)
      · exact .inl (call2 e)
      · exact .inl (call2 e)
      · exact .inl (call2 e)
      · exact .inl (call2 e)
      · exact .inl (call2 e)
      · exact .inl (call2 e)
      · exact .inl (call2 e)
      · exact .inl (call2 e)
      · split at e
        · rename_i eb; exact .inl (call1 eb)
        · cases e
      · split at e
        · rename_i eb; exact .inl (call1 eb)
        · cases e
      · split at e
        · rename_i eb; exact .inl (call1 eb)
        · cases e
      · split at e
        · rename_i eb; exact .inl (call1 eb)
        · cases e
      · split at e
        · rename_i eb; exact .inl (call1 eb)
        · cases e
      · split at e
        · rename_i eb; exact .inl (call1 eb)
        · cases e
      · split at e
        · rename_i e1
          obtain ⟨p, rfl⟩ := asSub_some e1
          exact .inl rfl
        · cases e
      · split at e
        · rename_i e1
          obtain ⟨p, rfl⟩ := asSub_some e1
          exact .inl rfl
        · cases e
      · cases e
end Q
end
/-! QSound2 -/
section
set_option linter.all false
set_option maxRecDepth 100000
set_option maxHeartbeats 2000000
namespace Q
open PySem L2
variable {Z : Ctx} {Γ : Sc} {W : WX} {X : Cx}
theorem relS_look {scope sc : Scope} (hk : sc.kind = .function) (x : PySem.Str) : (relS scope sc).names.lookup x = match scope.names.lookup x with
    | some .free => if sc.names.lookup x = some .cell then some .cell else some .free
    | k => k := by
  have main : ∀ names : List (PySem.Str × NameKind), (names.map fun (n, k) => if k == .free && sc.kind == .function && sc.names.lookup n == some .cell then (n, NameKind.cell) else (n, k)).lookup x = match names.lookup x with
    | some .free => if sc.names.lookup x = some .cell then some .cell else some .free
    | k => k := by
    intro names
    induction names with
    | nil => rfl
    | cons y ys ih =>
      obtain ⟨n, k⟩ := y
      rw [List.map_cons]
      by_cases hx : x = n
      · subst hx
        simp only [List.lookup_cons, beq_self_eq_true]
        by_cases hf : k = .free
        · subst hf
          by_cases hc : sc.names.lookup x = some .cell
          · simp [hc, hk]
          · simp [hc, hk]
        · cases k <;> simp_all
      · have hb : (x == n) = false := by simpa using hx
        have e : ∀ k', List.lookup x ((n, k') :: (ys.map fun (n, k) => if k == .free && sc.kind == .function && sc.names.lookup n == some .cell then (n, NameKind.cell) else (n, k))) = List.lookup x (ys.map fun (n, k) => if k == .free && sc.kind == .function && sc.names.lookup n == some .cell then (n, NameKind.cell) else (n, k)) := fun k' => by
          simp only [List.lookup_cons, hb]
        have e2 : List.lookup x ((n, k) :: ys) = List.lookup x ys := by simp only [List.lookup_cons, hb]
        rw [e2, ← ih]
        dsimp only
        split
        · exact e _
        · exact e _
  exact main scope.names
theorem At.sub {scope : Scope} (A : At Z Γ W X) (hk : scope.kind = .function) (s : Shared) (H : Hp) (C : Addr) (cl : List (PySem.Str × Addr)) (fp : List Addr) : At Z (Γ.sub scope) W0 (X.blk s H scope (compEnvC scope cl C X.env) fp) where
  g := {
    calm := A.g.calm
    takes := fun u s' h => by
      obtain ⟨a, B, sI, pins, σ, H, cls, d, _, _, _, _, _, _, _, _, w⟩ := h
      exact w
    nd := A.g.nd
    N := A.g.N
    kd := fun x => by
      show (relS scope X.env.scope).names.lookup x = relK Γ scope x
      rw [relS_look A.g.fkind]
      unfold relK
      have e : X.env.scope.names.lookup x = Γ.kind x := A.g.kd x
      rw [e]
      all_goals (split <;> rename_i q <;> simp_all)
    units := A.g.units
    free := A.g.free
    fnc := fun h => by cases h
    fkind := hk }
  P := A.P
  w := A.w
  K := A.K
  mg := A.mg
  base := A.base
  room := A.room
  po := fun h => by cases h
  lam := fun h => by cases h
theorem blkK_ok {scope : Scope} {own : List (PySem.Str × Nat)} (G : XG Γ W X) (h : blkK Γ scope own = true) : BlkOk X.N X.env.scope scope own := by
  have e : ∀ x, X.env.scope.names.lookup x = Γ.kind x := fun x => G.kd x
  unfold blkK at h
  simp only [Bool.and_eq_true, List.all_eq_true, decide_eq_true_eq] at h
  obtain ⟨⟨⟨h1, h2⟩, h3⟩, h4⟩ := h
  refine ⟨?_, h2, fun p hp => by rw [G.N]; exact h3 p hp, fun y hy q => ?_, fun y hy q => ?_⟩
  · split at h1
    · assumption
    · cases h1
  · have z := h4 y hy
    rw [e y.1]
    simp only [q] at z
    split at z <;> first | exact .inl (by assumption) | exact .inr (by assumption) | cases z
  · have z := h4 y hy
    rw [G.N]
    rcases q with q | q <;> (simp only [q, Bool.or_eq_true, decide_eq_true_eq] at z; exact z)
theorem ownOf_ix {is : List Nat} {i : Nat} (h : (ownOf Γ scope is).map (·.2) = is) : True := trivial
/-- an iterable's check -/
theorem pi_it {k : ItK} {tgx iter : Expr} {xs : List Expr} {es : List E} (G : XG Γ W X) (e : itSyn Γ k tgx iter = some xs) (hs : xs.all notStar = true) (h : PEBs X Z.xi W Z.call Z.hear xs es) : PI X tgx iter (iQ X.K Z.xi W gC k (evalBs Z.call Z.hear es)) := by
  unfold itSyn at e
  split at e
  · split at e
    · cases e
      obtain ⟨f, rfl, h1⟩ := h.one
      exact pi_seq modeC h1
    · cases e
  · obtain ⟨l, hl⟩ := Option.filter_eq_some_iff.mp e
    obtain ⟨p, p', rfl, hg, hst⟩ := bcall_some l
    obtain ⟨x, rfl⟩ := len1 hl
    obtain ⟨f, rfl, h1⟩ := h.one
    rw [List.all_cons, Bool.and_eq_true] at hs
    exact pi_rng1 modeC G hg hs.1 h1
  · obtain ⟨l, hl⟩ := Option.filter_eq_some_iff.mp e
    obtain ⟨p, p', rfl, hg, hst⟩ := bcall_some l
    obtain ⟨x, y, rfl⟩ := len2 hl
    obtain ⟨f, g, rfl, h1, h2⟩ := h.two
    rw [List.all_cons, List.all_cons, Bool.and_eq_true, Bool.and_eq_true] at hs
    exact pi_rng2 modeC G hg hs.1 hs.2.1 h1 h2
  · split at e
    · rename_i ht
      obtain ⟨l, hl⟩ := Option.filter_eq_some_iff.mp e
      obtain ⟨p, p', rfl, hg, hst⟩ := bcall_some l
      obtain ⟨x, rfl⟩ := len1 hl
      obtain ⟨f, rfl, h1⟩ := h.one
      rw [List.all_cons, Bool.and_eq_true] at hs
      cases tgx <;> first | exact pi_en modeC G hg hs.1 h1 | cases ht
    · cases e
  · split at e
    · rename_i ht
      obtain ⟨l, hl⟩ := Option.filter_eq_some_iff.mp e
      obtain ⟨p, p', rfl, hg, hst⟩ := bcall_some l
      obtain ⟨x, y, rfl⟩ := len2 hl
      obtain ⟨f, g, rfl, h1, h2⟩ := h.two
      rw [List.all_cons, List.all_cons, Bool.and_eq_true, Bool.and_eq_true] at hs
      cases tgx <;> first | exact pi_zip' modeC G hg hs.1 hs.2.1 h1 h2 | cases ht
    · cases e
theorem okNm_s {x : PySem.Str} (h : okNm x = true) : (x == ("__debug__" : PySem.Str)) = false ∧ (x == ("__classdict__" : PySem.Str)) = false := by
  unfold okNm at h
  rw [Bool.and_eq_true] at h
  exact ⟨by simpa using h.1, by simpa using h.2⟩
theorem con_s {t : T} {ex : Expr} (A : At Z Γ W X) (FF : Facts Z) (h : chkCon Z.D Γ t ex = true) : plainTest ex = true ∧ SE X Z.xi W Z.call Z.hear (.con t) ex := by
  unfold chkCon at h
  split at h
  · rename_i c ec
    obtain ⟨j, p, rfl⟩ := asConst_some ec
    refine ⟨rfl, ?_⟩
    cases c <;> cases t <;> first | (simp only [chkConst] at h; cases h; done) | skip
    · exact se_con pe_non fun _ _ => .non
    · have e := eq_of_beq h
      subst e
      exact se_con pe_bl fun _ _ => .bl _
    · have e := of_decide_eq_true h
      subst e
      exact se_con pe_int fun _ _ => .int _
    · have e := of_decide_eq_true h
      subst e
      exact se_con pe_str fun _ _ => .str _
  · split at h
    · rename_i x ex
      obtain ⟨p, rfl⟩ := asNm_some ex
      refine ⟨rfl, ?_⟩
      rw [Bool.and_eq_true, Bool.and_eq_true] at h
      obtain ⟨⟨h1, h2⟩, h3⟩ := h
      split at h3
      · rename_i u eu
        have e := beqT_eq h3
        subst e
        obtain ⟨v, w, g1, g2, g3⟩ := FF.con x u eu
        refine se_con (pe_glob (A.g.gl h1) (by rw [A.mg]; exact g1) g2 (okNm_s h2).1) fun F as => ?_
        rw [A.K]
        exact g3 F as
      · cases h3
    · cases h
end Q
end
/-! QEnumL -/
section
set_option linter.all false
set_option maxRecDepth 100000
set_option maxHeartbeats 4000000
namespace Q
open PySem PySem.Spec PyProof.Rows L2
/-! list(enumerate(xs)) -/
theorem enum_no_len : typeLookup (.type "enumerate") "__len__" = pure none := by rw [typeLookup_type, builtinLookup_eq_fast]; kernel_rfl
theorem enum_no_hint : typeLookup (.type "enumerate") "__length_hint__" = pure none := by rw [typeLookup_type, builtinLookup_eq_fast]; kernel_rfl
/-- enumerate's object while the tuple at a, that it handed out, lives -/
def EOut (h : Heap) (e it : Addr) (c : Int) (old : Value) (a : Addr) (f : Bool) : Prop :=
  h.get? e = some { cls := .type "enumerate", dict := none, data := .fields #[rawInt a, .bool f, .ref it, rawInt c, .none, old], slots := #[] }
section
variable {prog : Program} {w : World} {A : Around} {E : Value → Shared → Prop} {s : Shared}
theorem enum_out {e it a : Addr} {fp : List Addr} {n i : Nat} {c : Int} {f : Bool} {oa : Obj} {P : Nat → Value → Prop} {St : Nat → Heap → Prop} {old : Value} {Q : Value → Shared → Prop}
    (D : Draws prog w A it fp n P St) (he : EOut s.heap e it c old a f) (ha : s.heap.get? a = some oa) (hae : a ≠ e) (hai : a ≠ it) (hst : St i s.heap) (hlt : i < n) (hne : e ≠ it) (hef : e ∉ fp)
    (hQ : ∀ x h' tk, P i x → EOut h' e it (c + 1) old a true → St (i + 1) h' → h'.get? s.heap.objs.size = some { cls := .type "tuple", data := .seq #[.int c tk, x] } → h'.objs.size = s.heap.objs.size + 1 →
      (∀ b o, b ≠ e → b ≠ it → s.heap.get? b = some o → h'.get? b = some o) → Q (.ref s.heap.objs.size) { s with heap := h', toks := tk + 1 }) :
    wpAny (model prog w) A (Builtin.«enumerate.__next__» ⟨[.ref e], []⟩) (fun fin s' => ∃ v, fin = .done (.ret v) ∧ Q v s') E s := by
  obtain ⟨hp, g, d, tk0, os⟩ := s
  show wpAny _ _ (field (.ref e) 2 >>= _) _ _ _
  refine wpAny_bind (wpAny_field he rfl (x := .ref it) rfl ?_)
  refine wpAny_bind (D.item i _ _ _ hlt hst fun x h1 tk px st1 s1 => ?_)
  replace s1 : Heap.SameBut it hp h1 := s1
  have e1 : EOut h1 e it c old a f := (s1.2 e hne).trans he
  show wpAny _ _ (field (.ref e) 3 >>= _) _ _ ⟨h1, g, d, tk, os⟩
  refine wpAny_bind (wpAny_field e1 rfl (x := rawInt c) rfl ?_)
  show wpAny _ _ (field (.ref e) 4 >>= _) _ _ ⟨h1, g, d, tk, os⟩
  refine wpAny_bind (wpAny_field e1 rfl (x := .none) rfl ?_)
  show wpAny _ _ (mkInt c >>= _) _ _ ⟨h1, g, d, tk, os⟩
  refine wpAny_bind (wpAny_mkInt ?_)
  show wpAny _ _ (setField (.ref e) 3 (rawInt (c + 1)) >>= _) _ _ ⟨h1, g, d, tk + 1, os⟩
  refine wpAny_bind (wpAny_setField_rec e1 (by simp) fun h2 e2 s2 => ?_)
  replace s2 : Heap.SameBut e h1 h2 := s2
  replace e2 : EOut h2 e it (c + 1) old a f := e2
  show wpAny _ _ (setField (.ref e) 4 .none >>= _) _ _ ⟨h2, g, d, tk + 1, os⟩
  refine wpAny_bind (wpAny_setField_rec e2 (by simp) fun h3 e3 s3 => ?_)
  replace s3 : Heap.SameBut e h2 h3 := s3
  replace e3 : EOut h3 e it (c + 1) old a f := e3
  show wpAny _ _ (newTuple [.int c tk, x] >>= _) _ _ ⟨h3, g, d, tk + 1, os⟩
  refine wpAny_bind (wpAny_newTuple ?_)
  have e4 : EOut (h3.push { cls := .type "tuple", data := .seq #[.int c tk, x] }) e it (c + 1) old a f := Heap.get?_push_of_some _ e3
  generalize hh4 : h3.push { cls := .type "tuple", data := .seq #[.int c tk, x] } = h4 at e4
  have hsz : h3.objs.size = hp.objs.size := by rw [s3.1, s2.1, s1.1]
  have hel : e < hp.objs.size := Heap.lt_size he
  have t4 : h4.get? hp.objs.size = some { cls := .type "tuple", data := .seq #[.int c tk, x] } := by rw [← hh4, ← hsz]; exact Heap.get?_push_size _ rfl
  have z4 : h4.objs.size = hp.objs.size + 1 := by rw [← hh4, Heap.size_push, hsz]
  have k4 : ∀ b o, b ≠ e → b ≠ it → hp.get? b = some o → h4.get? b = some o := fun b o n1 n2 q => by
    rw [← hh4]; exact Heap.get?_push_of_some _ (s3.extBut b o n1 (s2.extBut b o n1 (s1.extBut b o n2 q)))
  have st4 : St (i + 1) h4 := D.frame _ _ _ st1 fun b hb o y => by
    have n1 : b ≠ e := fun q => hef (q ▸ hb)
    rw [← hh4]; exact Heap.get?_push_of_some _ (s3.extBut b o n1 (s2.extBut b o n1 y))
  show wpAny _ _ (Builtin.SmallTypes.ownedTupleIsFree (.ref e) >>= _) _ _ ⟨h4, g, d, tk + 1, os⟩
  rw [hsz]
  clear hh4 e3 s3 e2 s2 e1 s1 st1 hsz h3 h2 h1
  have fin : ∀ h5 : Heap, EOut h5 e it (c + 1) old a true → Heap.SameBut e h4 h5 → Q (.ref hp.objs.size) ⟨h5, g, d, tk + 1, os⟩ := fun h5 e5 s5 =>
    hQ x h5 tk px e5 (D.frame _ _ _ st4 fun b hb o y => s5.extBut b o (fun q => hef (q ▸ hb)) y) (s5.extBut _ _ (Nat.ne_of_gt hel) t4) (by rw [s5.1, z4]) fun b o n1 n2 q => s5.extBut b o n1 (k4 b o n1 n2 q)
  refine wpAny_bind ?_
  unfold Builtin.SmallTypes.ownedTupleIsFree
  refine wpAny_bind (wpAny_field e4 rfl (x := rawInt a) rfl ?_)
  show wpAny _ _ (loadIfAlive ((a : Int).toNat) >>= _) _ _ _
  rw [Int.toNat_natCast]
  refine wpAny_bind (PySem.W.kdx_alive (k4 a oa hae hai ha) ?_)
  simp only [Option.isNone_some, Bool.false_eq_true, if_false]
  refine wpAny_bind (wpAny_field e4 rfl (x := .bool f) rfl ?_)
  cases f with
  | true =>
    rw [if_neg (show ¬ ((Value.bool true != Value.bool true) = true) from Bool.false_ne_true)]
    refine wpAny_pure ?_
    simp only [Bool.false_eq_true, if_false]
    exact wpAny_pure ⟨_, rfl, fin h4 e4 (Heap.SameBut.refl _ _)⟩
  | false =>
    rw [if_pos (show (Value.bool false != Value.bool true) = true from rfl)]
    refine wpAny_bind (wpAny_setField_rec e4 (by simp) fun h5 e5 s5 => ?_)
    replace s5 : Heap.SameBut e h4 h5 := s5
    replace e5 : EOut h5 e it (c + 1) old a true := e5
    refine wpAny_pure ?_
    simp only [Bool.false_eq_true, if_false]
    exact wpAny_pure ⟨_, rfl, fin h5 e5 s5⟩
/-- where enumerate stands: its tuple is free, or it lives at a -/
def ESt (h : Heap) (e it S : Addr) (c : Int) : Prop := (∃ old, IsEnum h e it c old) ∨ ∃ old a f oa, EOut h e it c old a f ∧ h.get? a = some oa ∧ a ≠ e ∧ a ≠ it ∧ a ≠ S
theorem ESt.obj {h : Heap} {e it S : Addr} {c : Int} (x : ESt h e it S c) : ∃ o, h.get? e = some o ∧ o.cls = .type "enumerate" := by
  rcases x with ⟨_, q⟩ | ⟨_, _, _, _, q, _⟩
  · exact ⟨_, q, rfl⟩
  · exact ⟨_, q, rfl⟩
theorem ESt.keep {h h' : Heap} {e it S : Addr} {c : Int} (x : ESt h e it S c) (hk : ∀ b o, b ≠ S → h.get? b = some o → h'.get? b = some o) (he : e ≠ S) : ESt h' e it S c := by
  rcases x with ⟨old, q⟩ | ⟨old, a, f, oa, q, qa, n1, n2, n3⟩
  · exact .inl ⟨old, hk e _ he q⟩
  · exact .inr ⟨old, a, f, oa, hk e _ he q, hk a _ n3 qa, n1, n2, n3⟩
theorem enum_item {e it S : Addr} {fp : List Addr} {n i : Nat} {c : Int} {P : Nat → Value → Prop} {St : Nat → Heap → Prop} {Q : Option Value → Shared → Prop}
    (D : Draws prog w A.in1 it fp n P St) (he : ESt s.heap e it S c) (hst : St i s.heap) (hlt : i < n) (hne : e ≠ it) (hef : e ∉ fp) (hS : S < s.heap.objs.size)
    (hQ : ∀ x h' tk, P i x → ESt h' e it S (c + 1) → St (i + 1) h' → h'.get? s.heap.objs.size = some { cls := .type "tuple", data := .seq #[.int c tk, x] } → h'.objs.size = s.heap.objs.size + 1 →
      (∀ b o, b ≠ e → b ≠ it → s.heap.get? b = some o → h'.get? b = some o) → Q (some (.ref s.heap.objs.size)) { s with heap := h', toks := tk + 1 }) :
    wpAny (model prog w) A (pyNext (.ref e)) Q E s := by
  have hel : e < s.heap.objs.size := by obtain ⟨o, q, _⟩ := he.obj; exact Heap.lt_size q
  have hil : it < s.heap.objs.size := by obtain ⟨o, q⟩ := D.live _ _ hst; exact Heap.lt_size q
  rcases he with ⟨old, q⟩ | ⟨old, a, f, oa, q, qa, n1, n2, n3⟩
  · exact wpAny_pyNext_enum_itemC D q hst hlt hne hef fun x h' tk px e' st' t' z' k' => hQ x h' tk px (.inr ⟨_, _, _, _, e', t', Nat.ne_of_gt hel, Nat.ne_of_gt hil, Nat.ne_of_gt hS⟩) st' t' z' k'
  · have hT : s.TypeIs (.ref e) "enumerate" := ⟨_, q, rfl⟩
    unfold pyNext
    exact wpAny_bind (wpAny_attempt (wpAny_callSpecial?_slot (name := Str.ofString "__next__") hT F.slot_enumerate_next
      (wpAny_call_entry F.slot_enumerate_next hT F.entry_enumerate_next
        (enum_out D q qa n1 n2 hst hlt hne hef fun x h' tk px e' st' t' z' k' => wpAny_pure (hQ x h' tk px (.inr ⟨_, _, _, _, e', k' a oa n1 n2 qa, n1, n2, n3⟩) st' t' z' k')) (F.args_enumerate_next_1 _))))
theorem enum_end {e it S : Addr} {fp : List Addr} {n : Nat} {c : Int} {P : Nat → Value → Prop} {St : Nat → Heap → Prop} {Q : Option Value → Shared → Prop}
    (D : Draws prog w A.in1 it fp n P St) (he : ESt s.heap e it S c) (hst : St n s.heap)
    (hQ : ∀ h', Heap.ExtBut it s.heap h' → Q none { s with heap := h' }) : wpAny (model prog w) A (pyNext (.ref e)) Q E s := by
  obtain ⟨o, ho, hc⟩ := he.obj
  have hT : s.TypeIs (.ref e) "enumerate" := ⟨o, ho, hc⟩
  have hf : ∀ {Q' : Value → Shared → Prop} {E' : Value → Shared → Prop} {A' : Around}, Q' (.ref it) s → wpAny (model prog w) A' (field (.ref e) 2) Q' E' s := by
    intro Q' E' A' h
    rcases he with ⟨old, q⟩ | ⟨old, a, f, oa, q, _⟩
    · exact wpAny_field q rfl (x := .ref it) rfl h
    · exact wpAny_field q rfl (x := .ref it) rfl h
  unfold pyNext
  refine wpAny_bind (wpAny_attempt (wpAny_callSpecial?_slot (name := Str.ofString "__next__") hT F.slot_enumerate_next
    (wpAny_call_entry F.slot_enumerate_next hT F.entry_enumerate_next ?_ (F.args_enumerate_next_1 _))))
  show wpAny _ _ (field (.ref e) 2 >>= _) _ _ _
  refine wpAny_bind (hf ?_)
  refine wpAny_bind (D.done _ _ _ hst fun h' x he' hx => ?_)
  obtain ⟨o', ho', hc'⟩ := hx
  refine wpAny_bind (wpAny_isInstance (T := "StopIteration") (b := true) ⟨o', ho', hc'⟩ isSubtype_stop ?_)
  exact wpAny_pure (hQ _ he')
/-- the tuples that were laid -/
structure EnT (P : Nat → Value → Prop) (lo : Addr) (h : Heap) (as : List Addr) : Prop where
  rise : as.Pairwise (· < ·)
  above : ∀ a ∈ as, lo < a
  tups : ∀ (j : Nat) (a : Addr), as[j]? = some a → ∃ t x, P j x ∧ h.get? a = some { cls := .type "tuple", data := .seq #[.int (j : Nat) t, x] }
theorem enl_loop {S e it : Addr} {fp : List Addr} {n : Nat} {P : Nat → Value → Prop} {St : Nat → Heap → Prop} {R : Result → Shared → Prop} {h₁ : Heap} (hh : A.handled = none) (D : ∀ A' : Around, A'.handled = none → Draws prog w A' it fp n P St)
    (hne : e ≠ it) (hef : e ∉ fp) (hSf : S ∉ fp) (heS : e < S) (hiS : it < S) (hn : n ≤ sizeLine) (res : Value)
    (hR : ∀ h' tk acc c as, (∀ b o, b ≠ S → b ≠ e → b ≠ it → h₁.get? b = some o → h'.get? b = some o) → h'.get? S = some { cls := .type "list", dict := none, data := .seq acc c, slots := #[] } → as.length = n → EnT P S h' as →
      acc.toList = as.map Value.ref → R (.ok (.ret res)) { s with heap := h', toks := tk }) :
    ∀ (k i : Nat) (h : Heap) (tk c : Nat) (acc : Array Value) (as : List Addr), n - i = k → i ≤ n → ESt h e it S ((i : Nat) : Int) → St i h → (∀ b o, b ≠ S → b ≠ e → b ≠ it → h₁.get? b = some o → h.get? b = some o) →
      h.get? S = some { cls := .type "list", dict := none, data := .seq acc c, slots := #[] } → acc.toList = as.map Value.ref → as.length = i → EnT P S h as →
      codeAny (model prog w) A (.builtin "list.extend.loop" ⟨[.ref S, .ref e, res], []⟩) R { s with heap := h, toks := tk } := by
  have n1 : S ≠ e := Nat.ne_of_gt heS
  have n2 : S ≠ it := Nat.ne_of_gt hiS
  intro k
  induction k with
  | zero =>
    intro i h tk c acc as hk hi hst hs hkeep hS hacc hal hG
    have hin : i = n := by omega
    subst hin
    refine codeAny_builtin PySem.F.entry_extend_loop ?_
    rw [Around.under_plainId PySem.F.plain_extend_loop _]
    show wpAny _ A.in1 (pyNext (.ref e) >>= _) _ _ _
    refine wpAny_bind (enum_end (s := { s with heap := h, toks := tk }) (D _ (by simpa using hh)) hst hs fun h' he => ?_)
    refine wpAny_pure (hR h' tk acc c as (fun b o h1 h2 h3 q => he b o h3 (hkeep b o h1 h2 h3 q)) (he S _ n2 hS) hal ⟨hG.rise, hG.above, fun j a hj => ?_⟩ hacc)
    obtain ⟨t, x, px, q⟩ := hG.tups j a hj
    have z := hG.above a (List.mem_of_getElem? hj)
    exact ⟨t, x, px, he a _ (Nat.ne_of_gt (Nat.lt_trans hiS z)) q⟩
  | succ k ih =>
    intro i h tk c acc as hk hi hst hs hkeep hS hacc hal hG
    have hlt : i < n := by omega
    have hsz : acc.size = i := by rw [← Array.length_toList, hacc, List.length_map, hal]
    have hSl : S < h.objs.size := Heap.lt_size hS
    refine codeAny_builtin PySem.F.entry_extend_loop ?_
    rw [Around.under_plainId PySem.F.plain_extend_loop _]
    show wpAny _ A.in1 (pyNext (.ref e) >>= _) _ _ _
    refine wpAny_bind (enum_item (s := { s with heap := h, toks := tk }) (D _ (by simpa using hh)) hst hs hlt hne hef hSl fun x h' tk' px e' st' t' z' k' => ?_)
    dsimp only at t' z' k' ⊢
    have hS' := k' S _ n1 n2 hS
    have up : ∀ b o, b ≠ S → h'.get? b = some o → (h'.update S (Obj.mapSeq (·.push (Value.ref h.objs.size)))).get? b = some o := fun b o hb q => (Heap.get?_update_other _ _ (Ne.symm hb)).trans q
    show wpAny _ A.in1 (updateSeq S (·.push (Value.ref h.objs.size)) >>= _) _ _ _
    refine wpAny_bind ?_
    have cst : ((i : Nat) : Int) + 1 = ((i + 1 : Nat) : Int) := by omega
    rw [cst] at e'
    refine wpAny_updateSeq hS' rfl (wpAny_pure ⟨plainId_quiet PySem.F.plain_extend_loop _, ih (i + 1) _ (tk' + 1) _ (acc.push (Value.ref h.objs.size)) (as ++ [h.objs.size]) (by omega) hlt (e'.keep up (Ne.symm n1)) ((D A hh).frame _ _ _ st' fun b hb o q => up b o (fun z => hSf (z ▸ hb)) q)
      (fun b o h1 h2 h3 q => up b o h1 (k' b o h2 h3 (hkeep b o h1 h2 h3 q))) (Heap.get?_update_self _ hS' rfl) (by rw [Array.toList_push, hacc, List.map_append]; rfl) (by rw [List.length_append, hal]; rfl) ⟨?_, ?_, ?_⟩⟩) (by rw [hsz]; omega) (by show (acc.push (Value.ref h.objs.size)).size ≤ sizeLine + 1; rw [Array.size_push, hsz]; omega)
    · refine List.pairwise_append.mpr ⟨hG.rise, List.pairwise_singleton _ _, fun a ha b hb => ?_⟩
      rw [List.mem_singleton.mp hb]
      obtain ⟨j, hj⟩ := List.mem_iff_getElem?.mp ha
      obtain ⟨_, _, _, q⟩ := hG.tups j a hj
      exact Heap.lt_size q
    · intro a ha
      rcases List.mem_append.mp ha with ha | ha
      · exact hG.above a ha
      · rw [List.mem_singleton.mp ha]; exact hSl
    · intro j b hj
      rcases Nat.lt_trichotomy j as.length with z | z | z
      · rw [List.getElem?_append_left z] at hj
        obtain ⟨t, y, py, q⟩ := hG.tups j b hj
        have hb := hG.above b (List.mem_of_getElem? hj)
        exact ⟨t, y, py, up b _ (Nat.ne_of_gt hb) (k' b _ (Nat.ne_of_gt (Nat.lt_trans heS hb)) (Nat.ne_of_gt (Nat.lt_trans hiS hb)) q)⟩
      · subst z
        have hb : h.objs.size = b := by simpa using hj
        subst hb
        subst hal
        exact ⟨tk', x, px, up _ _ (Nat.ne_of_gt hSl) t'⟩
      · rw [List.getElem?_eq_none (by rw [List.length_append, List.length_singleton]; omega)] at hj
        cases hj
theorem enl_extend {S e it : Addr} {fp : List Addr} {n : Nat} {P : Nat → Value → Prop} {St : Nat → Heap → Prop} {R : Result → Shared → Prop} (hh : A.handled = none) (D : ∀ A' : Around, A'.handled = none → Draws prog w A' it fp n P St)
    (hne : e ≠ it) (hef : e ∉ fp) (hSf : S ∉ fp) (heS : e < S) (hiS : it < S) (hn : n ≤ sizeLine) (res : Value) (c₀ : Nat) (he : IsEnum s.heap e it 0 .none) (hst : St 0 s.heap) (hS : s.heap.get? S = some { cls := .type "list", data := .seq #[] c₀ })
    (hR : ∀ h' tk acc c as, (∀ b o, b ≠ S → b ≠ e → b ≠ it → s.heap.get? b = some o → h'.get? b = some o) → h'.get? S = some { cls := .type "list", dict := none, data := .seq acc c, slots := #[] } → as.length = n → EnT P S h' as →
      acc.toList = as.map Value.ref → R (.ok (.ret res)) { s with heap := h', toks := tk }) :
    wpAny (model prog w) A.in1 (Builtin.List.listExtendWith (.ref S) (.ref e) res)
      (fun fin s' => match fin with | .done f => R (.ok f) s' | .again c' => c'.quiet = true ∧ codeAny (model prog w) A c' R s') (fun e s' => R (.error e) s') s := by
  have hT : s.TypeIs (.ref e) "enumerate" := ⟨_, he, rfl⟩
  have n1 : S ≠ e := Nat.ne_of_gt heS
  unfold Builtin.List.listExtendWith
  refine wpAny_bind (wpAny_typeOf hT ?_)
  have d1 : Builtin.List.listSameRef (.ref S) (.ref e) = false := by simp [Builtin.List.listSameRef, n1]
  have d2 : (Value.type "enumerate" == Value.type "list") = false := by decide
  have d3 : (Value.type "enumerate" == Value.type "tuple") = false := by decide
  simp only [d1, d2, d3, Bool.or_false, Bool.false_eq_true, if_false]
  refine wpAny_bind (wpAny_pyIter_enum he ?_)
  refine wpAny_bind (wpAny_holding ?_)
  unfold Builtin.List.listLengthHint
  refine wpAny_bind (wpAny_specialOf hT enum_no_len ?_)
  show wpAny _ A.in1 (specialOf (Value.ref e) (Str.ofString "__length_hint__") >>= _) _ _ _
  refine wpAny_bind (wpAny_specialOf hT enum_no_hint ?_)
  refine wpAny_pure ?_
  show wpAny _ A.in1 (rule "list.extend.makes-room" >>= fun _ => Builtin.List.listTouch (.ref S) >>= fun _ => again (.builtin "list.extend.loop" ⟨[.ref S, .ref e, res], []⟩)) _ _ _
  refine wpAny_bind (wpAny_rule ?_)
  refine wpAny_bind ?_
  show wpAny _ A.in1 (updateSeq S (·.push .none) >>= fun _ => updateSeq S (·.pop)) _ _ _
  refine wpAny_bind (wpAny_updateSeq hS rfl ?_)
  have hS2 := Heap.get?_update_self (Obj.mapSeq (·.push Value.none)) hS rfl
  refine wpAny_updateSeq (hz := by seq_fits) hS2 rfl ?_
  have hS3 := Heap.get?_update_self (Obj.mapSeq (·.pop)) hS2 rfl
  have oth : ∀ b o, b ≠ S → s.heap.get? b = some o → ((s.heap.update S (Obj.mapSeq (·.push Value.none))).update S (Obj.mapSeq (·.pop))).get? b = some o :=
    fun b o hb q => (Heap.get?_update_other _ _ (Ne.symm hb)).trans ((Heap.get?_update_other _ _ (Ne.symm hb)).trans q)
  exact wpAny_pure ⟨plainId_quiet F.plain_extend_loop _, enl_loop (h₁ := s.heap) hh D hne hef hSf heS hiS hn res hR n 0 _ s.toks _ #[] [] (Nat.sub_zero _) (Nat.zero_le _) (.inl ⟨.none, oth e _ (Ne.symm n1) he⟩)
    ((D A hh).frame _ _ _ hst fun b hb o q => oth b o (fun z => hSf (z ▸ hb)) q) (fun b o hb _ _ q => oth b o hb q) hS3 rfl rfl ⟨List.Pairwise.nil, (fun _ ha => nomatch ha), fun j a hj => by simp at hj⟩⟩
theorem enl_call {e it : Addr} {fp : List Addr} {n : Nat} {P : Nat → Value → Prop} {St : Nat → Heap → Prop} {Q : Value → Shared → Prop} (hh : A.handled = none) (D : ∀ A' : Around, A'.handled = none → Draws prog w A' it fp n P St)
    (hne : e ≠ it) (hef : e ∉ fp) (hfp : ∀ b ∈ fp, b < s.heap.objs.size) (hn : n ≤ sizeLine) (he : IsEnum s.heap e it 0 .none) (hst : St 0 s.heap) (hil : it < s.heap.objs.size)
    (hQ : ∀ h' tk acc c as, (∀ b o, b ≠ e → b ≠ it → s.heap.get? b = some o → h'.get? b = some o) → h'.get? s.heap.objs.size = some { cls := .type "list", dict := none, data := .seq acc c, slots := #[] } → as.length = n → EnT P s.heap.objs.size h' as →
      acc.toList = as.map Value.ref → Q (.ref s.heap.objs.size) { s with heap := h', toks := tk }) :
    wpAny (model prog w) A (call (.type "list") [.ref e]) Q E s := by
  refine callType_codes (Q₁ := fun obj s₁ => obj = .ref s.heap.objs.size ∧ s₁ = { s with heap := s.heap.push { cls := .type "list", data := .seq #[] } }) F.called_list (F.typeCall_list_1 _) F.entry_list_init (code_list_new _ ⟨rfl, rfl⟩) fun obj s₁ h₁ => ?_
  obtain ⟨rfl, rfl⟩ := h₁
  have hel : e < s.heap.objs.size := Heap.lt_size he
  have oS : (s.heap.push { cls := .type "list", data := .seq #[] }).get? s.heap.objs.size = some { cls := .type "list", data := .seq #[] } := Heap.get?_push_size _ rfl
  refine ⟨⟨_, oS, rfl⟩, F.args_list_init_2 _ _, ?_⟩
  show wpAny _ _ (do let old ← Builtin.List.listItems (.ref s.heap.objs.size); Builtin.List.listUpdate (.ref s.heap.objs.size) (fun _ => #[]); letGo old.toList.reverse; Builtin.List.listExtendWith (.ref s.heap.objs.size) (.ref e) .none) _ _ _
  refine wpAny_bind ?_
  unfold Builtin.List.listItems
  refine wpAny_bind (wpAny_seqItems oS rfl (wpAny_pure ?_))
  show wpAny _ _ (updateSeq s.heap.objs.size (fun _ => #[]) >>= fun _ => letGo (#[] : Array Value).toList.reverse >>= fun _ => Builtin.List.listExtendWith (.ref s.heap.objs.size) (.ref e) .none) _ _ _
  refine wpAny_bind (wpAny_updateSeq oS rfl ?_)
  have oS2 := Heap.get?_update_self (Obj.mapSeq (fun _ => (#[] : Array Value))) oS rfl
  have oth : ∀ b o, s.heap.get? b = some o → ((s.heap.push { cls := .type "list", data := .seq #[] }).update s.heap.objs.size (Obj.mapSeq (fun _ => (#[] : Array Value)))).get? b = some o :=
    fun b o q => (Heap.get?_update_other _ _ (Ne.symm (Nat.ne_of_lt (Heap.lt_size q)))).trans (Heap.get?_push_of_some _ q)
  refine wpAny_bind (wpAny_letGo ?_)
  refine enl_extend (A := A.in1) (by simpa using hh) D hne hef (fun z => Nat.lt_irrefl _ (hfp _ z)) hel hil hn .none _ (oth _ _ he) ((D A hh).frame _ _ _ hst fun b _ o q => oth b o q) oS2 fun h' tk acc c as hk hS' hl hG hacc => ?_
  exact ⟨rfl, hQ h' tk acc c as (fun b o n1 n2 q => hk b o (Nat.ne_of_lt (Heap.lt_size q)) n1 n2 (oth b o q)) hS' hl hG hacc⟩
end
end Q
end
/-! QEnumO -/
section
set_option linter.all false
set_option maxRecDepth 100000
set_option maxHeartbeats 4000000
namespace Q
open PySem PySem.Spec PyProof.Rows L2
/-! list(enumerate(xs)), by values -/
def idxV : Nat → List V → List (Key × V)
  | _, [] => []
  | k, x :: r => (.inl (k : Int), x) :: idxV (k + 1) r
def idxT : Nat → List T → List T
  | _, [] => []
  | k, x :: r => .tup [.int k, x] :: idxT (k + 1) r
theorem idxV_len : ∀ (k : Nat) (xs : List V), (idxV k xs).length = xs.length
  | _, [] => rfl
  | k, _ :: r => congrArg Nat.succ (idxV_len (k + 1) r)
theorem idxV_get : ∀ (k : Nat) (xs : List V) (j : Nat), (idxV k xs)[j]? = (xs[j]?).map fun x => (.inl ((k + j : Nat) : Int), x)
  | _, [], j => by simp [idxV]
  | k, x :: r, 0 => rfl
  | k, x :: r, j + 1 => by
    show (idxV (k + 1) r)[j]? = (r[j]?).map _
    rw [idxV_get (k + 1) r j]
    congr 1
    funext z
    rw [show k + 1 + j = k + (j + 1) from by omega]
theorem idxT_map : ∀ (k : Nat) (xs : List T), idxT k xs = xs.mapIdx fun i x => .tup [.int ((k + i : Nat) : Int), x]
  | _, [] => rfl
  | k, x :: r => by
    rw [List.mapIdx_cons]
    show T.tup [.int k, x] :: idxT (k + 1) r = _
    rw [idxT_map (k + 1) r]
    congr 1
    congr 1
    funext i x
    rw [show k + 1 + i = k + (i + 1) from by omega]
/-- the list at p of the tuples at ts -/
def rEnumL (K : PySem.W.Frag) : V → Hp → VK → Prop := fun x H Q => ∃ (a : Addr) (xs : List V), x = .ref a ∧ (SqL K H a xs ∨ SqT K H a xs) ∧ xs.length ≤ sizeLine ∧
  ∀ (p : Addr) (ts : List Addr), ts.length = xs.length → ts.Nodup → (∀ t ∈ ts, H t = none) → H p = none → p ∉ ts → Q (.ref p) (upd (LiI.putT H ts (idxV 0 xs)) p (.lst (ts.map V.ref)))
section
variable {X : Cx} {pins : List (Addr × Obj)} {σ : L2.St} {H : Hp} {s : Shared}
theorem enum_laid {h' : Heap} {tk : Nat} {xs : List V} {its : Array Value} {acc : Array Value} {c : Nat} {p : Addr} {as : List Addr} (I : Inv X pins σ H s) (hp : s.heap.objs.size ≤ p) (hz : xs.length ≤ sizeLine) (rv : Vals xs its.toList)
    (hk : ∀ b o, s.heap.get? b = some o → h'.get? b = some o) (hS : h'.get? p = some { cls := .type "list", dict := none, data := .seq acc c, slots := #[] }) (hl : as.length = xs.length) (hG : EnT (fun j v => its[j]? = some v) p h' as) (hacc : acc.toList = as.map Value.ref) :
    as.Nodup ∧ H p = none ∧ (∀ t ∈ as, H t = none) ∧ p ∉ as ∧ Inv X pins σ (upd (LiI.putT H as (idxV 0 xs)) p (.lst (as.map V.ref))) { s with heap := h', toks := tk } := by
  have hpn : p ∉ as := fun z => Nat.lt_irrefl _ (hG.above _ z)
  have nd : as.Nodup := List.Pairwise.imp (fun {a b} (h : a < b) => Nat.ne_of_lt h) hG.rise
  have new : ∀ t ∈ as, H t = none := fun t ht => I.hok.fresh (Nat.le_trans hp (Nat.le_of_lt (hG.above t ht)))
  have newS : H p = none := I.hok.fresh hp
  have atP := LiI.putT_at as (idxV 0 xs) H (by rw [idxV_len, hl]) nd
  have off : ∀ b, b ∉ as → b ≠ p → (upd (LiI.putT H as (idxV 0 xs)) p (.lst (as.map V.ref))) b = H b := fun b h1 h2 => by rw [upd_ne h2, LiI.putT_off as _ _ h1]
  have low : ∀ b o, s.heap.get? b = some o → b ∉ as ∧ b ≠ p := fun b o e => ⟨fun z => absurd (Heap.lt_size e) (Nat.not_lt.mpr (Nat.le_trans hp (Nat.le_of_lt (hG.above b z)))), Nat.ne_of_lt (Nat.lt_of_lt_of_le (Heap.lt_size e) hp)⟩
  have kp : ∀ b u, H b = some u → (upd (LiI.putT H as (idxV 0 xs)) p (.lst (as.map V.ref))) b = some u := fun b u e => by
    rw [off b (fun z => by rw [new b z] at e; cases e) (fun z => by rw [z, newS] at e; cases e)]
    exact e
  refine ⟨nd, newS, new, hpn, ?_⟩
  refine I.call' (ch := []) rfl ⟨fun b o q _ _ _ => hk b o q, fun b o q _ _ _ => ⟨o.slots, hk b o q⟩, fun b o q n _ => ?_, fun b o q _ => ⟨o, hk b o q⟩, fun b xs q => kp b _ q, fun b o u q => kp b _ q, fun b ps q => ⟨#[], by rw [kp b _ q]; simp⟩⟩ (fun b u q => ?_) I.bare fun b z => by simp at z
  · obtain ⟨z1, z2⟩ := low b o q
    rw [off b z1 z2]
    exact n
  · by_cases hb2 : b = p
    · rw [hb2] at q ⊢
      rw [upd_same] at q
      cases q
      refine ⟨by rw [List.length_map, hl]; exact hz, acc.toList, c, by rw [hacc]; exact LiI.vals_refs as, ?_⟩
      rw [Array.toArray_toList]
      exact hS
    · by_cases hb : b ∈ as
      · obtain ⟨j, pk, e1, e2, e3⟩ := LiI.paired_ix atP hb
        rw [upd_ne hb2, e3] at q
        cases q
        obtain ⟨t, y, f1, f2⟩ := hG.tups j b e1
        rw [idxV_get] at e2
        obtain ⟨x, g1, rfl⟩ := Option.map_eq_some_iff.mp e2
        obtain ⟨u, g2, g3⟩ := rv.get g1
        have g4 : y = u := by
          rw [Array.getElem?_toList] at g2
          rw [f1] at g2; exact Option.some.inj g2
        subst g4
        refine ⟨by show 2 ≤ sizeLine; decide, [.int (j : Nat) t, y], .cons ⟨t, ?_⟩ (.cons g3 .nil), ⟨_, f2, rfl, _, rfl⟩⟩
        rw [Nat.zero_add]
      · rw [off b hb hb2] at q
        exact (I.hok b u q).stay (fun d v _ y => hk d v y) (fun d y => kp d _ y) fun d xs y => kp d _ y
theorem enum_rule {P : Nat → Heap → Prop} {a : Addr} {v : Value} {o : Obj} {B0 : Heap → Prop} {its : Array Value} {xs : List V} {s1 : Shared} {Q : VK} (I1 : Inv X pins σ H s1) (hc : X.calm = true) (B : Begins v o B0) (h0 : B0 s1.heap) (ha : a < s1.heap.objs.size)
    (D : ∀ A' : Around, A'.handled = none → Draws X.prog X.w A' s1.heap.objs.size [s1.heap.objs.size, a] its.size (fun i v => its[i]? = some v) P) (st0 : ∀ h' : Heap, h'.get? s1.heap.objs.size = some o → (∀ b u, s1.heap.get? b = some u → h'.get? b = some u) → P 0 h')
    (rv : Vals xs its.toList) (hz : xs.length ≤ sizeLine)
    (q : ∀ (p : Addr) (ts : List Addr), ts.length = xs.length → ts.Nodup → (∀ t ∈ ts, H t = none) → H p = none → p ∉ ts → Q (.ref p) (upd (LiI.putT H ts (idxV 0 xs)) p (.lst (ts.map V.ref)))) :
    wpAny (model X.prog X.w) X.A (call (.type "enumerate") [v]) (fun e s2 => wpAny (model X.prog X.w) X.A (call (.type "list") [e]) (EP X pins σ Q) X.xe s2) X.xe s1 := by
  refine enum_begins1 B h0 fun h' he hit hsz hk => ?_
  have lz : xs.length = its.size := by rw [rv.length, Array.length_toList]
  refine enl_call (s := { s1 with heap := h' }) (I1.ok.hd hc) D (Nat.succ_ne_self _) (fun m => ?_) (fun b hb => ?_) (by rw [← lz]; exact hz) he (st0 h' hit hk) (by show _ < h'.objs.size; omega) fun h2 tk acc c as hk2 hS hl hG hacc => ?_
  · rcases List.mem_cons.mp m with z | z
    · exact absurd z (Nat.succ_ne_self _)
    · rw [List.mem_singleton] at z
      exact absurd ha (Nat.not_lt.mpr (Nat.le_of_lt (by rw [← z]; exact Nat.lt_succ_self _)))
  · show b < h'.objs.size
    rcases List.mem_cons.mp hb with z | z
    · rw [z, hsz]; exact Nat.lt_add_of_pos_right (by decide)
    · rw [List.mem_singleton] at z
      rw [z, hsz]; exact Nat.lt_of_lt_of_le ha (Nat.le_add_right _ _)
  · obtain ⟨nd, k1, k2, k3, J⟩ := enum_laid (tk := tk) (p := h'.objs.size) I1 (by omega) hz rv (fun b u e => hk2 b u (Nat.ne_of_lt (Nat.lt_succ_of_lt (Heap.lt_size e))) (Nat.ne_of_lt (Heap.lt_size e)) (hk b u e)) hS (by rw [hl, lz]) hG hacc
    exact ⟨.ref _, _, J, rfl, q _ as (by rw [hl, lz]) nd k2 k1 k3⟩
theorem pe_enumL {e : Expr} {ta : TA} {p p2 pos pos2 : Pos} (hc : X.calm = true) (hg : Gl X "list") (hm : X.mg "list" = none) (hg2 : Gl X "enumerate") (hm2 : X.mg "enumerate" = none) (ha : PA X [e] ta) (hs : starEach [e] X.env = [(false, eval e X.env)]) :
    PE X (.Call (.Name "list" p) [.Call (.Name "enumerate" p2) [e] [] pos2] [] pos) (fun σ H Q => ta σ H fun vs H1 => ∃ x, vs = [x] ∧ rEnumL X.K x H1 Q) := by
  refine ⟨fun pins s σ H Q I h => ?_⟩
  refine Call_ (ld_blt I hg hm PyProof.Rows.boot_list ?_)
  refine PyProof.Rows.callWith_type1 (PyProof.Rows.args_cons ?_ rfl) rfl rfl
  refine Call_ (ld_blt I hg2 hm2 boot_enumerate (PyProof.Rows.callWith_type1 (thn (ha.run pos2 pins s σ H _ I h) fun us s1 ⟨vs, H1, I1, r1, q1⟩ => ?_) hs rfl))
  obtain ⟨x, rfl, a, xs, rfl, hq, hz, q⟩ := q1
  cases r1 with
  | cons r rr =>
    cases rr
    cases r
    rcases hq with hq | hq
    · obtain ⟨its, rv, pl, _⟩ := I1.list hq
      have iL : s1.heap.IsList a its.toArray := pl.isList
      have al : a < s1.heap.objs.size := by obtain ⟨_, q, _⟩ := iL; exact Heap.lt_size q
      refine wpAny_mono (enum_rule (a := a) I1 hc (begins_list a its.toArray) iL al (fun A' hA => Draws.list hA _ a (Nat.ne_of_lt al) its.toArray) (fun h' hit hk => ⟨⟨_, hit, rfl, rfl⟩, iL.at fun o e => hk a o e⟩) (by simpa using rv) hz q) (fun e s2 z => PyProof.Rows.args_nil z) fun _ _ z => z
    · obtain ⟨its, rv, pl, _⟩ := I1.tuple hq
      have iT : s1.heap.IsTuple a its.toArray := pl
      have al : a < s1.heap.objs.size := by obtain ⟨_, q, _⟩ := iT; exact Heap.lt_size q
      refine wpAny_mono (enum_rule (a := a) I1 hc (begins_tuple a its.toArray) iT al (fun A' hA => Draws.tuple hA _ a (Nat.ne_of_lt al) its.toArray) (fun h' hit hk => ⟨⟨_, hit, rfl, rfl⟩, iT.at fun o e => hk a o e⟩) (by simpa using rv) hz q) (fun e s2 z => PyProof.Rows.args_nil z) fun _ _ z => z
end
section
variable {K : PySem.W.Frag} {as0 : List Addr} {st : Store}
theorem put_nxt : ∀ (as : List Addr) (k : Nat) (vs : List V) (ts : List T) (F H : Hp), Sub F H → Sto K F as0 st H → Reps K F as0 vs ts → as.length = vs.length → as.Nodup → (∀ t ∈ as, H t = none) →
    Nxt F as0 H (LiI.putT F as (idxV k vs)) as0 (LiI.putT H as (idxV k vs)) ∧ Sub (LiI.putT F as (idxV k vs)) (LiI.putT H as (idxV k vs)) ∧ Sto K (LiI.putT F as (idxV k vs)) as0 st (LiI.putT H as (idxV k vs)) ∧ Reps K (LiI.putT F as (idxV k vs)) as0 (as.map V.ref) (idxT k ts)
  | [], k, vs, ts, F, H, s, S, r, hl, hn, hf => by
    cases r with
    | nil => exact ⟨Nxt.refl _ _ _, s, S, .nil⟩
    | cons _ _ => cases hl
  | a :: as, k, vs, ts, F, H, s, S, r, hl, hn, hf => by
    cases r with
    | nil => cases hl
    | cons h r =>
      rename_i v vs t ts
      have hn' := List.nodup_cons.mp hn
      have ha := hf a List.mem_cons_self
      have n1 := nxt_new (as := as0) (F := F) (o := .tup [.int (k : Nat), v]) s ha
      have S1 := S.new (o := .tup [.int (k : Nat), v]) s ha
      have s1 := sub_upd2 (a := a) (o := .tup [.int (k : Nat), v]) s
      obtain ⟨n2, s2, S2, r2⟩ := put_nxt as (k + 1) vs ts (upd F a (.tup [.int (k : Nat), v])) (upd H a (.tup [.int (k : Nat), v])) s1 S1 (r.mono n1.ff n1.pre) (Nat.succ.inj hl) hn'.2 fun t ht => by
        rw [upd_ne (fun z : t = a => hn'.1 (by rw [← z]; exact ht))]; exact hf t (List.mem_cons_of_mem _ ht)
      refine ⟨n1.trans n2, s2, S2, .cons ?_ r2⟩
      refine Rep.mono n2.ff n2.pre ?_
      exact .tup (SqT.of upd_same) (by show 2 ≤ sizeLine; decide) (.cons (.int _) (.cons (h.mono n1.ff n1.pre) .nil))
theorem ROp.enumL {x : V} {H : Hp} {Q : VK} (h : ROp K .listEnum [x] H Q) : rEnumL K x H Q := by
  obtain ⟨F, as, st, ts, t, hs, S, hr, e, p⟩ := h
  obtain ⟨a, rfl, ha⟩ := hr.one
  simp only [opEval] at e
  obtain ⟨ys, e1, e2⟩ := Option.map_eq_some_iff.mp e
  subst e2
  obtain ⟨d, vs, rfl, h1, h2, h3⟩ := viewS S hs ha e1
  refine ⟨d, vs, rfl, h1, h2, fun b us hl nd hf hb hnb => ?_⟩
  obtain ⟨n1, s1, S1, r1⟩ := put_nxt us 0 vs ys F H hs S h3 hl nd hf
  have z := idxT_map 0 ys
  have z2 : idxT 0 ys = ys.mapIdx fun i x => .tup [.int (i : Nat), x] := by
    rw [z]; congr 1; funext i x; rw [Nat.zero_add]
  rw [z2] at r1
  exact (p.nxt n1).lst s1 S1 r1 (by rw [List.length_map, hl]; exact h2) b (by rw [LiI.putT_off us _ _ hnb]; exact hb)
end
section
variable {Γ : Sc} {W : WX} {X : Cx} {xi : XI} {call : Nat → List T → List T → Store → O T} {hear : Nat → Store → O T → O T}
theorem ok_enumL {ex : Expr} {xs : List Expr} {es : List E} (G : XG Γ W X) (e : (match bcall Γ "list" ex with
        | some [y] => (bcall Γ "enumerate" y).filter fun l => l.length == 1
        | _ => none) = some xs) (h : PEBs X xi W call hear xs es) : OpOk X xi W call hear .listEnum es ex := by
  split at e
  · rename_i y eb
    obtain ⟨l, hl⟩ := Option.filter_eq_some_iff.mp e
    obtain ⟨p, p', rfl, hg, hs⟩ := bcall_some l
    obtain ⟨p2, p2', rfl, hg2, hs2⟩ := bcall_some eb
    match xs, hl with
    | [x], _ =>
      have hx : notStar x = true := by rw [List.all_cons, Bool.and_eq_true] at hs; exact hs.1
      obtain ⟨f, rfl, h1⟩ := h.one
      refine PE.imp (pe_enumL G.calm (G.gl hg2) (G.free "list" (by decide)) (G.gl hg) (G.free "enumerate" (by decide)) (pa_cons h1 pa_nil (star1 hx)) (star1 hx)) fun σ H Q q => ?_
      obtain ⟨F, as, ρ, st, S, q⟩ := one_of q
      exact ⟨F, as, ρ, st, S, q.imp fun t st' _ r => fun F' as' H' v n s So rr => ⟨v, rfl, (r F' as' H' v n s So rr).enumL⟩⟩
  · cases e
end
end Q
end
/-! QSetL -/
section
set_option linter.all false
set_option maxRecDepth 100000
set_option maxHeartbeats 4000000
namespace Q
open PySem PySem.Spec PyProof.Rows L2
/-! without the second ones -/
theorem mem_dups {k : Int} : ∀ {l : List Int}, k ∈ l.eraseDups ↔ k ∈ l := by
  intro l
  induction h : l.length using Nat.strongRecOn generalizing l with
  | ind n ih =>
    cases l with
    | nil => simp
    | cons x r =>
      rw [List.eraseDups_cons, List.mem_cons, List.mem_cons]
      have hl : (r.filter fun b => !b == x).length < n := by
        have := List.length_filter_le (fun b => !b == x) r
        rw [← h, List.length_cons]; omega
      rw [ih _ hl rfl, List.mem_filter]
      by_cases q : k = x
      · simp [q]
      · simp [q]
theorem nodup_dups : ∀ l : List Int, l.eraseDups.Nodup := by
  intro l
  induction h : l.length using Nat.strongRecOn generalizing l with
  | ind n ih =>
    cases l with
    | nil => simp
    | cons x r =>
      rw [List.eraseDups_cons]
      have hl : (r.filter fun b => !b == x).length < n := by
        have := List.length_filter_le (fun b => !b == x) r
        rw [← h, List.length_cons]; omega
      refine List.nodup_cons.mpr ⟨fun m => ?_, ih _ hl _ rfl⟩
      rw [mem_dups, List.mem_filter] at m
      simpa using m.2
/-! set(l) of a list of ints -/
/-- a set that is just made -/
abbrev set0 (w : World) : Obj := { cls := .type "set", dict := none, data := .set #[] 0 (.fresh 0 0 (!w.params.followText "set-order")) }
section
variable {P : Program} {w : World} {A : Around} {E : Value → Shared → Prop} {s : Shared}
set_option maxHeartbeats 8000000 in
theorem set_of_lst {l : Addr} {items : Array Value} (ns : List Int) {Q : Value → Shared → Prop} (hh : A.handled = none) (hl : s.heap.IsList l items) (hit : IntsAre items.toList ns) (hb : ns.length + 1 < scanBound)
    (h : ∀ (h' : Heap) (tk c : Nat), SetR w h' s.heap.objs.size (fun j => decide (j ∈ ns)) c → c ≤ ns.length → (∀ b o, s.heap.get? b = some o → h'.get? b = some o) → Q (.ref s.heap.objs.size) { s with heap := h', toks := tk }) :
    wpAny (model P w) A (call (.type "set") [.ref l]) Q E s := by
  have nz : items.size = ns.length := by
    have z := hit.length
    rw [Array.length_toList] at z
    exact z
  obtain ⟨cc, tl, hmro⟩ := F.called_set.mro
  have k1 := F.called_set.made
  have k2 := F.called_set.sub
  refine wpAny_call (codeAny_of_tree ?_)
  show wpAny _ _ (callAny (.type "set") _) _ _ _
  refine wpAny_pure ⟨Code.quiet_builtin _ (by decide +kernel), codeAny_builtin F.entry_type_call ?_⟩
  rw [Around.under_plain (weight_type_call_type "set" [.ref l] []) rfl]
  have k3 := F.called_set.notType
  have k4 := F.called_set.canCreate
  have k5 := F.typeCall_set_1 (.ref l)
  repeat (any_goals (first | assumption | wp_step))
  refine codeAny_mono (code_set_led1 (.ref l) (E := E) (Q₁ := fun obj s₁ => obj = .ref s.heap.objs.size ∧ s₁ = { s with heap := s.heap.push (set0 w) }) ⟨rfl, rfl⟩) fun r s₁ hr => ?_
  cases r with
  | error e => exact hr
  | ok fl =>
    cases fl with
    | ret obj =>
      obtain ⟨rfl, rfl⟩ := hr
      have oS : (s.heap.push (set0 w)).get? s.heap.objs.size = some (set0 w) := Heap.get?_push_size _ rfl
      have tS : Shared.TypeIs { s with heap := s.heap.push (set0 w) } (.ref s.heap.objs.size) "set" := ⟨_, oS, rfl⟩
      have k6 := F.called_set.init.lookup
      have k7 := F.called_set.init.bind (.ref s.heap.objs.size)
      repeat (any_goals (first | assumption | wp_step))
      refine codeAny_mono (codeAny_call_builtin (R := wants (fun r s₂ => r = .none ∧ ∃ h' tk c, s₂ = { s with heap := h', toks := tk } ∧ SetR w h' s.heap.objs.size (fun j => decide (j ∈ ns)) c ∧ c ≤ ns.length ∧
          (∀ b o, s.heap.get? b = some o → h'.get? b = some o)) E) F.called_set.init.plain F.entry_set_init (check_set_init_1 tS ?_)) fun r₂ s₂ hr₂ => ?_
      · obtain ⟨ol, oL, oc, nl, od⟩ := hl
        obtain ⟨a1, a2, a3, a4⟩ := ol
        simp only at oc od
        subst oc; subst od
        have oL' : (s.heap.push (set0 w)).get? l = some { cls := .type "list", dict := a2, data := .seq items nl, slots := a4 } := Heap.get?_push_of_some _ oL
        have k8 := F.sub_list_set
        have k9 := F.sub_list_frozenset
        have k10 : (Value.type "list" == Value.type "dict") = false := by decide
        have iL : (s.heap.push (set0 w)).IsList l items := ⟨_, oL', rfl, nl, rfl⟩
        unfold Builtin.«set.__init__» noKeywords Builtin.Frozenset.updateFrom
        generalize hPI : pyIter = PI
        wp_walk
        subst hPI
        refine wpAny_pyIter_list iL ?_
        refine wpAny_bind (wpAny_runValue ?_)
        have lt : l < s.heap.objs.size := Heap.lt_size oL
        have hn : A.in1.in1.in1.handled = none := by simp [hh]
        have sz : (s.heap.push (set0 w)).objs.size = s.heap.objs.size + 1 := Heap.size_push ..
        have ne : l ≠ (s.heap.push (set0 w)).objs.size := fun z => by rw [sz] at z; rw [z] at lt; exact absurd lt (Nat.not_lt.mpr (Nat.le_succ _))
        have nf : s.heap.objs.size ∉ [(s.heap.push (set0 w)).objs.size, l] := fun m => by
          rw [sz] at m
          rcases List.mem_cons.mp m with z | z
          · exact absurd z (Nat.ne_of_lt (Nat.lt_succ_self _))
          · rw [List.mem_singleton.mp z] at lt; exact absurd lt (Nat.lt_irrefl _)
        have hv : ∀ (i : Nat) (v : Value), items[i]? = some v → ∃ k t, ns[i]? = some k ∧ v = .int k t := fun i v e => by
          obtain ⟨t, q⟩ := PyProof.Rows.IntsAre.int_at hit i v (by rw [Array.getElem?_toList]; exact e)
          have hi : i < ns.length := by rw [← nz]; exact (Array.getElem?_eq_some_iff.mp e).1
          exact ⟨ns[i], t, List.getElem?_eq_getElem hi, by rw [q, List.getD_eq_getElem?_getD, List.getElem?_eq_getElem hi]; rfl⟩
        refine set_update_ints ((Walks.list hn _ l ne items).toS) s.heap.objs.size nf ns nz hb hv (items.size - 0) 0 _ (by omega) (Nat.zero_le _) ⟨⟨_, Heap.get?_push_size _ rfl, rfl, rfl⟩, (iL.push _)⟩ ?first ?last
        case first => exact ⟨0, Nat.le_refl 0, setR_new_at (Heap.get?_push_of_some _ oS)⟩
        case last =>
          intro s' c' hm hc' hS'
          obtain ⟨h', g2, d', tk', os'⟩ := s'
          obtain rfl : g2 = s.gens := hm.gens
          obtain rfl : d' = s.drawn := hm.drawn
          obtain rfl : os' = s.os := hm.os
          show wpAny _ _ _ _ _ _
          refine wpAny_pure ?_
          show wpAny _ _ (ret Value.none) _ _ _
          rw [nz] at hc'
          refine wpAny_pure ⟨rfl, h', tk', c', rfl, hS', hc', fun b o e => ?_⟩
          have b0 : b < s.heap.objs.size := Heap.lt_size e
          refine hm.heap b o (fun m => ?_) (Heap.get?_push_of_some _ (Heap.get?_push_of_some _ e))
          rw [sz] at m
          rcases List.mem_cons.mp m with z | z
          · rw [z] at b0; exact absurd b0 (Nat.lt_irrefl _)
          · rw [List.mem_singleton.mp z] at b0; exact absurd b0 (Nat.not_lt.mpr (Nat.le_succ _))
      · cases r₂ with
        | error e => exact hr₂
        | ok fl₂ =>
          cases fl₂ with
          | ret r =>
            obtain ⟨rfl, h', tk, c', rfl, hS', hc', hk'⟩ := hr₂
            repeat (any_goals (first | assumption | wp_step))
            exact h _ _ _ hS' hc' hk'
          | _ => exact hr₂.elim
    | _ => exact hr.elim
end
end Q
end
/-! QOps5 -/
section
set_option linter.all false
set_option maxRecDepth 100000
set_option maxHeartbeats 4000000
namespace Q
open PySem PySem.Spec PyProof.Rows L2
theorem setR_count {w : World} {h : Heap} {a : Addr} {ns : List Int} {c : Nat} (R : SetR w h a (fun j => decide (j ∈ ns)) c) : c = ns.eraseDups.length := by
  obtain ⟨o, es, ep, t, ho, hex, hd, g, nd, hm, hb, hf, hn, hr, hl⟩ := R
  have e : (es.toList.map L2.keyOf).Perm ns.eraseDups := by
    refine (List.perm_ext_iff_of_nodup nd ?_).mpr fun k => ?_
    · exact nodup_dups ns
    · rw [← hm k, decide_eq_true_eq, mem_dups]
  have z := e.length_eq
  rw [List.length_map, Array.length_toList] at z
  rw [← hn, z]
/-- a set of ints of a list -/
def rSetLi (K : PySem.W.Frag) (w : World) : List V → Hp → VK → Prop := fun xs H Q => ∃ (a : Addr) (ns : List Int), xs = [.ref a] ∧ SqL K H a (ns.map V.int) ∧ ns.length + 1 < scanBound ∧ ∀ p, H p = none → Q (.ref p) (upd H p (SetO w p (fun j => decide (j ∈ ns)) ns.eraseDups.length))
section
variable {Γ : Sc} {W : WX} {X : Cx} {xi : XI} {call : Nat → List T → List T → Store → O T} {hear : Nat → Store → O T → O T}
theorem cl_setL (hc : X.calm = true) : CallR X (.type "set") (rSetLi X.K X.w) := by
  intro pins s σ H xs us Q I r h
  obtain ⟨a, ns, rfl, hq, hl, q⟩ := h
  obtain ⟨its, rv, pl, hz⟩ := I.list hq
  rw [Vals.ref1 r]
  refine set_of_lst ns (I.ok.hd hc) pl.isList rv.ints hl fun h' tk c R1 hcn k => ?_
  exact ⟨.ref _, upd H s.heap.objs.size (SetO X.w s.heap.objs.size (fun j => decide (j ∈ ns)) ns.eraseDups.length), I.laid k (Nat.le_refl _) (setO_new (by rw [← setR_count R1]; exact R1)), rfl, q _ (I.hok.fresh (Nat.le_refl _))⟩
theorem ROp.setSort {K : PySem.W.Frag} {w : World} {xs : List V} {H : Hp} {Q : VK} (h : ROp K .setSort xs H Q) : rSetLi K w xs H fun v H2 => rSortedSet w [v] H2 Q := by
  obtain ⟨F, as, st, ts, t, hs, S, hr, e, p⟩ := h
  obtain ⟨a, rfl⟩ := op1 e (fun l hl => by unfold opEval; split <;> simp_all)
  obtain ⟨x, rfl, ha⟩ := RepBs.lenOne hr
  simp only [opEval] at e
  obtain ⟨ys, e1, e2⟩ := Option.bind_eq_some_iff.mp e
  obtain ⟨is, e3, e4⟩ := Option.bind_eq_some_iff.mp e2
  split at e4
  · rename_i hc
    cases e4
    obtain ⟨d, vs, rfl, h1, h2, h3⟩ := viewL S hs ha e1
    have ev := h3.ints e3
    subst ev
    refine ⟨d, is, rfl, h1, by unfold scanBound; omega, fun b hb => ⟨b, _, _, rfl, upd_same, hc.2, fun ns q pw hm hl hq => ?_⟩⟩
    have pm : ns.Perm is.eraseDups := (List.perm_ext_iff_of_nodup (pw.imp fun z => by omega) (nodup_dups is)).mpr fun k => by rw [hm k, decide_eq_true_eq, mem_dups]
    have z := same_ints (pm.trans (sortI_perm is.eraseDups).symm) (pw.imp fun z => by omega) (sortI_sorted is.eraseDups)
    subst z
    refine (p.nxt (nxt_own hb)).lst (sub_updR hs (sub_none hs hb)) (S.newOwn hb) (Reps.ofInts _) ?_ q hq
    rw [List.length_map, (sortI_perm _).length_eq, sizeLine_eq]; omega
  · cases e4
theorem ok_setSort {ex : Expr} {xs : List Expr} {es : List E} (G : XG Γ W X) (e : (match bcall Γ "sorted" ex with
        | some [y] => (bcall Γ "set" y).filter fun l => l.length == 1
        | _ => none) = some xs) (h : PEBs X xi W call hear xs es) : OpOk X xi W call hear .setSort es ex := by
  split at e
  · rename_i y eb
    obtain ⟨l, hl⟩ := Option.filter_eq_some_iff.mp e
    obtain ⟨p, p', rfl, hg, hs⟩ := bcall_some l
    obtain ⟨p2, p2', rfl, hg2, hs2⟩ := bcall_some eb
    match xs, hl with
    | [x], _ =>
      have hx : notStar x = true := by rw [List.all_cons, Bool.and_eq_true] at hs; exact hs.1
      have h1 := pe_callTy (p := p) (pos := p') (cl_setL G.calm) (G.gl hg) (G.free "set" (by decide)) (by decide +kernel) (h.pa hs) (by decide) (by decide) (star1 hx) rfl
      refine PE.imp (pe_callB (cr_sortedSet G.calm) (G.gl hg2) (G.free "sorted" (by decide)) (by decide +kernel) (pa_cons h1 pa_nil rfl) (by decide) (by decide) rfl rfl) fun σ H Q q => ?_
      obtain ⟨F, as, ρ, st, S, q⟩ := tF_op q
      exact ⟨F, as, ρ, st, S, q.imp fun t st' _ r => fun F' as' H' v n s So rr => (r F' as' H' v n s So rr).setSort⟩
  · cases e
/-! list(range(..)) -/
theorem reps_rg {K : PySem.W.Frag} {F : Hp} {as : List Addr} (a b : Int) : Reps K F as (rgV a b) ((rgI a b).map .int) := by
  have e : rgV a b = (rgI a b).map V.int := by unfold rgV rgI; rw [List.map_map]; rfl
  rw [e]; exact Reps.ofInts _
theorem ROp.rg1 {K : PySem.W.Frag} {x : V} {H : Hp} {Q : VK} (h : ROp K .listRange [x] H Q) : ∃ n, x = .int n ∧ RgOk 0 n ∧ ∀ q, H q = none → Q (.ref q) (upd H q (.lst (rgV 0 n))) := by
  obtain ⟨F, as, st, ts, t, hs, S, hr, e, p⟩ := h
  obtain ⟨a, rfl, ha⟩ := hr.one
  cases a <;> simp only [opEval] at e <;> try cases e
  case int i =>
    have e1 := ha.int
    subst e1
    split at e
    · rename_i hi
      cases e
      refine ⟨i, rfl, ⟨by omega, by omega, by omega, by omega, by omega⟩, p.lst hs S (reps_rg 0 i) ?_⟩
      rw [rgV_length, sizeLine_eq]; omega
    · cases e
theorem ROp.rg2 {K : PySem.W.Frag} {x y : V} {H : Hp} {Q : VK} (h : ROp K .listRange [x, y] H Q) : ∃ i j, x = .int i ∧ y = .int j ∧ RgOk i j ∧ ∀ q, H q = none → Q (.ref q) (upd H q (.lst (rgV i j))) := by
  obtain ⟨F, as, st, ts, t, hs, S, hr, e, p⟩ := h
  obtain ⟨a, b, rfl, ha, hb⟩ := hr.two
  cases a <;> cases b <;> simp only [opEval] at e <;> try cases e
  case int.int i j =>
    have e1 := ha.int
    have e2 := hb.int
    subst e1 e2
    split at e
    · rename_i hi
      cases e
      refine ⟨i, j, rfl, rfl, ⟨by omega, by omega, by omega, by omega, by omega⟩, p.lst hs S (reps_rg i j) ?_⟩
      rw [rgV_length, sizeLine_eq]; omega
    · cases e
theorem ok_listRg {ex : Expr} {xs : List Expr} {es : List E} (G : XG Γ W X) (e : (match bcall Γ "list" ex with
        | some [y] => (bcall Γ "range" y).filter fun l => l.length == 1 || l.length == 2
        | _ => none) = some xs) (h : PEBs X xi W call hear xs es) : OpOk X xi W call hear .listRange es ex := by
  split at e
  · rename_i y eb
    obtain ⟨l, hl⟩ := Option.filter_eq_some_iff.mp e
    obtain ⟨p, p', rfl, hg, hs⟩ := bcall_some l
    obtain ⟨p2, p2', rfl, hg2, hs2⟩ := bcall_some eb
    match xs, hl with
    | [x], _ =>
      have hx : notStar x = true := by rw [List.all_cons, Bool.and_eq_true] at hs; exact hs.1
      obtain ⟨f, rfl, h1⟩ := h.one
      refine PE.imp (pe_listRg G.calm (G.gl hg2) (G.free "list" (by decide)) (prg_1 (G.gl hg) (G.free "range" (by decide)) h1 (star1 hx)) rfl) fun σ H Q q => ?_
      obtain ⟨F, as, ρ, st, S, q⟩ := one_of q
      exact ⟨F, as, ρ, st, S, q.imp fun t st' _ r => fun F' as' H' v n s So rr => (r F' as' H' v n s So rr).rg1⟩
    | [x, y], _ =>
      rw [List.all_cons, List.all_cons, Bool.and_eq_true, Bool.and_eq_true] at hs
      obtain ⟨f, g, rfl, h1, h2⟩ := h.two
      refine PE.imp (pe_listRg G.calm (G.gl hg2) (G.free "list" (by decide)) (prg_2 (G.gl hg) (G.free "range" (by decide)) h1 h2 (star1 hs.1) (star1 hs.2.1) (by rw [star1 hs.2.1]; rfl)) rfl) fun σ H Q q => ?_
      obtain ⟨F, as, ρ, st, S, q⟩ := two_of q
      refine ⟨F, as, ρ, st, S, q.imp fun t st' _ r => fun F' as' H' v n s So rr => ?_⟩
      obtain ⟨F2, as2, ρ2, st2, S2, q2⟩ := r F' as' H' v n s So rr
      exact ⟨F2, as2, ρ2, st2, S2, q2.imp fun t st' _ r => fun F' as' H' v n s So rr => (r F' as' H' v n s So rr).rg2⟩
  · cases e
end
end Q
end
/-! QSumL -/
section
set_option linter.all false
set_option maxRecDepth 100000
set_option maxHeartbeats 4000000
namespace Q
open PySem PySem.Spec PyProof.Rows L2
/-! sum(lists, []) -/
theorem args_sum2 (a b : Value) : argsOk "sum" ⟨[a, b], []⟩ := by unfold argsOk; kernel_rfl
theorem lst_no_str : isSubtype (.type "list") (.type "str") = pure false := by rw [isSubtype_type]; kernel_rfl
theorem lst_no_bytes : isSubtype (.type "list") (.type "bytes") = pure false := by rw [isSubtype_type]; kernel_rfl
theorem lst_no_bytearray : isSubtype (.type "list") (.type "bytearray") = pure false := by rw [isSubtype_type]; kernel_rfl
section
variable {prog : Program} {w : World} {A : Around} {E : Value → Shared → Prop} {s : Shared}
theorem suml_loop {R : Result → Shared → Prop} {I S t0 : Addr} {fp wr : List Addr} {P : Nat → Value → Prop} {St : Nat → Heap → Prop} {h₀ : Heap} {parts : List (List Value)} (W : Walks prog w A.in1 I fp wr parts.length P St) (hSf : S ∉ fp)
    (hwz : ∀ b ∈ wr, h₀.objs.size ≤ b) (hSz : h₀.objs.size ≤ S) (ht0 : t0 < h₀.objs.size) (hfl : parts.flatten.length ≤ sizeLine) (hfp : ∀ b ∈ fp, b < S)
    (hval : ∀ i v, P i v → ∃ b its k, v = .ref b ∧ parts[i]? = some its ∧ h₀.get? b = some { cls := .type "list", dict := none, data := .seq its.toArray k, slots := #[] }) :
    ∀ (k i : Nat) (s : Shared) (t : Addr) (acc : Array Value) (c cS : Nat), parts.length - i = k → i ≤ parts.length → St i s.heap → (∀ b o, h₀.get? b = some o → s.heap.get? b = some o) → S < s.heap.objs.size →
      s.heap.get? S = some { cls := .type "list", dict := none, data := .seq #[.ref t] cS, slots := #[] } → s.heap.get? t = some { cls := .type "list", dict := none, data := .seq acc c, slots := #[] } → t ∉ wr → t ≠ S → acc.toList = (parts.take i).flatten → (t = t0 ∧ i = 0 ∨ h₀.objs.size ≤ t ∧ 0 < i) →
      (∀ h' tk p acc c, (∀ b o, h₀.get? b = some o → h'.get? b = some o) → h'.get? p = some { cls := .type "list", dict := none, data := .seq acc c, slots := #[] } → acc.toList = parts.flatten → (p = t0 ∧ parts = [] ∨ h₀.objs.size ≤ p ∧ parts ≠ []) → R (.ok (.ret (.ref p))) { s with heap := h', toks := tk }) →
      codeAny (model prog w) A (.builtin "sum.loop" ⟨[.ref I, .ref S, rawInt 2, rawInt 0], []⟩) R s := by
  have hSw : S ∉ wr := fun h => hSf (W.sub _ h)
  intro k
  induction k with
  | zero =>
    intro i s t acc c cS hk hi hst hkeep hSl hS hT htw hts hacc hwh hR
    have hin : i = parts.length := by omega
    subst hin
    refine codeAny_builtin F.entry_sum_loop ?_
    rw [Around.under_plainId F.plain_sum_loop _]
    show wpAny _ A.in1 (seqItems? (.ref S) >>= _) _ _ s
    refine wpAny_bind (wpAny_seqItems hS rfl ?_)
    show wpAny _ A.in1 (tryCatch (pyNext (.ref I)) _ >>= _) _ _ s
    refine wpAny_bind (wpAny_tryCatch (W.done s _ _ hst fun h' tk hk' => ?_))
    refine wpAny_pure (hR h' tk t acc c (fun b o q => hk' b o (fun m => absurd (Heap.lt_size q) (Nat.not_lt.mpr (hwz b m))) (hkeep b o q)) (hk' t _ htw hT) (by rw [hacc, List.take_length]) ?_)
    rcases hwh with ⟨q, z⟩ | ⟨q, z⟩
    · exact .inl ⟨q, List.eq_nil_of_length_eq_zero z⟩
    · exact .inr ⟨q, fun e => by rw [e] at z; exact absurd z (Nat.lt_irrefl _)⟩
  | succ k ih =>
    intro i s t acc c cS hk hi hst hkeep hSl hS hT htw hts hacc hwh hR
    have hlt : i < parts.length := by omega
    refine codeAny_builtin F.entry_sum_loop ?_
    rw [Around.under_plainId F.plain_sum_loop _]
    show wpAny _ A.in1 (seqItems? (.ref S) >>= _) _ _ s
    refine wpAny_bind (wpAny_seqItems hS rfl ?_)
    show wpAny _ A.in1 (tryCatch (pyNext (.ref I)) _ >>= _) _ _ s
    refine wpAny_bind (wpAny_tryCatch (W.item i s _ _ hlt hst fun v h' tk hP hst' hk' => ?_))
    obtain ⟨b, its, kb, rfl, hits, hb⟩ := hval i v hP
    have hS' := hk' S _ hSw hS
    have hT' := hk' t _ htw hT
    have kp' : ∀ b o, h₀.get? b = some o → h'.get? b = some o := fun b o q => hk' b o (fun m => absurd (Heap.lt_size q) (Nat.not_lt.mpr (hwz b m))) (hkeep b o q)
    have hB' := kp' b _ hb
    have hSl' : S < h'.objs.size := Heap.lt_size hS'
    have sz : acc.size + its.toArray.size ≤ sizeLine := by
      have e1 : acc.size = (parts.take i).flatten.length := by rw [← Array.length_toList, hacc]
      have e4 : its.toArray.size = its.length := by simp
      have e2 : (parts.take (i + 1)).flatten.length = (parts.take i).flatten.length + its.length := by
        rw [List.take_add_one, hits]; simp
      have e3 : (parts.take (i + 1)).flatten.length ≤ parts.flatten.length := by
        conv => rhs; rw [← List.take_append_drop (i + 1) parts]
        rw [List.flatten_append, List.length_append]; exact Nat.le_add_right _ _
      omega
    show wpAny _ A.in1 ((holding [Value.ref b] (binaryOp .Add (.ref t) (.ref b))).attempt >>= _) _ _ _
    refine wpAny_bind (wpAny_attempt (wpAny_holding (PySem.P.add_list (s := { s with heap := h', toks := tk }) hT' hB' ?_ sz)))
    have hS2 : (h'.push { cls := .type "list", data := .seq (acc ++ its.toArray) }).get? S = some { cls := .type "list", dict := none, data := .seq #[.ref t] cS, slots := #[] } := Heap.get?_push_of_some _ hS'
    have hP2 : (h'.push { cls := .type "list", data := .seq (acc ++ its.toArray) }).get? h'.objs.size = some { cls := .type "list", data := .seq (acc ++ its.toArray) } := Heap.get?_push_size _ rfl
    show wpAny _ A.in1 (updateSeq S (fun _ => #[.ref h'.objs.size]) >>= _) _ _ _
    refine wpAny_bind ?_
    refine wpAny_updateSeq hS2 rfl ?_
    have hS3 := Heap.get?_update_self (Obj.mapSeq fun _ => #[Value.ref h'.objs.size]) hS2 rfl
    refine wpAny_bind (wpAny_letGo ?_)
    refine wpAny_bind ?_
    have up : ∀ b o, b ≠ S → h'.get? b = some o → (((h'.push { cls := .type "list", data := .seq (acc ++ its.toArray) }).update S (Obj.mapSeq fun _ => #[Value.ref h'.objs.size])).update S (Obj.mapSeq fun _ => #[Value.ref h'.objs.size])).get? b = some o := fun b o hb q =>
      (Heap.get?_update_other _ _ (Ne.symm hb)).trans ((Heap.get?_update_other _ _ (Ne.symm hb)).trans (Heap.get?_push_of_some _ q))
    have z0 : h₀.objs.size ≤ h'.objs.size := Nat.le_trans hSz (Nat.le_of_lt hSl')
    refine wpAny_updateSeq hS3 rfl (wpAny_pure ⟨plainId_quiet F.plain_sum_loop _, ih (i + 1) _ h'.objs.size (acc ++ its.toArray) 0 _ (by omega) hlt (W.frame _ _ _ hst' fun b hb o q => up b o (fun z => hSf (z ▸ hb)) q)
      (fun b o q => up b o (fun z => absurd (Heap.lt_size q) (Nat.not_lt.mpr (by rw [z]; exact hSz))) (kp' b o q)) ?_ (Heap.get?_update_self _ hS3 rfl) ?_ (fun m => ?_) (Nat.ne_of_gt hSl') ?_ (.inr ⟨z0, Nat.succ_pos i⟩) fun h'' tk'' p acc' c' k2 q2 a2 w2 => hR h'' tk'' p acc' c' k2 q2 a2 w2⟩)
    · exact Heap.lt_size (Heap.get?_update_self _ hS3 rfl)
    · exact (Heap.get?_update_other _ _ (Nat.ne_of_lt hSl')).trans ((Heap.get?_update_other _ _ (Nat.ne_of_lt hSl')).trans hP2)
    · exact absurd (Nat.lt_trans (hfp _ (W.sub _ m)) hSl') (Nat.lt_irrefl _)
    · rw [Array.toList_append, hacc, List.take_add_one, hits]; simp
theorem suml_call {l t0 : Addr} {items : Array Value} {parts : List (List Value)} {Q : Value → Shared → Prop} {c0 : Nat} (hh : A.handled = none) (hl : s.heap.IsList l items) (hn : items.size = parts.length)
    (hv : ∀ (i : Nat) (v : Value), items[i]? = some v → ∃ b its k, v = Value.ref b ∧ parts[i]? = some its ∧ s.heap.get? b = some { cls := .type "list", dict := none, data := .seq its.toArray k, slots := #[] })
    (ht : s.heap.get? t0 = some { cls := .type "list", dict := none, data := .seq #[] c0, slots := #[] }) (hfl : parts.flatten.length ≤ sizeLine)
    (h : ∀ h' tk p acc c, (∀ b o, s.heap.get? b = some o → h'.get? b = some o) → h'.get? p = some { cls := .type "list", dict := none, data := .seq acc c, slots := #[] } → acc.toList = parts.flatten → (p = t0 ∧ parts = [] ∨ s.heap.objs.size ≤ p ∧ parts ≠ []) → Q (.ref p) { s with heap := h', toks := tk }) :
    wpAny (model prog w) A (call (.builtin "sum") [.ref l, .ref t0]) Q E s := by
  refine call_function_tree F.kind_sum F.plain_sum F.entry_sum (args_sum2 _ _) ?_
  unfold Builtin.«sum»
  simp only [List.length_cons, List.length_nil]
  rw [if_neg (by decide)]
  refine wpAny_bind (wpAny_of_eq (show Builtin.Builtins.bindParams "sum" ["start"] 0 (⟨[Value.ref t0], []⟩ : Args) = pure [some (Value.ref t0)] from rfl) ?_)
  refine wpAny_bind (wpAny_pyIter_list hl ?_)
  refine wpAny_bind (wpAny_pure ?_)
  have lt : l < s.heap.objs.size := by obtain ⟨_, q, _⟩ := hl; exact Heap.lt_size q
  have tl : t0 < s.heap.objs.size := Heap.lt_size ht
  have hT : Shared.TypeIs { s with heap := s.heap.push { cls := .type "list_iterator", data := .fields #[.ref l, .int 0 0] } } (.ref t0) "list" := ⟨_, Heap.get?_push_of_some _ ht, rfl⟩
  simp only [List.forIn_cons, List.forIn_nil]
  refine wpAny_bind (wpAny_bind (wpAny_bind (wpAny_isInstance (T := "list") (b := false) hT lst_no_str ?_)))
  simp only [Bool.false_eq_true, if_false]
  refine wpAny_pure (wpAny_bind (wpAny_bind (wpAny_isInstance (T := "list") (b := false) hT lst_no_bytes ?_)))
  simp only [Bool.false_eq_true, if_false]
  refine wpAny_pure (wpAny_bind (wpAny_bind (wpAny_isInstance (T := "list") (b := false) hT lst_no_bytearray ?_)))
  simp only [Bool.false_eq_true, if_false]
  refine wpAny_pure (wpAny_pure ?_)
  refine wpAny_bind (wpAny_newObj_type ?_)
  have z1 : (s.heap.push { cls := .type "list_iterator", data := .fields #[.ref l, .int 0 0] }).objs.size = s.heap.objs.size + 1 := Heap.size_push ..
  have iL : (s.heap.push { cls := .type "list_iterator", data := .fields #[.ref l, .int 0 0] }).IsList l items := hl.push _
  have W := Walks.list (prog := prog) (w := w) (A := A.in1) (by simpa using hh) s.heap.objs.size l (Nat.ne_of_lt lt) items
  rw [hn] at W
  refine wpAny_pure ⟨plainId_quiet F.plain_sum_loop _, suml_loop (h₀ := s.heap) (t0 := t0) (S := (s.heap.push { cls := .type "list_iterator", data := .fields #[.ref l, .int 0 0] }).objs.size) W (fun m => ?_) (fun b m => ?_) (by rw [z1]; exact Nat.le_succ _) tl hfl (fun b m => ?_) (fun i v q => hv i v q) parts.length 0 _ t0 #[] c0 _ (Nat.sub_zero _) (Nat.zero_le _)
    ⟨⟨_, Heap.get?_push_of_some _ (Heap.get?_push_size _ rfl), rfl, rfl⟩, iL.push _⟩ (fun b o q => Heap.get?_push_of_some _ (Heap.get?_push_of_some _ q)) ?_ (Heap.get?_push_size _ rfl) (Heap.get?_push_of_some _ (Heap.get?_push_of_some _ ht)) (fun m => ?_) ?_ rfl (.inl ⟨rfl, rfl⟩) fun h' tk p acc c k q a w => h h' tk p acc c k q a w⟩
  · rw [z1] at m
    rcases List.mem_cons.mp m with z | z
    · exact absurd z (Nat.succ_ne_self _)
    · rw [List.mem_singleton] at z
      exact absurd lt (by rw [← z]; exact Nat.not_lt.mpr (Nat.le_succ _))
  · rw [List.mem_singleton.mp m]; exact Nat.le_refl _
  · rw [z1]
    rcases List.mem_cons.mp m with z | z
    · rw [z]; exact Nat.lt_succ_self _
    · rw [List.mem_singleton.mp z]; exact Nat.lt_succ_of_lt lt
  · exact Nat.lt_of_lt_of_eq (Nat.lt_succ_self _) (Heap.size_push ..).symm
  · exact absurd tl (by rw [List.mem_singleton.mp m]; exact Nat.lt_irrefl _)
  · rw [z1]; exact Nat.ne_of_lt (Nat.lt_succ_of_lt tl)
end
/-- the elements are lists -/
def Lsts (H : Hp) : List V → List (List V) → Prop
  | [], [] => True
  | v :: vs, l :: ls => (∃ c, v = .ref c ∧ H c = some (.lst l)) ∧ Lsts H vs ls
  | _, _ => False
theorem Lsts.get {H : Hp} : ∀ {vs : List V} {ls : List (List V)}, Lsts H vs ls → vs.length = ls.length ∧ ∀ (i : Nat) (v : V), vs[i]? = some v → ∃ c l, v = V.ref c ∧ ls[i]? = some l ∧ H c = some (.lst l)
  | [], [], _ => ⟨rfl, fun i v e => by simp at e⟩
  | v :: vs, l :: ls, h => by
    obtain ⟨c, e1, e2⟩ := h.1
    obtain ⟨h1, h2⟩ := Lsts.get h.2
    refine ⟨by rw [List.length_cons, List.length_cons, h1], fun i u e => ?_⟩
    cases i with
    | zero => cases e; exact ⟨c, l, e1, rfl, e2⟩
    | succ i => exact h2 i u e
  | [], _ :: _, h => h.elim
  | _ :: _, [], h => h.elim
def rSumL (K : PySem.W.Frag) : List V → Hp → VK → Prop := fun xs H Q => ∃ (a b : Addr) (vs : List V) (ls : List (List V)), xs = [.ref a, .ref b] ∧ SqL K H a vs ∧ Lsts H vs ls ∧ H b = some (.lst []) ∧ ls.flatten.length ≤ sizeLine ∧
  (ls = [] → Q (.ref b) H) ∧ ∀ p, H p = none → Q (.ref p) (upd H p (.lst ls.flatten))
section
variable {X : Cx} {pins : List (Addr × Obj)} {σ : L2.St} {H : Hp} {s : Shared}
theorem lsts_vals (I : Inv X pins σ H s) : ∀ {vs : List V} {ls : List (List V)}, Lsts H vs ls → ∃ parts : List (List Value), parts.length = ls.length ∧ Vals ls.flatten parts.flatten ∧ ∀ (i : Nat) (l : List V), ls[i]? = some l → ∀ (v : V) (c : Addr), vs[i]? = some v → v = V.ref c → ∃ its k, parts[i]? = some its ∧ s.heap.get? c = some { cls := .type "list", dict := none, data := .seq its.toArray k, slots := #[] }
  | [], [], _ => ⟨[], rfl, .nil, fun i l e => by simp at e⟩
  | v :: vs, l :: ls, h => by
    obtain ⟨c, e1, e2⟩ := h.1
    obtain ⟨parts, h1, h2, h3⟩ := lsts_vals I h.2
    obtain ⟨z, its, n, r, hl, e⟩ := I.lstM e2
    refine ⟨its :: parts, by rw [List.length_cons, List.length_cons, h1], ?_, fun i l' e' v' c' ev ec => ?_⟩
    · rw [List.flatten_cons, List.flatten_cons]
      exact r.append h2
    · cases i with
      | zero =>
        cases ev
        rw [e1] at ec
        cases ec
        exact ⟨its, n, rfl, e⟩
      | succ i => exact h3 i l' e' v' c' ev ec
  | [], _ :: _, h => h.elim
  | _ :: _, [], h => h.elim
theorem cl_sumL (hc : X.calm = true) : CallR X (.builtin "sum") (rSumL X.K) := by
  intro pins s σ H xs us Q I r h
  obtain ⟨a, b, vs, ls, rfl, hq, hls, hb, hz, q1, q2⟩ := h
  cases r with
  | cons r1 rr =>
    cases rr with
    | cons r2 rr =>
      cases rr
      cases r1
      cases r2
      obtain ⟨its, rv, pl, _⟩ := I.list hq
      obtain ⟨z0, its0, n0, r0, hl0, e0⟩ := I.lstM hb
      have ei : its0 = [] := List.eq_nil_of_length_eq_zero (by rw [← hl0]; rfl)
      subst ei
      obtain ⟨parts, p1, p2, p3⟩ := lsts_vals I hls
      obtain ⟨g1, g2⟩ := hls.get
      have hlen : its.length = parts.length := by rw [← rv.length, g1, p1]
      refine suml_call (I.ok.hd hc) pl.isList (by rw [List.size_toArray, hlen]) (fun i v hv => ?_) e0 (by rw [← p2.length]; exact hz) fun h' tk p acc c hk hp hacc hw => ?_
      · have hi : i < vs.length := by
          have := (Array.getElem?_eq_some_iff.mp hv).1
          rw [List.size_toArray] at this
          rw [rv.length]; exact this
        obtain ⟨w, hw, rw'⟩ := rv.get (List.getElem?_eq_getElem hi)
        have ew : w = v := by
          have : its[i]? = some v := by simpa using hv
          rw [hw] at this; exact Option.some.inj this
        subst ew
        obtain ⟨c, l, ec, el, eh⟩ := g2 i _ (List.getElem?_eq_getElem hi)
        obtain ⟨ps, k, e3, e4⟩ := p3 i l el _ c (List.getElem?_eq_getElem hi) ec
        rw [ec] at rw'
        cases rw'
        exact ⟨c, ps, k, rfl, e3, e4⟩
      · rcases hw with ⟨rfl, hn⟩ | ⟨hp2, hn⟩
        · refine ⟨.ref p, H, I.kept hk, rfl, q1 ?_⟩
          rw [hn] at p1
          exact List.eq_nil_of_length_eq_zero p1.symm
        · exact ⟨.ref p, _, I.laid hk hp2 (show ObjOk X.prog X.w _ _ p (.lst ls.flatten) from ⟨hz, acc.toList, c, by rw [hacc]; exact p2, by rw [Array.toArray_toList]; exact hp⟩), rfl, q2 p (I.hok.fresh hp2)⟩
end
section
variable {K : PySem.W.Frag} {F H : Hp} {as : List Addr}
theorem Reps.lsts (s : Sub F H) : ∀ {vs : List V} {ts : List T} {us : List (List T)}, Reps K F as vs ts → lstsOf ts = some us → ∃ ls, Lsts H vs ls ∧ Reps K F as ls.flatten us.flatten ∧ ls.length = us.length
  | [], [], us, _, e => by
    cases e
    exact ⟨[], True.intro, .nil, rfl⟩
  | v :: vs, t :: ts, us, r, e => by
    cases r with
    | cons h r =>
      cases t <;> simp only [lstsOf] at e <;> try cases e
      rename_i x
      obtain ⟨us', e1, e2⟩ := Option.map_eq_some_iff.mp e
      subst e2
      obtain ⟨ls, h1, h2, h3⟩ := Reps.lsts s r e1
      cases h with
      | lst hh hl hr => exact ⟨_ :: ls, ⟨⟨_, rfl, s _ _ hh⟩, h1⟩, by rw [List.flatten_cons, List.flatten_cons]; exact hr.append h2, by rw [List.length_cons, List.length_cons, h3]⟩
theorem ROp.catAll {x : V} {H : Hp} {Q : VK} (h : ROp K .catAll [x] H Q) : ∀ b, H b = none → rSumL K [x, .ref b] (upd H b (.lst [])) Q := by
  obtain ⟨F, as, st, ts, t, hs, S, hr, e, p⟩ := h
  obtain ⟨a, rfl, ha⟩ := hr.one
  simp only [opEval] at e
  obtain ⟨ys, e1, e2⟩ := Option.bind_eq_some_iff.mp e
  obtain ⟨us, e3, e4⟩ := Option.bind_eq_some_iff.mp e2
  split at e4
  · rename_i hc
    cases e4
    obtain ⟨d, vs, rfl, h1, h2, h3⟩ := viewL S hs ha e1
    intro b hb
    have hs' := sub_updR (o := .lst []) hs (sub_none hs hb)
    obtain ⟨ls, g1, g2, g3⟩ := h3.lsts hs' e3
    have hl : ls.flatten.length ≤ sizeLine := by rw [g2.length]; exact hc
    refine ⟨d, b, vs, ls, rfl, ?_, g1, upd_same, hl, fun z => ?_, fun q hq => ?_⟩
    · exact (sub_upd hb).sqL h1
    · subst z
      have z2 : us = [] := List.eq_nil_of_length_eq_zero (by rw [← g3]; rfl)
      subst z2
      exact p.lst hs S .nil (Nat.zero_le _) b hb
    · exact (p.nxt (nxt_own hb)).lst hs' (S.newOwn hb) g2 hl q hq
  · cases e4
end
section
variable {Γ : Sc} {W : WX} {X : Cx} {xi : XI} {call : Nat → List T → List T → Store → O T} {hear : Nat → Store → O T → O T}
theorem isLst0_s {y : Expr} (h : isLst0 y = true) : ∃ p, y = .List [] p := by
  unfold isLst0 at h
  split at h
  · exact ⟨_, rfl⟩
  · cases h
theorem ok_catAll {ex : Expr} {xs : List Expr} {es : List E} (G : XG Γ W X) (e : (match bcall Γ "sum" ex with
        | some [x, y] => if isLst0 y = true then some [x] else none
        | _ => none) = some xs) (h : PEBs X xi W call hear xs es) : OpOk X xi W call hear .catAll es ex := by
  split at e
  · rename_i x y eb
    split at e
    · rename_i hy
      cases e
      obtain ⟨p, p', rfl, hg, hs⟩ := bcall_some eb
      obtain ⟨q, rfl⟩ := isLst0_s hy
      rw [List.all_cons, Bool.and_eq_true] at hs
      obtain ⟨f, rfl, h1⟩ := h.one
      have hl : PE X (.List [] q) (tLst tNil) := pe_lst pa_nil
      refine PE.imp (pe_callB (cl_sumL G.calm) (G.gl hg) (G.free "sum" (by decide)) (by decide +kernel) (pa_cons h1 (pa_cons hl pa_nil rfl) (star1 hs.1)) (by decide) (by decide) (star1 hs.1) rfl) fun σ H Q q => ?_
      obtain ⟨F, as, ρ, st, S, q⟩ := one_of q
      refine ⟨F, as, ρ, st, S, q.imp fun t st' _ r => fun F' as' H' v n s So rr => ?_⟩
      exact ⟨Nat.zero_le _, fun b hb => (r F' as' H' v n s So rr).catAll b hb⟩
    · cases e
  · cases e
end
end Q
end
/-! QSnd3 -/
section
set_option linter.all false
set_option maxRecDepth 100000
set_option maxHeartbeats 4000000
namespace Q
open PySem L2
section
variable {Γ : Sc} {W : WX} {X : Cx} {xi : XI} {call : Nat → List T → List T → Store → O T} {hear : Nat → Store → O T → O T}
theorem ok_op {o : Op} {ex : Expr} {xs : List Expr} {es : List E} (G : XG Γ W X) (e : opSyn Γ o ex = some xs) (h : PEBs X xi W call hear xs es) : OpOk X xi W call hear o es ex := by
  unfold opSyn at e
  split at e
  · rename_i b eb
    split at e
    · rename_i x b' y e1
      split at e
      · rename_i hb
        subst hb
        cases e
        obtain ⟨p, rfl⟩ := asBin_some e1
        exact ok_bin (opBin_rule eb) h
      · cases e
    · cases e
  · split at e
    · rename_i c ec
      split at e
      · rename_i x c' y e1
        split at e
        · rename_i hb
          obtain ⟨hb, hy⟩ := hb
          subst hb
          cases e
          obtain ⟨p, rfl⟩ := asCmp_some e1
          exact ok_cmp (opCmp_rule G.units ec) (notMarks _ hy) h
        · cases e
      · cases e
    · split at e
      · split at e
        · cases e
          obtain ⟨f, rfl, h1⟩ := h.one
          exact PE.imp (pe_un un_neg_s h1) fun σ H Q q => one_of q
        · cases e
      · split at e
        · split at e
          · rename_i e1 hb
            obtain ⟨rfl, hy⟩ := hb
            cases e
            obtain ⟨p, rfl⟩ := asCmp_some e1
            obtain ⟨j, q, rfl⟩ := isNoneC_s hy
            exact ok_is op_isN_s pe_non rfl h
          · cases e
        · cases e
      · split at e
        · split at e
          · rename_i e1 hb
            obtain ⟨rfl, hy⟩ := hb
            cases e
            obtain ⟨p, rfl⟩ := asCmp_some e1
            obtain ⟨j, q, rfl⟩ := isNoneC_s hy
            exact ok_is op_notN_s pe_non rfl h
          · cases e
        · cases e
      · split at e
        · split at e
          · rename_i e1 hb
            obtain ⟨rfl, hy⟩ := hb
            cases e
            obtain ⟨p, rfl⟩ := asCmp_some e1
            obtain ⟨j, q, rfl⟩ := isBoolC_s hy
            exact ok_is op_isB_s pe_bl rfl h
          · cases e
        · cases e
      · split at e
        · split at e
          · rename_i e1 hb
            obtain ⟨rfl, hy⟩ := hb
            cases e
            obtain ⟨p, rfl⟩ := asCmp_some e1
            obtain ⟨j, q, rfl⟩ := isBoolC_s hy
            exact ok_is op_notB_s pe_bl rfl h
          · cases e
        · cases e
      · exact ok_b1 G cl_len (by decide) (by decide +kernel) (by decide) (by decide) e h
      · exact ok_t1 G cl_tuple (by decide) (by decide +kernel) (by decide) (by decide) e h
      · exact ok_t1 G (cl_list G.calm) (by decide) (by decide +kernel) (by decide) (by decide) e h
      · exact ok_b1 G (cl_sorted G.calm) (by decide) (by decide +kernel) (by decide) (by decide) e h
      · exact ok_b1 G cl_abs (by decide) (by decide +kernel) (by decide) (by decide) e h
      · exact ok_t1 G cl_int (by decide) (by decide +kernel) (by decide) (by decide) e h
      · exact ok_b2 G (cl_min2 G.calm) (by decide) (by decide +kernel) (by decide) (by decide) e h
      · exact ok_b1 G (cl_maxL G.calm) (by decide) (by decide +kernel) (by decide) (by decide) e h
      · exact ok_b1 G (cl_minL G.calm) (by decide) (by decide +kernel) (by decide) (by decide) e h
      · exact ok_b1 G (cl_all G.calm) (by decide) (by decide +kernel) (by decide) (by decide) e h
      · exact ok_b1 G (cl_any G.calm) (by decide) (by decide +kernel) (by decide) (by decide) e h
      · split at e
        · rename_i x c1 c2 k pt eb
          split at e
          · rename_i hc
            obtain ⟨hc, hl, ht⟩ := hc
            cases e
            obtain ⟨p, p', rfl, hg, hs⟩ := bcall_some eb
            rw [List.all_cons, Bool.and_eq_true] at hs
            rw [Bool.or_eq_true, Bool.and_eq_true, Bool.and_eq_true] at hc
            rcases hc with ⟨h1, h2⟩ | ⟨h1, h2⟩
            · obtain ⟨q1, rfl⟩ := isNm_s h1
              obtain ⟨q2, rfl⟩ := isNm_s h2
              exact ok_isiS (c1 := .list) (c2 := .tuple) G (.inl ⟨rfl, rfl⟩) hg hl ht hs.1 h
            · obtain ⟨q1, rfl⟩ := isNm_s h1
              obtain ⟨q2, rfl⟩ := isNm_s h2
              exact ok_isiS (c1 := .tuple) (c2 := .list) G (.inr ⟨rfl, rfl⟩) hg hl ht hs.1 h
          · cases e
        · cases e
      · rename_i k hk
        exact ok_isi' G (by assumption) e h
      · exact ok_listRg G e h
      · exact ok_setSort G e h
      · exact ok_enumL G e h
      · exact ok_catAll G e h
      · split at e
        · rename_i e1
          split at e
          · rename_i hn
            cases e
            obtain ⟨p, rfl⟩ := asSub_some e1
            exact ok_idx hn h
          · cases e
        · cases e
      · split at e
        · rename_i e1
          split at e
          · rename_i hn
            cases e
            obtain ⟨p, rfl⟩ := asSub_some e1
            exact ok_dget (by have := G.units; omega) hn h
          · cases e
        · cases e
      · cases e
end
end Q
end
/-! QSound3 -/
section
set_option linter.all false
set_option maxRecDepth 100000
set_option maxHeartbeats 4000000
namespace Q
open PySem L2
variable {Z : Ctx}
theorem lift_op {Γ : Sc} {W : WX} {X : Cx} {o : Op} {es : List E} {ex : Expr} (A : At Z Γ W X) {xs : List Expr} (e : opSyn Γ o ex = some xs) (h : SndL Z W X xs es) : Snd Z W X (.op o es) ex := by
  have sf : SF X Z.xi W Z.call Z.hear (.op o es) ex := ok_op A.g e h.ebs
  rcases op_test A.g e h.ebs with q | q
  · exact Snd.plain (fun _ => rfl) q sf
  · exact Snd.mk' (fun _ => rfl) sf fun _ => q
theorem chn_b {o1 o2 : Op} {a b c : E} {call : Nat → List T → List T → Store → O T} {hear : Nat → Store → O T → O T} (h2 : isBoolOp o2 = true) : ∀ ρ st t st', evalE call hear (.chn o1 o2 a b c) ρ st = .ok t st' → ∃ b, t = .bl b := fun ρ st t st' h => by
  obtain ⟨x, s1, _, e2⟩ := O.bind_eq_ok (show (evalE call hear a ρ st).bind (fun x st1 => (evalE call hear b ρ st1).bind fun y st2 => match opEval st2 o1 [x, y] with
    | some (.bl true) => (evalE call hear c ρ st2).bind fun z st3 => lift (opEval st3 o2 [y, z]) st3
    | some (.bl false) => .ok (.bl false) st2
    | _ => .bad) = .ok t st' from h)
  obtain ⟨y, s2, _, e3⟩ := O.bind_eq_ok e2
  split at e3
  · obtain ⟨z, s3, _, e4⟩ := O.bind_eq_ok e3
    cases e5 : opEval s3 o2 [y, z] with
    | none => rw [e5] at e4; cases e4
    | some u => rw [e5] at e4; cases e4; exact opEval_b h2 e5
  · cases e3; exact ⟨false, rfl⟩
  · cases e3
theorem part_s {Γ : Sc} {W : WX} {X : Cx} {l : Option Expr} {es : List E} (h : SndL Z W X l.toList es) : PO X l (tPt X.K Z.xi W Z.call Z.hear es) := by
  cases l with
  | none => cases h; exact po_no
  | some x =>
    cases h with
    | cons a r => cases r; exact po_so a.sb
mutual
theorem snd_E (FF : Facts Z) : ∀ {e : E} {Γ : Sc} {ex : Expr}, chkE Z.D Γ e ex = true → ∀ {W : WX} {X : Cx}, At Z Γ W X → Snd Z W X e ex
  | .var i, Γ, ex, h, W, X, A => by
    unfold chkE at h
    split at h
    · rename_i x e
      obtain ⟨p, rfl⟩ := asNm_some e
      rw [Bool.and_eq_true, Bool.and_eq_true] at h
      obtain ⟨⟨h1, h2⟩, h3⟩ := h
      obtain ⟨n1, n2⟩ := okNm_s h3
      have hN : X.N[i]? = some x := by rw [A.g.N]; exact of_decide_eq_true h1
      have se : SE X Z.xi W Z.call Z.hear (.var i) (.Name x p) := se_var hN (A.g.vis h2) n1 n2
      have sb : SB X Z.xi W Z.call Z.hear (.var i) (.Name x p) := sb_var hN (A.g.vis h2) n1 n2
      exact ⟨se, sb, fun _ => st_valE se (plain_is rfl X.env), fun _ => st_val sb (plain_is rfl X.env)⟩
    · cases h
  | .con t, Γ, ex, h, W, X, A => by
    unfold chkE at h
    obtain ⟨h1, h2⟩ := con_s A FF h
    exact Snd.plain (fun _ => rfl) h1 h2
  | .op o es, Γ, ex, h, W, X, A => by
    unfold chkE at h
    split at h
    · rename_i xs e
      exact lift_op A e (snd_Es FF h A)
    · cases h
  | .band es, Γ, ex, h, W, X, A => by
    unfold chkE at h
    split at h
    · rename_i xs e
      obtain ⟨p, rfl⟩ := asAnd_some e
      rw [Bool.and_eq_true, Bool.and_eq_true] at h
      obtain ⟨⟨h1, h2⟩, h3⟩ := h
      have r := snd_Es FF h1 A
      have ne : es ≠ [] := fun z => by subst z; simp at h3
      exact Snd.mk' (fun _ => rfl) (se_and r.ees ne) fun _ => (st_and (r.tes h2) ne).pt
    · cases h
  | .bor es, Γ, ex, h, W, X, A => by
    unfold chkE at h
    split at h
    · rename_i xs e
      obtain ⟨p, rfl⟩ := asOr_some e
      rw [Bool.and_eq_true, Bool.and_eq_true] at h
      obtain ⟨⟨h1, h2⟩, h3⟩ := h
      have r := snd_Es FF h1 A
      have ne : es ≠ [] := fun z => by subst z; simp at h3
      exact Snd.mk' (fun _ => rfl) (se_or r.ees ne) fun _ => (st_or (r.tes h2) ne).pt
    · cases h
  | .not e, Γ, ex, h, W, X, A => by
    unfold chkE at h
    split at h
    · rename_i x ee
      obtain ⟨p, rfl⟩ := asNot_some ee
      rw [Bool.and_eq_true] at h
      have r := snd_E FF h.1 A
      exact Snd.mk' (fun _ => rfl) (se_not r.sb) fun _ => st_not (r.stB h.2)
    · cases h
  | .ite c a b, Γ, ex, h, W, X, A => by
    unfold chkE at h
    split at h
    · rename_i x y z ee
      obtain ⟨p, rfl⟩ := asIf_some ee
      rw [Bool.and_eq_true, Bool.and_eq_true, Bool.and_eq_true] at h
      obtain ⟨⟨⟨h1, h2⟩, h3⟩, h4⟩ := h
      exact Snd.mk' (fun _ => rfl) (se_ite ((snd_E FF h1 A).stB h2) (snd_E FF h3 A).sf.se (snd_E FF h4 A).sf.se) fun q => by cases q
    · cases h
  | .tup es, Γ, ex, h, W, X, A => by
    unfold chkE at h
    split at h
    · rename_i xs e
      obtain ⟨k, p, rfl⟩ := asTup_some e
      rw [Bool.and_eq_true, Bool.and_eq_true] at h
      obtain ⟨⟨h1, h2⟩, h3⟩ := h
      exact Snd.plain (fun _ => rfl) rfl (sf_tup (snd_Es FF h2 A).ees h1 (of_decide_eq_true h3))
    · cases h
  | .lst es, Γ, ex, h, W, X, A => by
    unfold chkE at h
    split at h
    · rename_i xs e
      obtain ⟨p, rfl⟩ := asLst_some e
      rw [Bool.and_eq_true, Bool.and_eq_true] at h
      obtain ⟨⟨h1, h2⟩, h3⟩ := h
      exact Snd.plain (fun _ => rfl) rfl (sf_lst (snd_Es FF h2 A).ees h1 (of_decide_eq_true h3))
    · cases h
  | .dic0, Γ, ex, h, W, X, A => by
    unfold chkE at h
    obtain ⟨p, rfl⟩ := isDic0_s h
    exact Snd.plain (fun _ => rfl) rfl sf_dic
  | .slc a lo hi, Γ, ex, h, W, X, A => by
    unfold chkE at h
    split at h
    · rename_i x l u e
      obtain ⟨p, q, rfl⟩ := asSlc_some e
      rw [Bool.and_eq_true, Bool.and_eq_true] at h
      obtain ⟨⟨h1, h2⟩, h3⟩ := h
      exact Snd.plain (fun _ => rfl) rfl (sf_slc (snd_E FF h1 A).sb (part_s (Γ := Γ) (snd_Es FF h2 A)) (part_s (Γ := Γ) (snd_Es FF h3 A)))
    · cases h
  | .chn o1 o2 a b c, Γ, ex, h, W, X, A => by
    unfold chkE at h
    split at h
    · rename_i x c1 y c2 z e
      obtain ⟨p, rfl⟩ := asCmp2_some e
      simp only [Bool.and_eq_true] at h
      obtain ⟨⟨⟨⟨⟨⟨h1, h2⟩, h3⟩, h4⟩, h5⟩, h6⟩, h7⟩ := h
      have k1 := of_decide_eq_true h1
      have k2 := of_decide_eq_true h2
      have m1 := notMarks c1 h3
      have m2 := notMarks c2 h4
      have hm : lastMarks [c1, c2] [y, z] = false := by
        unfold lastMarks
        first | exact m2 | simp [m1, m2]
      have ra := (snd_E FF h5 A).sf.se
      have rb := (snd_E FF h6 A).sf.se
      have rc := (snd_E FF h7 A).sf.se
      exact Snd.mk' (fun _ => rfl) (se_chn A.g.units k1 k2 (opCmp_bool k1).2 (opCmp_bool k2).2 hm ra rb rc) fun _ => st_chn A.g.units k1 k2 (opCmp_bool k1).2 (opCmp_bool k2).2 hm (chn_b (opCmp_bool k2).1) ra rb rc
    · cases h
  | .call c es sa ks, Γ, ex, h, W, X, A => by
    unfold chkE at h
    split at h
    · rename_i n xs kws e
      obtain ⟨p, q, rfl⟩ := asCall_some e
      split at h
      · rename_i m ck ec
        simp only [Bool.and_eq_true] at h
        obtain ⟨⟨⟨⟨⟨⟨⟨h1, h2⟩, h3⟩, h4⟩, h5⟩, h6⟩, h7⟩, h8⟩ := h
        have e1 := of_decide_eq_true h1
        subst e1
        obtain ⟨f, g1, g2, g3⟩ := FF.cal c n ck ec
        have hm : X.mg n = some (.ref f) := by rw [A.mg]; exact g1
        have hk : PySem.W.keepIn X.K (.ref f) = true := by rw [A.K]; exact g2
        have F : FnC X.prog X.w X.K X.mg X.base Z.kc f ck.ks (spK X.K Z.xi (Z.call c)) := by
          rw [A.P, A.w, A.K, A.mg, A.base]; exact g3
        have hr : Room Z.kc X.A := by
          have r := A.room
          split at r
          · exact r.mono (by omega)
          · exact r
        have r1 := (snd_Es FF h5 A).ees
        have r2 := (snd_Es FF h7 A).ees
        split at h8
        · rename_i hsa
          obtain rfl : sa = [] := by simpa using hsa
          have h8 := of_decide_eq_true h8
          have ed : xs.drop es.length = [] := List.eq_nil_of_length_eq_zero h8
          have et : xs.take es.length = xs := by
            have := List.take_append_drop es.length xs
            rw [ed, List.append_nil] at this; exact this
          rw [et] at r1 h4
          exact Snd.plain (fun _ => rfl) rfl (se_cal F hr A.g.takes (A.g.gl h2) hm hk (okNm_s h3).1 h4 (of_decide_eq_true h6) r1 r2)
        · simp only [Bool.and_eq_true] at h8
          obtain ⟨⟨hk1, hk2⟩, h9⟩ := h8
          obtain rfl : ks = [] := by simpa using hk1
          have hk3 : ck.ks = [] := by simpa using hk2
          split at h9
          · rename_i y ey
            obtain ⟨sp, es'⟩ := asStar_some ey
            have ex : xs = xs.take es.length ++ [.Starred y sp] := by
              rw [← es']; exact (List.take_append_drop _ _).symm
            have hkw : kws = [] := by
              have z := of_decide_eq_true h6
              rw [hk3] at z
              cases kws with
              | nil => rfl
              | cons _ _ => cases z
            subst hkw
            have r3 := snd_Es FF h9 A
            cases r3 with
            | cons s1 s2 =>
              cases s2
              rw [hk3] at F
              rw [ex]
              exact Snd.plain (fun _ => rfl) rfl (se_calS F hr A.g.takes (A.g.gl h2) hm hk (okNm_s h3).1 h4 r1 s1.sb)
          · cases h9
      · cases h
    · cases h
  | .comp tg k src cs el, Γ, ex, h, W, X, A => by
    unfold chkE at h
    split at h
    · rename_i elt tgx iter ifs sc e
      obtain ⟨p, rfl⟩ := asComp_some e
      simp only [Bool.and_eq_true] at h
      obtain ⟨⟨⟨⟨⟨⟨⟨⟨h1, h2⟩, h3⟩, h4⟩, h5⟩, h6⟩, h7⟩, h8⟩, h9⟩ := h
      split at h1
      · rename_i xs ei
        rw [Bool.and_eq_true] at h1
        have ok := blkK_ok A.g h3
        have ho := of_decide_eq_true h4
        have AB := fun s H C cl fp => A.sub ok.kind s H C cl fp
        refine Snd.plain (fun _ => rfl) rfl (sf_comp A.g.calm A.g.nd (pi_it A.g ei h1.1 (snd_Es FF h1.2 A).ebs) ok (fun s H C cl fp => pg_tg (AB s H C cl fp).g h5) (fun s H C cl fp => ?_) (fun s H C cl fp => (snd_E FF h9 (AB s H C cl fp)).sf.se) (fun i hi => by rw [ho] at hi; exact hi) (fun i hi => by rw [ho]; exact hi) h2)
        have r := snd_Es FF h8 (AB s H C cl fp)
        cases r with
        | nil => exact pts_0
        | cons a r =>
          cases r with
          | nil =>
            rw [List.all_cons, Bool.and_eq_true] at h7
            exact pts_1 (a.st h7.1)
          | cons b r =>
            have z := of_decide_eq_true h6
            simp only [List.length_cons] at z
            omega
      · cases h1
    · cases h
  | .heard g e, Γ, ex, h, W, X, A => by
    unfold chkE at h
    split at h
    · rename_i Γ' body eh
      obtain ⟨h1, h2⟩ := FF.hea g ex Γ Γ' body e W X A eh fun W' X' A' => (snd_E FF h A').sf.se
      exact Snd.plain (fun _ => rfl) h1 h2
    · cases h
theorem snd_Es (FF : Facts Z) : ∀ {es : List E} {Γ : Sc} {xs : List Expr}, chkEs Z.D Γ es xs = true → ∀ {W : WX} {X : Cx}, At Z Γ W X → SndL Z W X xs es
  | [], Γ, [], h, W, X, A => .nil
  | e :: es, Γ, x :: xs, h, W, X, A => by
    unfold chkEs at h
    rw [Bool.and_eq_true] at h
    exact .cons (snd_E FF h.1 A) (snd_Es FF h.2 A)
  | [], Γ, _ :: _, h, W, X, A => by unfold chkEs at h; cases h
  | _ :: _, Γ, [], h, W, X, A => by unfold chkEs at h; cases h
end
end Q
end
/-! QSt1 -/
section
set_option linter.all false
set_option maxRecDepth 100000
set_option maxHeartbeats 2000000
namespace Q
open PySem L2
theorem PS.imp {X : Cx} {e : Stmt} {t t' : TS} (h : PS X e t) (k : ∀ D σ H, t' D σ H → t D σ H) : PS X e t' := ⟨fun pins s σ H D I q => h.run pins s σ H D I (k D σ H q)⟩
theorem PSs.imp {X : Cx} {e : List Stmt} {t t' : TS} (h : PSs X e t) (k : ∀ D σ H, t' D σ H → t D σ H) : PSs X e t' := ⟨fun pins s σ H D I q => h.run pins s σ H D I (k D σ H q)⟩
/-- where a def's body began -/
structure Anch where
  F : Hp
  as : List Addr
  H : Hp
/-- the frame within a body that began at N -/
structure SimB (N : Anch) (K : PySem.W.Frag) (F : Hp) (as : List Addr) (ρ : Env) (st : Store) (σ : L2.St) (H : Hp) : Prop where
  sim : Sim K F as ρ st σ H
  nx : Nxt N.F N.as N.H F as H
  new : ∀ (i : Nat) (t : T) (a : Addr), ρ[i]? = some (.own t) → σ[i]? = some (some (.ref a)) → N.H a = none
section
variable (K : PySem.W.Frag) (xi : XI) (W : WX)
/-- a statement's outcome, as its end wants it -/
def OutS (N : Anch) (D : Ends) : R → Prop
  | .nx ρ st => ∀ F as σ H, SimB N K F as ρ st σ H → D.nx σ H
  | .bk ρ st => ∀ F as σ H, SimB N K F as ρ st σ H → D.bk σ H
  | .ct ρ st => ∀ F as σ H, SimB N K F as ρ st σ H → D.ct σ H
  | .rt t st => ∀ F as H v, Nxt N.F N.as N.H F as H → Sub F H → Sto K F as st H → Rep K F as v t → D.rt v H
  | .ex x st => ∀ F as H σ cls d, Nxt N.F N.as N.H F as H → Sub F H → Sto K F as st H → XRep K xi.cA xi.fl F as H cls d x → W cls d σ H
  | .bad => False
/-- a statement's reading -/
def tS (ev : Env → Store → R) : TS := fun D σ H => ∃ N F as ρ st, SimB N K F as ρ st σ H ∧ OutS K xi W N D (ev ρ st)
end
section
variable {K : PySem.W.Frag} {xi : XI} {W : WX} {N : Anch} {F F' : Hp} {as as' : List Addr} {ρ : Env} {st st' : Store} {σ : L2.St} {H H' : Hp} {D : Ends}
theorem SimB.nxt (S : SimB N K F as ρ st σ H) (n : Nxt F as H F' as' H') (s : Sub F' H') (t : Sto K F' as' st' H') : SimB N K F' as' ρ st' σ H' := ⟨S.sim.nxt n s t, S.nx.trans n, S.new⟩
theorem SimB.set {v : V} {t : T} {i : Nat} (S : SimB N K F as ρ st σ H) (hi : i < ρ.length) (r : Rep K F as v t) : SimB N K F as (ρ.set i (.val t)) st (σ.set i (some v)) H where
  sim := by
    have z : SimU (fun _ => False) K F as ρ st σ H := S.sim.u rfl fun _ _ => rfl
    exact (z.set hi r).sim fun _ q => q.1
  nx := S.nx
  new := fun j u a e1 e2 => by
    have hj : i ≠ j := fun q => by subst q; rw [List.getElem?_set_self hi] at e1; cases e1
    rw [List.getElem?_set_ne hj] at e1 e2
    exact S.new j u a e1 e2
/-- an object held alone comes into a slot -/
theorem SimB.setOwn {t : T} {i : Nat} {a : Addr} (S : SimB N K F as ρ st σ H) (hi : i < ρ.length) (f : F a = none) (na : a ∉ as) (c : Cont K F as H a t) (new : N.H a = none) (ap : ∀ (j : Nat) (u : T), j ≠ i → ρ[j]? = some (.own u) → σ[j]? ≠ some (some (.ref a))) :
    SimB N K F as (ρ.set i (.own t)) st (σ.set i (some (.ref a))) H where
  sim := {
    sub := S.sim.sub
    sto := S.sim.sto
    len := by rw [List.length_set, List.length_set]; exact S.sim.len
    val := fun j u e => by
      have hj : i ≠ j := fun q => by subst q; rw [List.getElem?_set_self hi] at e; cases e
      rw [List.getElem?_set_ne hj] at e ⊢
      exact S.sim.val j u e
    own := fun j u e => by
      by_cases hj : i = j
      · subst hj
        rw [List.getElem?_set_self hi] at e
        cases e
        exact ⟨a, List.getElem?_set_self (by rw [← S.sim.len]; exact hi), f, na, c⟩
      · rw [List.getElem?_set_ne hj] at e ⊢
        exact S.sim.own j u e
    inj := fun j k t u b e1 e2 e3 e4 => by
      by_cases hj : i = j
      · subst hj
        rw [List.getElem?_set_self (by rw [← S.sim.len]; exact hi)] at e3
        cases e3
        by_cases hk : i = k
        · exact hk
        · rw [List.getElem?_set_ne hk] at e2 e4
          exact absurd e4 (ap k u (Ne.symm hk) e2)
      · by_cases hk : i = k
        · subst hk
          rw [List.getElem?_set_self (by rw [← S.sim.len]; exact hi)] at e4
          cases e4
          rw [List.getElem?_set_ne hj] at e1 e3
          exact absurd e3 (ap j t (Ne.symm hj) e1)
        · rw [List.getElem?_set_ne hj] at e1 e3
          rw [List.getElem?_set_ne hk] at e2 e4
          exact S.sim.inj j k t u b e1 e2 e3 e4 }
  nx := S.nx
  new := fun j u b e1 e2 => by
    by_cases hj : i = j
    · subst hj
      rw [List.getElem?_set_self (by rw [← S.sim.len]; exact hi)] at e2
      cases e2
      exact new
    · rw [List.getElem?_set_ne hj] at e1 e2
      exact S.new j u b e1 e2
/-- no slot holds what is new -/
theorem Sim.noOwn {a : Addr} (S : Sim K F as ρ st σ H) (h : H a = none) : ∀ (j : Nat) (u : T), ρ[j]? = some (.own u) → σ[j]? ≠ some (some (.ref a)) := fun j u e q => by
  obtain ⟨b, h1, _, _, c⟩ := S.own j u e
  rw [h1] at q
  cases q
  exact c.there h
/-- an object held alone is changed -/
theorem SimB.upd {t : T} {u : HO} {i : Nat} {a : Addr} {t0 : T} (S : SimB N K F as ρ st σ H) (e : ρ[i]? = some (.own t0)) (es : σ[i]? = some (some (.ref a))) (c : Cont K F as (L2.upd H a u) a t) :
    SimB N K F as (ρ.set i (.own t)) st σ (L2.upd H a u) ∧ F a = none := by
  have hi := (List.getElem?_eq_some_iff.mp e).1
  obtain ⟨b, h1, h2, h3, h4⟩ := S.sim.own i t0 e
  rw [es] at h1
  cases h1
  have nw := S.new i t0 a e es
  refine ⟨⟨⟨sub_updR S.sim.sub h2, S.sim.sto.updOut h3, by rw [List.length_set]; exact S.sim.len, fun j w q => ?_, fun j w q => ?_, fun j k w z b q1 q2 q3 q4 => ?_⟩, S.nx.updOut nw, fun j w b q1 q2 => ?_⟩, h2⟩
  · have hj : i ≠ j := fun z => by subst z; rw [List.getElem?_set_self hi] at q; cases q
    rw [List.getElem?_set_ne hj] at q
    exact S.sim.val j w q
  · by_cases hj : i = j
    · subst hj
      rw [List.getElem?_set_self hi] at q
      cases q
      exact ⟨a, es, h2, h3, c⟩
    · rw [List.getElem?_set_ne hj] at q
      obtain ⟨b, k1, k2, k3, k4⟩ := S.sim.own j w q
      have nb : b ≠ a := fun z => hj (S.sim.inj i j t0 w a e q es (by rw [k1, z]))
      exact ⟨b, k1, k2, k3, k4.mono (Sub.refl _) (Pre.refl _) fun o ho => by rw [upd_ne nb]; exact ho⟩
  · have g : ∀ (m : Nat) (y : T), (ρ.set i (Slot.own t))[m]? = some (Slot.own y) → ∃ y' : T, ρ[m]? = some (Slot.own y') := fun m y q => by
      by_cases hm : i = m
      · subst hm; exact ⟨t0, e⟩
      · rw [List.getElem?_set_ne hm] at q; exact ⟨y, q⟩
    obtain ⟨y1, g1⟩ := g j w q1
    obtain ⟨y2, g2⟩ := g k z q2
    exact S.sim.inj j k y1 y2 b g1 g2 q3 q4
  · by_cases hj : i = j
    · subst hj
      exact S.new _ t0 b e q2
    · rw [List.getElem?_set_ne hj] at q1
      exact S.new j w b q1 q2
/-- an expression's reading from a statement's -/
theorem toE {ev : Ev} {k : T → Store → R} {Q : VK} (S : SimB N K F as ρ st σ H) (h : OutS K xi W N D ((ev ρ st).then k)) (hk : ∀ t st' F' as' H' v, OutS K xi W N D (k t st') → Nxt F as H F' as' H' → SimB N K F' as' ρ st' σ H' → Rep K F' as' v t → Q v H') : tE K xi W ev σ H Q := by
  refine ⟨F, as, ρ, st, S.sim, ?_⟩
  cases e : ev ρ st with
  | bad => rw [e] at h; exact h.elim
  | ex x s1 =>
    rw [e] at h
    exact fun F' as' H' cls d n s So r => h F' as' H' σ cls d (S.nx.trans n) s So r
  | ok t s1 =>
    rw [e] at h
    exact fun F' as' H' v n s So r => hk t s1 F' as' H' v h n (S.nxt n s So) r
theorem toB {ev : Ev} {k : T → Store → R} {Q : VK} (S : SimB N K F as ρ st σ H) (h : OutS K xi W N D ((ev ρ st).then k)) (hk : ∀ t st' F' as' H' v, OutS K xi W N D (k t st') → Nxt F as H F' as' H' → SimB N K F' as' ρ st' σ H' → RepB K F' as' H' v t → Q v H') : tB K xi W ev σ H Q := by
  refine ⟨F, as, ρ, st, S.sim, ?_⟩
  cases e : ev ρ st with
  | bad => rw [e] at h; exact h.elim
  | ex x s1 =>
    rw [e] at h
    exact fun F' as' H' cls d n s So r => h F' as' H' σ cls d (S.nx.trans n) s So r
  | ok t s1 =>
    rw [e] at h
    exact fun F' as' H' v n s So r => hk t s1 F' as' H' v h n (S.nxt n s So) r
theorem toT {ev : Ev} {k : T → Store → R} {Q : Bool → Hp → Prop} (S : SimB N K F as ρ st σ H) (h : OutS K xi W N D ((ev ρ st).then k)) (hk : ∀ t st' F' as' H', OutS K xi W N D (k t st') → SimB N K F' as' ρ st' σ H' → ∃ b, truth st' t = some b ∧ Q b H') (ht : ∀ t st', OutS K xi W N D (k t st') → ∃ b, truth st' t = some b) : tT K xi W ev σ H Q := by
  refine tT_of ⟨F, as, ρ, st, S.sim, ?_⟩
  cases e : ev ρ st with
  | bad => rw [e] at h; exact h.elim
  | ex x s1 =>
    rw [e] at h
    exact fun F' as' H' cls d n s So r => h F' as' H' σ cls d (S.nx.trans n) s So r
  | ok t s1 =>
    rw [e] at h
    obtain ⟨b, eb⟩ := ht t s1 h
    refine ⟨b, eb, fun F' as' H' n s So => ?_⟩
    obtain ⟨c, ec, q⟩ := hk t s1 F' as' H' h (S.nxt n s So)
    rw [eb] at ec; cases ec
    exact q
theorem toEs {ev : Evs} {k : List T → Store → R} {Q : List V → Hp → Prop} (S : SimB N K F as ρ st σ H) (h : OutS K xi W N D (match ev ρ st with | .ok t st' => k t st' | .ex x st' => .ex x st' | .bad => .bad)) (hk : ∀ t st' F' as' H' v, OutS K xi W N D (k t st') → Nxt F as H F' as' H' → SimB N K F' as' ρ st' σ H' → Reps K F' as' v t → Q v H') : tEs K xi W ev σ H Q := by
  refine ⟨F, as, ρ, st, S.sim, ?_⟩
  cases e : ev ρ st with
  | bad => rw [e] at h; exact h.elim
  | ex x s1 =>
    rw [e] at h
    exact fun F' as' H' cls d n s So r => h F' as' H' σ cls d (S.nx.trans n) s So r
  | ok t s1 =>
    rw [e] at h
    exact fun F' as' H' v n s So r => hk t s1 F' as' H' v h n (S.nxt n s So) r
/-- a new object that comes unshared -/
theorem toF {ev : Ev} {k : T → Store → R} {Q : VK} (S : SimB N K F as ρ st σ H) (h : OutS K xi W N D ((ev ρ st).then k)) (hm : ∀ t st', OutS K xi W N D (k t st') → isMut t = true)
    (hk : ∀ t st' F' as' H' a, OutS K xi W N D (k t st') → Nxt F as H F' as' H' → SimB N K F' as' ρ st' σ H' → F' a = none → a ∉ as' → H a = none → Cont K F' as' H' a t → Q (.ref a) H') : tF K xi W true ev σ H Q := by
  refine ⟨F, as, ρ, st, S.sim, ?_⟩
  cases e : ev ρ st with
  | bad => rw [e] at h; exact h.elim
  | ex x s1 =>
    rw [e] at h
    exact fun F' as' H' cls d n s So r => h F' as' H' σ cls d (S.nx.trans n) s So r
  | ok t s1 =>
    rw [e] at h
    have hm := hm t s1 h
    show PostF true K F as H t s1 Q
    unfold PostF
    rw [hm]
    exact fun F' as' H' a n s So h1 h2 h3 c => hk t s1 F' as' H' a h n (S.nxt n s So) h1 h2 h3 c
theorem new_of {a : Addr} (n : Nxt N.F N.as N.H F as H) (h : H a = none) : N.H a = none := by
  by_cases q : N.H a = none
  · exact q
  · exact absurd h (n.alive a q)
end
/-! blocks -/
section
variable {K : PySem.W.Frag} {xi : XI} {W : WX} {X : Cx}
def evSeq (a b : Env → Store → R) : Env → Store → R := fun ρ st => match a ρ st with
  | .nx ρ' st' => b ρ' st'
  | r => r
theorem ss_nil : PSs X [] (tS X.K xi W fun ρ st => .nx ρ st) := PSs.imp pss_nil fun D σ H h => by
  obtain ⟨N, F, as, ρ, st, S, h⟩ := h
  exact h F as σ H S
theorem seq_in {a b : Env → Store → R} {D : Ends} {σ : L2.St} {H : Hp} (h : tS K xi W (evSeq a b) D σ H) : tSeq (tS K xi W a) (tS K xi W b) D σ H := by
  obtain ⟨N, F, as, ρ, st, S, h⟩ := h
  refine ⟨N, F, as, ρ, st, S, ?_⟩
  unfold evSeq at h
  cases e : a ρ st with
  | nx ρ' st' =>
    rw [e] at h
    exact fun F' as' σ' H' S' => ⟨N, F', as', ρ', st', S', h⟩
  | rt t s1 => rw [e] at h; exact h
  | bk r s1 => rw [e] at h; exact h
  | ct r s1 => rw [e] at h; exact h
  | ex x s1 => rw [e] at h; exact h
  | bad => rw [e] at h; exact h
theorem ss_cons {a b : Env → Store → R} {s : Stmt} {rest : List Stmt} (h1 : PS X s (tS X.K xi W a)) (h2 : PSs X rest (tS X.K xi W b)) : PSs X (s :: rest) (tS X.K xi W (evSeq a b)) := PSs.imp (pss_cons h1 h2) fun D σ H h => seq_in h
/-- a step that no statement makes -/
theorem ss_ghost {a b : Env → Store → R} {rest : List Stmt} (h2 : PSs X rest (tS X.K xi W b)) (h : ∀ N F as ρ st σ H D, SimB N X.K F as ρ st σ H → OutS X.K xi W N D (a ρ st) → ∃ ρ' st' F' as', a ρ st = .nx ρ' st' ∧ SimB N X.K F' as' ρ' st' σ H) : PSs X rest (tS X.K xi W (evSeq a b)) := PSs.imp h2 fun D σ H q => by
  obtain ⟨N, F, as, ρ, st, S, q⟩ := seq_in q
  obtain ⟨ρ', st', F', as', e, S'⟩ := h N F as ρ st σ H _ S q
  rw [e] at q
  exact q F' as' σ H S'
end
end Q
end
/-! QSt2 -/
section
set_option linter.all false
set_option maxRecDepth 100000
set_option maxHeartbeats 2000000
namespace Q
open PySem L2
mutual
theorem assign_own : ∀ {tg : Tg} {t : T} {ρ ρ' : Env}, assign tg t ρ = some ρ' → ∀ (i : Nat) (u : T), ρ'[i]? = some (Slot.own u) → ρ[i]? = some (Slot.own u) ∧ i ∉ tg.slots
  | .nm j, t, ρ, ρ', e, i, u, h => by
    unfold assign at e
    split at e
    · rename_i hj
      cases e
      have n : j ≠ i := fun z => by subst z; rw [List.getElem?_set_self hj] at h; cases h
      rw [List.getElem?_set_ne n] at h
      exact ⟨h, by unfold Tg.slots; simpa using Ne.symm n⟩
    · cases e
  | .tp ts, .tup xs, ρ, ρ', e, i, u, h => by
    unfold assign at e
    exact assigns_own e i u h
  | .tp ts, .non, _, _, e, _, _, _ => by unfold assign at e; cases e
  | .tp ts, .bl _, _, _, e, _, _, _ => by unfold assign at e; cases e
  | .tp ts, .int _, _, _, e, _, _, _ => by unfold assign at e; cases e
  | .tp ts, .str _, _, _, e, _, _, _ => by unfold assign at e; cases e
  | .tp ts, .lst _, _, _, e, _, _, _ => by unfold assign at e; cases e
  | .tp ts, .dic _, _, _, e, _, _, _ => by unfold assign at e; cases e
  | .tp ts, .ref _, _, _, e, _, _, _ => by unfold assign at e; cases e
  | .tp ts, .scr _, _, _, e, _, _, _ => by unfold assign at e; cases e
  | .tp ts, .tab _ _, _, _, e, _, _, _ => by unfold assign at e; cases e
theorem assigns_own : ∀ {ts : List Tg} {xs : List T} {ρ ρ' : Env}, assigns ts xs ρ = some ρ' → ∀ (i : Nat) (u : T), ρ'[i]? = some (Slot.own u) → ρ[i]? = some (Slot.own u) ∧ i ∉ slotsL ts
  | [], [], ρ, ρ', e, i, u, h => by
    unfold assigns at e
    cases e
    exact ⟨h, by unfold slotsL; simp⟩
  | t :: ts, x :: xs, ρ, ρ', e, i, u, h => by
    unfold assigns at e
    split at e
    · rename_i ρ1 e1
      obtain ⟨h1, h2⟩ := assigns_own e i u h
      obtain ⟨h3, h4⟩ := assign_own e1 i u h1
      refine ⟨h3, ?_⟩
      unfold slotsL
      rw [List.mem_append, not_or]
      exact ⟨h4, h2⟩
    · cases e
  | [], _ :: _, _, _, e, _, _, _ => by unfold assigns at e; cases e
  | _ :: _, [], _, _, e, _, _, _ => by unfold assigns at e; cases e
end
theorem assign_B {K : PySem.W.Frag} {N : Anch} {F : Hp} {as : List Addr} {st : Store} {H : Hp} {tg : Tg} {t : T} {v : V} {ρ ρ' : Env} {σ : L2.St} {Q : L2.St → Hp → Prop} (S : SimB N K F as ρ st σ H) (r : Rep K F as v t) (e : assign tg t ρ = some ρ')
    (k : ∀ σ', SimB N K F as ρ' st σ' H → Q σ' H) : tgG K tg v σ H Q := by
  have z : SimU (fun _ => False) K F as ρ st σ H := S.sim.u rfl fun _ _ => rfl
  refine assign_s z r e fun σ' S' hl hk => k σ' ⟨S'.sim fun _ q => q.1, S.nx, fun i u a e1 e2 => ?_⟩
  obtain ⟨h1, h2⟩ := assign_own e i u e1
  rw [hk i h2] at e2
  exact S.new i u a h1 e2
theorem then2 {α β : Type} {o : O α} {f : α → Store → O β} {k : β → Store → R} : (o.bind f).then k = o.then fun a s => (f a s).then k := by cases o <;> rfl
def isCompE : Expr → Bool
  | .ListComp _ _ _ _ => true
  | .SetComp _ _ _ _ => true
  | .DictComp _ _ _ _ _ => true
  | _ => false
theorem swaps_no {v : Expr} {t : Option Expr} {l : Nat} {env : PySem.Env} (h : isCompE v = false) : swapsWith v t l env = pure false := by cases v <;> first | rfl | cases h
/-- held apart by no one yet -/
def Apart (K : PySem.W.Frag) (N : Anch) (F : Hp) (as : List Addr) (H : Hp) (v : V) (t : T) : Prop := ∃ a, v = .ref a ∧ F a = none ∧ a ∉ as ∧ N.H a = none ∧ Cont K F as H a t
def RepX (o : Bool) (K : PySem.W.Frag) (N : Anch) (F : Hp) (as : List Addr) (H : Hp) (v : V) (t : T) : Prop := if (o && isMut t) = true then Apart K N F as H v t else Rep K F as v t
section
variable {K : PySem.W.Frag} {xi : XI} {W : WX} {N : Anch} {F F' : Hp} {as as' : List Addr} {ρ : Env} {st st' : Store} {σ : L2.St} {H H' : Hp} {D : Ends}
theorem Cont.apart {a : Addr} {t : T} (c : Cont K F as H a t) (n : Nxt F as H F' as' H') (f : F a = none) (m : a ∉ as) : F' a = none ∧ a ∉ as' := by
  refine ⟨?_, fun z => c.there (n.anew a z m)⟩
  by_cases q : F' a = none
  · exact q
  · exact absurd (n.fnew a q f) c.there
theorem Apart.nxt {v : V} {t : T} (h : Apart K N F as H v t) (n : Nxt F as H F' as' H') : Apart K N F' as' H' v t := by
  obtain ⟨a, e, f, m, w, c⟩ := h
  obtain ⟨f', m'⟩ := c.apart n f m
  exact ⟨a, e, f', m', w, c.nxt n m⟩
theorem RepX.nxt {o : Bool} {v : V} {t : T} (h : RepX o K N F as H v t) (n : Nxt F as H F' as' H') : RepX o K N F' as' H' v t := by
  unfold RepX at h ⊢
  split
  · rename_i q; rw [if_pos q] at h; exact h.nxt n
  · rename_i q; rw [if_neg q] at h; exact h.mono n.ff n.pre
/-- an expression whose value is shared (o = false), or may come apart -/
theorem toX {ev : Ev} {k : T → Store → R} {Q : VK} {fr : Bool} (o : Bool) (hf : o = true → fr = true) (S : SimB N K F as ρ st σ H) (h : OutS K xi W N D ((ev ρ st).then k))
    (hk : ∀ t st' F' as' H' v, OutS K xi W N D (k t st') → Nxt F as H F' as' H' → SimB N K F' as' ρ st' σ H' → RepX o K N F' as' H' v t → (∀ a, v = .ref a → o = true → isMut t = true → H a = none) → Q v H') : tF K xi W fr ev σ H Q := by
  cases o with
  | false => exact tE_tF (toE S h fun t st' F' as' H' v q n S' r => hk t st' F' as' H' v q n S' r fun _ _ z => nomatch z)
  | true =>
    obtain rfl := hf rfl
    refine ⟨F, as, ρ, st, S.sim, ?_⟩
    cases e : ev ρ st with
    | bad => rw [e] at h; exact h.elim
    | ex x s1 =>
      rw [e] at h
      exact fun F' as' H' cls d n s So r => h F' as' H' σ cls d (S.nx.trans n) s So r
    | ok t s1 =>
      rw [e] at h
      show PostF true K F as H t s1 Q
      unfold PostF
      by_cases hm : (true && isMut t) = true
      · rw [if_pos hm]
        intro F' as' H' a n s So h1 h2 h3 c
        refine hk t s1 F' as' H' _ h n (S.nxt n s So) ?_ fun b e _ _ => by cases e; exact h3
        unfold RepX
        rw [if_pos hm]
        exact ⟨a, rfl, h1, h2, new_of S.nx h3, c⟩
      · rw [if_neg hm]
        intro F' as' H' v n s So r
        refine hk t s1 F' as' H' v h n (S.nxt n s So) ?_ fun b e _ z => absurd (by rw [z]; rfl) hm
        unfold RepX
        rw [if_neg hm]
        exact r
end
section
variable {Z : Ctx} {Γ : Sc} {W : WX} {X : Cx} {Wn : Nat}
/-- a name is set: the reading ahead of the store -/
abbrev PAsg (Z : Ctx) (W : WX) (X : Cx) (i : Nat) (e : E) (x : PySem.Str) (px : Pos) (ex : Expr) (p : Pos) : Prop := PS X (.Assign [.Name x px] ex p) (tAsg (tF X.K Z.xi W (freshE e) (evalE Z.call Z.hear e)) (gName i))
theorem asg_plain {i : Nat} {e : E} {x : PySem.Str} {px p : Pos} {ex : Expr} (G : XG Γ W X) (hN : Γ.N[i]? = some x) (hl : Γ.loc x = true) (hc : isCompE ex = false) (h : Snd Z W X e ex) : PAsg Z W X i e x px ex p := by
  obtain ⟨h1, h2⟩ := G.loc hl
  exact ps_set G.nd (by rw [G.N]; exact hN) h1 h.sf (swaps_no hc) h2
theorem ss_ass {i : Nat} {e : E} {x : PySem.Str} {px p : Pos} {ex : Expr} (h : PAsg Z W X i e x px ex p) : PS X (.Assign [.Name x px] ex p) (tS X.K Z.xi W (evalS Z.call Z.hear Wn (.ass i e))) := by
  refine PS.imp h fun D σ H q => ?_
  obtain ⟨N, F, as, ρ, st, S, q⟩ := q
  refine tE_tF (toE (k := fun t st' => setS ρ i (.val t) st') S q fun t st' F' as' H' v q n S' r => ?_)
  unfold setS at q
  split at q
  · rename_i hi
    exact q F' as' _ H' (S'.set hi r)
  · exact q.elim
theorem ss_own {i : Nat} {e : E} {x : PySem.Str} {px p : Pos} {ex : Expr} (h : PAsg Z W X i e x px ex p) : PS X (.Assign [.Name x px] ex p) (tS X.K Z.xi W (evalS Z.call Z.hear Wn (.own i e))) := by
  refine PS.imp h fun D σ H q => ?_
  obtain ⟨N, F, as, ρ, st, S, q⟩ := q
  have q : OutS X.K Z.xi W N D (if freshE e then (evalE Z.call Z.hear e ρ st).then fun t st' => if isMut t then setS ρ i (.own t) st' else .bad else .bad) := q
  split at q
  · rename_i hf
    refine toX (k := fun t st' => if isMut t then setS ρ i (.own t) st' else .bad) true (fun _ => hf) S q fun t st' F' as' H' v q n S' r new => ?_
    split at q
    · rename_i hm
      unfold setS at q
      split at q
      · rename_i hi
        unfold RepX at r
        rw [if_pos (by rw [hm]; rfl)] at r
        obtain ⟨a, rfl, f, m, w, c⟩ := r
        refine q F' as' _ H' (S'.setOwn hi f m c w fun j u _ ej q2 => ?_)
        exact S.sim.noOwn (new a rfl rfl hm) j u ej q2
      · exact q.elim
    · exact q.elim
  · exact q.elim
theorem ss_pas {p : Pos} {xi : XI} {W : WX} : PS X (.Pass p) (tS X.K xi W fun ρ st => .nx ρ st) := PS.imp ps_pass fun D σ H h => by
  obtain ⟨N, F, as, ρ, st, S, h⟩ := h
  exact h F as σ H S
theorem ss_brk {p : Pos} {xi : XI} {W : WX} : PS X (.Break p) (tS X.K xi W fun ρ st => .bk ρ st) := PS.imp ps_break fun D σ H h => by
  obtain ⟨N, F, as, ρ, st, S, h⟩ := h
  exact h F as σ H S
theorem ss_cnt {p : Pos} {xi : XI} {W : WX} : PS X (.Continue p) (tS X.K xi W fun ρ st => .ct ρ st) := PS.imp ps_continue fun D σ H h => by
  obtain ⟨N, F, as, ρ, st, S, h⟩ := h
  exact h F as σ H S
theorem ss_retN {p : Pos} {xi : XI} {W : WX} : PS X (.Return none p) (tS X.K xi W fun _ st => .rt .non st) := PS.imp ps_retN fun D σ H h => by
  obtain ⟨N, F, as, ρ, st, S, h⟩ := h
  exact h F as H _ S.nx S.sim.sub S.sim.sto .non
theorem ss_ret {e : E} {ex : Expr} {p : Pos} (h : Snd Z W X e ex) : PS X (.Return (some ex) p) (tS X.K Z.xi W (evalS Z.call Z.hear Wn (.ret e))) := PS.imp (ps_ret h.sf.se) fun D σ H q => by
  obtain ⟨N, F, as, ρ, st, S, q⟩ := q
  exact toE (k := fun t st' => .rt t st') S q fun t st' F' as' H' v q n S' r => q F' as' H' v S'.nx S'.sim.sub S'.sim.sto r
theorem Sto.push {K : PySem.W.Frag} {F : Hp} {as : List Addr} {st : Store} {H : Hp} {a : Addr} {t : T} (S : Sto K F as st H) (f : F a = none) (m : a ∉ as) (c : Cont K F as H a t) : Sto K F (as ++ [a]) (st ++ [t]) H where
  len := by rw [List.length_append, List.length_append, S.len]; rfl
  nd := List.nodup_append.mpr ⟨S.nd, by simp, fun x hx y hy => by
    have e : y = a := by simpa using hy
    rw [e]
    exact fun z => m (z ▸ hx)⟩
  at_ := fun n b u h e => by
    have pr : Pre as (as ++ [a]) := ⟨[a], rfl⟩
    by_cases hn : n < as.length
    · rw [List.getElem?_append_left hn] at h
      rw [List.getElem?_append_left (by rw [← S.len]; exact hn)] at e
      obtain ⟨h1, h2⟩ := S.at_ n b u h e
      exact ⟨h1, h2.mono (Sub.refl _) pr fun _ z => z⟩
    · have hn' : n = as.length := by
        have := (List.getElem?_eq_some_iff.mp h).1
        rw [List.length_append] at this
        simp at this
        omega
      subst hn'
      rw [List.getElem?_append_right (Nat.le_refl _)] at h
      rw [List.getElem?_append_right (by rw [S.len]; exact Nat.le_refl _)] at e
      simp at h
      rw [S.len] at e
      simp at e
      subst h e
      exact ⟨f, .inl (c.mono (Sub.refl _) pr fun _ z => z)⟩
theorem ss_retB {e : E} {ex : Expr} {p : Pos} (h : Snd Z W X e ex) : PS X (.Return (some ex) p) (tS X.K Z.xi W (evalS Z.call Z.hear Wn (.retB e))) := PS.imp (ps_ret h.sf) fun D σ H q => by
  obtain ⟨N, F, as, ρ, st, S, q⟩ := q
  have q : OutS X.K Z.xi W N D (if freshE e then (evalE Z.call Z.hear e ρ st).then fun t st' => if isMut t then .rt (.ref st'.length) (st' ++ [t]) else .bad else .bad) := q
  split at q
  · rename_i hf
    refine toX (k := fun t st' => if isMut t then .rt (.ref st'.length) (st' ++ [t]) else .bad) true (fun _ => hf) S q fun t st' F' as' H' v q n S' r new => ?_
    split at q
    · rename_i hm
      unfold RepX at r
      rw [if_pos (by rw [hm]; rfl)] at r
      obtain ⟨a, rfl, f, m, w, c⟩ := r
      have hl := S'.sim.sto.len
      refine q F' (as' ++ [a]) H' _ ⟨S'.nx.ff, S'.nx.pre.trans ⟨[a], rfl⟩, S'.nx.keep, S'.nx.alive, S'.nx.fnew, fun b hb nb => ?_⟩ S'.sim.sub (S'.sim.sto.push f m c) (.ref (by rw [← hl]; simp))
      rcases List.mem_append.mp hb with z | z
      · exact S'.nx.anew b z nb
      · have e : b = a := by simpa using z
        rw [e]; exact w
    · exact q.elim
  · exact q.elim
theorem ss_exp {e : E} {ex : Expr} {p : Pos} (hc : isCompE ex = false) (h : Snd Z W X e ex) : PS X (.Expr ex p) (tS X.K Z.xi W (evalS Z.call Z.hear Wn (.exp e))) := PS.imp (ps_expr h.sf.se (swaps_no hc)) fun D σ H q => by
  obtain ⟨N, F, as, ρ, st, S, q⟩ := q
  exact toE (k := fun _ st' => .nx ρ st') S q fun t st' F' as' H' v q n S' r => q F' as' σ H' S'
theorem ss_iff {c : E} {x : Expr} {a b : Env → Store → R} {xs ys : List Stmt} {p : Pos} (hc : ST X Z.xi W Z.call Z.hear c x) (ha : PSs X xs (tS X.K Z.xi W a)) (hb : PSs X ys (tS X.K Z.xi W b)) :
    PS X (.If x xs ys p) (tS X.K Z.xi W fun ρ st => (evB Z.call Z.hear c ρ st).then fun t st' => match truth st' t with
      | some true => a ρ st'
      | some false => b ρ st'
      | none => .bad) := PS.imp (ps_if hc ha hb) fun D σ H q => by
  obtain ⟨N, F, as, ρ, st, S, q⟩ := q
  refine toT (ev := evBx Z.call Z.hear c) (k := fun t st' => match truth st' t with
      | some true => a ρ st'
      | some false => b ρ st'
      | none => .bad) S q (fun t st' F' as' H' q S' => ?_) fun t st' q => ?_
  · cases et : truth st' t with
    | none => rw [et] at q; exact q.elim
    | some k =>
      rw [et] at q
      refine ⟨k, rfl, ?_⟩
      cases k with
      | true => exact ⟨N, F', as', ρ, st', S', q⟩
      | false => exact ⟨N, F', as', ρ, st', S', q⟩
  · cases et : truth st' t with
    | none => rw [et] at q; exact q.elim
    | some k => exact ⟨k, rfl⟩
theorem ss_tas {tg : Tg} {e : E} {tgx ex : Expr} {p : Pos} (hs : swapsWithSole [tgx] ex p.line X.env = pure false) (hw : swappedStores [tgx] ex X.env = pure none) (hn : notStar tgx = true) (h : Snd Z W X e ex) (hg : PG X tgx (tgG X.K tg)) : PS X (.Assign [tgx] ex p) (tS X.K Z.xi W (evalS Z.call Z.hear Wn (.tas tg e))) := PS.imp (ps_asg h.sf.se hg hs hw (by rw [eachOne hn]; rfl)) fun D σ H q => by
  obtain ⟨N, F, as, ρ, st, S, q⟩ := q
  refine toE (k := fun t st' => match assign tg t ρ with
    | some ρ' => .nx ρ' st'
    | none => .bad) S q fun t st' F' as' H' v q n S' r => ?_
  cases ea : assign tg t ρ with
  | none => rw [ea] at q; exact q.elim
  | some ρ' =>
    rw [ea] at q
    exact assign_B S' r ea fun σ' S2 => q F' as' σ' H' S2
end
end Q
end
/-! QSt3 -/
section
set_option linter.all false
set_option maxRecDepth 100000
set_option maxHeartbeats 2000000
namespace Q
open PySem L2
section
variable {K : PySem.W.Frag} {xi : XI} {W : WX} {N : Anch} {F F' : Hp} {as as' : List Addr} {ρ : Env} {st st' : Store} {σ : L2.St} {H H' : Hp} {D : Ends}
/-- a later anchor, over the heap of the first -/
def Anch.at (N : Anch) (F : Hp) (as : List Addr) : Anch := ⟨F, as, N.H⟩
theorem re_self (S : SimB N K F as ρ st σ H) : SimB (N.at F as) K F as ρ st σ H where
  sim := S.sim
  nx := {
    ff := Sub.refl F
    pre := Pre.refl as
    keep := fun a o e nt m => S.nx.keep a o e nt fun z => m (S.nx.pre.mem z)
    alive := S.nx.alive
    fnew := fun a h e => absurd e h
    anew := fun a h n => absurd h n }
  new := S.new
theorem re_nx {F1 : Hp} {as1 : List Addr} {H1 : Hp} (n : Nxt N.F N.as N.H F1 as1 H1) (m : Nxt F1 as1 N.H F as H) : Nxt N.F N.as N.H F as H :=
  Nxt.trans (F1 := F1) (as1 := as1) (H1 := N.H) ⟨n.ff, n.pre, fun _ _ e _ _ => e, fun _ e => e, n.fnew, n.anew⟩ m
theorem re_back {F1 : Hp} {as1 : List Addr} {H1 : Hp} (n : Nxt N.F N.as N.H F1 as1 H1) (S : SimB (N.at F1 as1) K F as ρ st σ H) : SimB N K F as ρ st σ H := ⟨S.sim, re_nx n S.nx, S.new⟩
end
section
variable {X : Cx} {Z : Ctx} {xi : XI} {W : WX} {Wn : Nat}
theorem ss_for {k : ItK} {tg : Tg} {src : Evs} {evb : Env → Store → R} {tgx iter : Expr} {body : List Stmt} {p : Pos} (hp : PassesOwn (model X.prog X.w) X.A X.env X.xe) (hc : X.calm = true)
    (hi : PI X tgx iter (iQ X.K xi W gF k src)) (hg : PG X tgx (tgG X.K tg)) (hb : PSs X body (tS X.K xi W evb)) (hs : notSet iter = true) :
    PS X (.For tgx iter body [] p) (tS X.K xi W fun ρ st => (src ρ st).then fun ts st' => match itEval k ts with
      | some xs => forL (fun x ρ s => match assign tg x ρ with
        | some ρ' => evb ρ' s
        | none => .bad) xs ρ st'
      | none => .bad) := by
  refine PS.imp (ps_for hp hc hi hg hb fun x => by cases iter <;> first | rfl | cases hs) fun D σ H q => ?_
  obtain ⟨N, F, as, ρ, st, S, q⟩ := q
  dsimp only at q
  refine ⟨F, as, ρ, st, S.sim, ?_⟩
  cases e : src ρ st with
  | bad => rw [e] at q; exact q.elim
  | ex x s1 =>
    rw [e] at q
    exact fun F' as' H' cls d n s So r => q F' as' H' σ cls d (S.nx.trans n) s So r
  | ok ts st1 =>
    rw [e] at q
    have q : OutS X.K xi W N D (match itEval k ts with
      | some xs => forL (fun x ρ s => match assign tg x ρ with
        | some ρ' => evb ρ' s
        | none => .bad) xs ρ st1
      | none => .bad) := q
    show match itEval k ts with
      | some xs => ∀ F' as' H' J, Nxt F as H F' as' H' → Sub F' H' → Sto X.K F' as' st1 H' → ItOk X.K (gF F' as' H') J xs → xs.length ≤ sizeLine → _
      | none => False
    cases ex : itEval k ts with
    | none => rw [ex] at q; exact q.elim
    | some xs =>
      rw [ex] at q
      generalize hf : (fun x ρ s => match assign tg x ρ with
        | some ρ' => evb ρ' s
        | none => .bad : T → Env → Store → R) = f at q
      have q : OutS X.K xi W N D (forL f xs ρ st1) := q
      intro F1 as1 H1 J n1 s1 So1 io hz
      have S1 : SimB N X.K F1 as1 ρ st1 σ H1 := S.nxt n1 s1 So1
      refine ⟨fun i m σ H => m = xs.length - i ∧ i ≤ xs.length ∧ ∃ F as ρ st, SimB (N.at F1 as1) X.K F as ρ st σ H ∧ OutS X.K xi W N D (forL f (xs.drop i) ρ st), ⟨xs.length, by simp, Nat.zero_le _, F1, as1, ρ, st1, re_self S1, q⟩, ?_⟩
      rintro i m σi Hi ⟨rfl, hi, Fi, asi, ρi, sti, Si, qi⟩
      obtain ⟨go, stop⟩ := io Fi asi Hi sti ⟨Si.nx.ff, Si.nx.pre⟩ Si.sim.sub Si.sim.sto i
      by_cases hlt : i < xs.length
      · obtain ⟨g1, g2⟩ := go hlt
        refine .inr ⟨g1, fun σ H => ∃ F as ρ st, SimB (N.at F1 as1) X.K F as ρ st σ H ∧ OutS X.K xi W N D (forL f (xs.drop (i + 1)) ρ st), fun σ' H' p => ⟨xs.length - (i + 1), by omega, rfl, hlt, p⟩, fun x H' y => ?_⟩
        obtain ⟨F2, n2, s2, So2, t, et, r⟩ := g2 x H' y
        have ed : xs.drop i = t :: xs.drop (i + 1) := by
          have q : t = xs[i] := by
            have := List.getElem?_eq_getElem hlt
            rw [et] at this; exact Option.some.inj this
          rw [q]; exact List.drop_eq_getElem_cons hlt
        rw [ed] at qi
        unfold forL at qi
        have S2 := Si.nxt n2 s2 So2
        cases ea : assign tg t ρi with
        | none =>
          have ef : f t ρi sti = .bad := by rw [← hf]; simp only [ea]
          rw [ef] at qi
          exact qi.elim
        | some ρ' =>
          have ef : f t ρi sti = evb ρ' sti := by rw [← hf]; simp only [ea]
          rw [ef] at qi
          refine assign_B S2 r ea fun σ2 S3 => ⟨N.at F1 as1, F2, asi, ρ', sti, S3, ?_⟩
          cases eb : evb ρ' sti with
          | nx ρ2 st2 => rw [eb] at qi; exact fun F as σ H S => ⟨F, as, ρ2, st2, S, qi⟩
          | ct ρ2 st2 => rw [eb] at qi; exact fun F as σ H S => ⟨F, as, ρ2, st2, S, qi⟩
          | bk ρ2 st2 => rw [eb] at qi; exact fun F as σ H S => qi F as σ H (re_back S1.nx S)
          | rt u st2 => rw [eb] at qi; exact fun F as H v n s So r => qi F as H v (re_nx S1.nx n) s So r
          | ex x st2 => rw [eb] at qi; exact fun F as H σ cls d n s So r => qi F as H σ cls d (re_nx S1.nx n) s So r
          | bad => rw [eb] at qi; exact qi.elim
      · have e : i = xs.length := by omega
        subst e
        rw [List.drop_length] at qi
        unfold forL at qi
        exact .inl ⟨stop (Nat.le_refl _), qi Fi asi σi Hi (re_back S1.nx Si)⟩
theorem ss_whl {c : E} {x : Expr} {evb : Env → Store → R} {body : List Stmt} {p : Pos} (hp : PassesOwn (model X.prog X.w) X.A X.env X.xe) (hc : ST X Z.xi W Z.call Z.hear c x) (hb : PSs X body (tS X.K Z.xi W evb)) :
    PS X (.While x body [] p) (tS X.K Z.xi W fun ρ st => whlL (evB Z.call Z.hear c) evb Wn ρ st) := by
  refine PS.imp (ps_while hp hc hb) fun D σ H q => ?_
  obtain ⟨N, F, as, ρ, st, S, q⟩ := q
  refine ⟨fun m σ H => ∃ F as ρ st, SimB N X.K F as ρ st σ H ∧ OutS X.K Z.xi W N D (whlL (evB Z.call Z.hear c) evb m ρ st), ⟨Wn, F, as, ρ, st, S, q⟩, ?_⟩
  rintro m σi Hi ⟨Fi, asi, ρi, sti, Si, qi⟩
  cases m with
  | zero => exact qi.elim
  | succ m =>
    have qi : OutS X.K Z.xi W N D ((evBx Z.call Z.hear c ρi sti).then fun t st1 => match truth st1 t with
      | some true => match evb ρi st1 with
        | .nx ρ' st' => whlL (evB Z.call Z.hear c) evb m ρ' st'
        | .ct ρ' st' => whlL (evB Z.call Z.hear c) evb m ρ' st'
        | .bk ρ' st' => .nx ρ' st'
        | r => r
      | some false => .nx ρi st1
      | none => .bad) := qi
    refine toT (ev := evBx Z.call Z.hear c) Si qi (fun t st' F' as' H' q S' => ?_) fun t st' q => ?_
    · cases et : truth st' t with
      | none => rw [et] at q; exact q.elim
      | some k =>
        rw [et] at q
        refine ⟨k, rfl, ?_⟩
        cases k with
        | false => exact q F' as' σi H' S'
        | true =>
          refine ⟨fun σ H => ∃ F as ρ st, SimB N X.K F as ρ st σ H ∧ OutS X.K Z.xi W N D (whlL (evB Z.call Z.hear c) evb m ρ st), fun σ' H' p => ⟨m, Nat.lt_succ_self m, p⟩, N, F', as', ρi, st', S', ?_⟩
          have q : OutS X.K Z.xi W N D (match evb ρi st' with
            | .nx ρ' st' => whlL (evB Z.call Z.hear c) evb m ρ' st'
            | .ct ρ' st' => whlL (evB Z.call Z.hear c) evb m ρ' st'
            | .bk ρ' st' => .nx ρ' st'
            | r => r) := q
          cases eb : evb ρi st' with
          | nx ρ2 st2 => rw [eb] at q; exact fun F as σ H S => ⟨F, as, ρ2, st2, S, q⟩
          | ct ρ2 st2 => rw [eb] at q; exact fun F as σ H S => ⟨F, as, ρ2, st2, S, q⟩
          | bk ρ2 st2 => rw [eb] at q; exact q
          | rt u st2 => rw [eb] at q; exact q
          | ex x st2 => rw [eb] at q; exact q
          | bad => rw [eb] at q; exact q.elim
    · cases et : truth st' t with
      | none => rw [et] at q; exact q.elim
      | some k => exact ⟨k, rfl⟩
end
end Q
end
/-! QSt4 -/
section
set_option linter.all false
set_option maxRecDepth 100000
set_option maxHeartbeats 2000000
namespace Q
open PySem L2
theorem slotO_s {ρ : Env} {i : Nat} {t : T} (h : slotO ρ i = some t) : ρ[i]? = some (Slot.own t) := by
  unfold slotO at h
  split at h
  · rename_i e; cases h; exact e
  · cases h
section
variable {K : PySem.W.Frag} {N : Anch} {F : Hp} {as : List Addr} {ρ : Env} {st : Store} {σ : L2.St} {H : Hp}
/-- the list in an own slot -/
theorem SimB.lst {i : Nat} {xs : List T} (S : SimB N K F as ρ st σ H) (e : slotO ρ i = some (.lst xs)) : ∃ a vs, σ[i]? = some (some (.ref a)) ∧ F a = none ∧ a ∉ as ∧ H a = some (.lst vs) ∧ vs.length ≤ sizeLine ∧ Reps K F as vs xs := by
  obtain ⟨a, h1, h2, h3, vs, h4, h5, h6⟩ := S.sim.own i _ (slotO_s e)
  exact ⟨a, vs, h1, h2, h3, h4, h5, h6⟩
/-- .. is written -/
theorem SimB.wr {i : Nat} {xs ys : List T} {a : Addr} {ws : List V} (S : SimB N K F as ρ st σ H) (e : slotO ρ i = some (.lst xs)) (es : σ[i]? = some (some (.ref a))) (r : Reps K F as ws ys) (hl : ws.length ≤ sizeLine) : SimB N K F as (ρ.set i (.own (.lst ys))) st σ (L2.upd H a (.lst ws)) :=
  (S.upd (t := .lst ys) (u := .lst ws) (slotO_s e) es ⟨ws, upd_same, hl, r⟩).1
end
section
variable {Z : Ctx} {Γ : Sc} {W : WX} {X : Cx} {Wn : Nat}
theorem few1 {ex : Expr} {cpos : Pos} (hs : notStar ex = true) : ((backTo cpos (starEach [ex] X.env)).all (fun x => !x.1) && (backToKw cpos (keywordEach [] X.env)).all (fun x => x.1.isSome)
      && decide (([ex] : List Expr).length + ([] : List Keyword).length + (if ([] : List Keyword).isEmpty then 0 else 1) < 30)) = true := by
  rw [star1 hs]; rfl
/-- xs.append(e) -/
theorem ss_app {i : Nat} {e : E} {ex : Expr} {x : PySem.Str} {px apos cpos p : Pos} (hN : X.N[i]? = some x) (hv : Vis X.env.scope x) (hx : okNm x = true) (hl : (apos.endLine == cpos.line) = true) (hs : notStar ex = true) (h : Snd Z W X e ex) :
    PS X (.Expr (.Call (.Attribute (.Name x px) "append" apos) [ex] [] cpos) p) (tS X.K Z.xi W (evalS Z.call Z.hear Wn (.app i e))) := by
  obtain ⟨n1, n2⟩ := okNm_s hx
  refine PS.imp (ps_expr (pe_bm PySem.F.plainAttrs_list PySem.F.slot_list_append PySem.F.type_list_append mt_append (pe_var hN hv n1 n2) (pa_cons h.sf.se pa_nil (star1 hs)) rfl (few1 hs) hl (star1 hs) rfl) rfl) fun D σ H q => ?_
  obtain ⟨N, F, as, ρ, st, S, q⟩ := q
  have q : OutS X.K Z.xi W N D (match slotO ρ i with
    | some (.lst xs) => (evalE Z.call Z.hear e ρ st).then fun t st' => if xs.length < sizeLine then setS ρ i (.own (.lst (xs ++ [t]))) st' else .bad
    | _ => .bad) := q
  split at q
  · rename_i xs eo
    obtain ⟨a, vs, h1, h2, h3, h4, h5, h6⟩ := S.lst eo
    refine ⟨_, h1, .inl ⟨rfl, vs, SqL.of h4⟩, toE (k := fun t st' => if xs.length < sizeLine then setS ρ i (.own (.lst (xs ++ [t]))) st' else .bad) S q fun t st' F' as' H' v q n S' r => ?_⟩
    obtain ⟨a', ws, k1, k2, k3, k4, k5, k6⟩ := S'.lst eo
    rw [h1] at k1; cases k1
    have hln := k6.length
    split at q
    · rename_i hz
      refine ⟨a, ws, v, rfl, rfl, k4, by omega, ?_⟩
      have hi := (List.getElem?_eq_some_iff.mp (slotO_s eo)).1
      unfold setS at q
      rw [if_pos hi] at q
      exact q F' as' σ _ (S'.wr eo h1 (k6.append (.cons r .nil)) (by rw [List.length_append]; simp; omega))
    · exact q.elim
  · exact q.elim
/-- xs.extend(e) -/
theorem ss_ext {i : Nat} {e : E} {ex : Expr} {x : PySem.Str} {px apos cpos p : Pos} (hN : X.N[i]? = some x) (hv : Vis X.env.scope x) (hx : okNm x = true) (hl : (apos.endLine == cpos.line) = true) (hs : notStar ex = true) (h : Snd Z W X e ex) :
    PS X (.Expr (.Call (.Attribute (.Name x px) "extend" apos) [ex] [] cpos) p) (tS X.K Z.xi W (evalS Z.call Z.hear Wn (.ext i e))) := by
  obtain ⟨n1, n2⟩ := okNm_s hx
  refine PS.imp (ps_expr (pe_bm PySem.F.plainAttrs_list PySem.F.slot_list_extend PySem.F.type_list_extend mt_extend (pe_var hN hv n1 n2) (pa_cons h.sb pa_nil (star1 hs)) rfl (few1 hs) hl (star1 hs) rfl) rfl) fun D σ H q => ?_
  obtain ⟨N, F, as, ρ, st, S, q⟩ := q
  have q : OutS X.K Z.xi W N D (match slotO ρ i with
    | some (.lst xs) => (evBx Z.call Z.hear e ρ st).then fun t st' => match t with
      | .lst ys => if xs.length + ys.length ≤ sizeLine then setS ρ i (.own (.lst (xs ++ ys))) st' else .bad
      | _ => .bad
    | _ => .bad) := q
  split at q
  · rename_i xs eo
    obtain ⟨a, vs, h1, h2, h3, h4, h5, h6⟩ := S.lst eo
    refine ⟨_, h1, .inl ⟨rfl, vs, SqL.of h4⟩, toB (k := fun t st' => match t with
      | .lst ys => if xs.length + ys.length ≤ sizeLine then setS ρ i (.own (.lst (xs ++ ys))) st' else .bad
      | _ => .bad) S q fun t st' F' as' H' v q n S' r => ?_⟩
    obtain ⟨a', ws, k1, k2, k3, k4, k5, k6⟩ := S'.lst eo
    rw [h1] at k1; cases k1
    have hln := k6.length
    cases t with
    | lst ys =>
      dsimp only at q
      split at q
      · rename_i hz
        obtain ⟨b, us, rfl, g1, g2, g3⟩ := r.lst S'.sim.sub
        have gl := g3.length
        refine ⟨a, b, ws, us, rfl, rfl, k4, g1, by omega, ?_⟩
        have hi := (List.getElem?_eq_some_iff.mp (slotO_s eo)).1
        unfold setS at q
        rw [if_pos hi] at q
        exact q F' as' σ _ (S'.wr eo h1 (k6.append g3) (by rw [List.length_append]; omega))
      · exact q.elim
    | _ => exact q.elim
  · exact q.elim
/-- a pop's call, by values -/
theorem popIx_nil {xs : List T} {n : Nat} (h : popIx xs [] = some n) : n = xs.length - 1 ∧ xs ≠ [] := by
  unfold popIx at h
  cases xs with
  | nil => cases h
  | cons x xs => simp at h; exact ⟨by simp [← h], by simp⟩
theorem eraseLast {α : Type} (l : List α) : l.eraseIdx (l.length - 1) = l.dropLast := by
  rw [List.dropLast_eq_take]
  cases l with
  | nil => rfl
  | cons x l =>
    rw [List.eraseIdx_eq_take_drop_succ]
    have e : (x :: l).length - 1 + 1 = (x :: l).length := by simp
    rw [e, List.drop_length, List.append_nil]
/-- the reading of own.pop(..) -/
def tPop (K : PySem.W.Frag) (xi : XI) (W : WX) (ev : Evs) (j : Nat) : TE := fun σ H Q => ∃ N F as ρ st xs, SimB N K F as ρ st σ H ∧ slotO ρ j = some (.lst xs) ∧ (match ev ρ st with
  | .ok ks st' => ∃ n t, popIx xs ks = some n ∧ xs[n]? = some t ∧ ∀ F' as' H' a vs v, Nxt F as H F' as' H' → SimB N K F' as' ρ st' σ H' → σ[j]? = some (some (.ref a)) → H' a = some (.lst vs) → Reps K F' as' vs xs → Rep K F' as' v t → Q v (L2.upd H' a (.lst (vs.eraseIdx n)))
  | .ex x st' => ∀ F' as' H' cls d, Nxt F as H F' as' H' → Sub F' H' → Sto K F' as' st' H' → XRep K xi.cA xi.fl F' as' H' cls d x → W cls d σ H'
  | .bad => False)
theorem pe_pop0 {j : Nat} {x : PySem.Str} {px apos cpos : Pos} (hN : X.N[j]? = some x) (hv : Vis X.env.scope x) (hx : okNm x = true) (hl : (apos.endLine == cpos.line) = true) :
    PE X (.Call (.Attribute (.Name x px) "pop" apos) [] [] cpos) (tPop X.K Z.xi W (evalBs Z.call Z.hear []) j) := by
  obtain ⟨n1, n2⟩ := okNm_s hx
  refine PE.imp (pe_bm0 PySem.F.plainAttrs_list PySem.F.slot_list_pop PySem.F.type_list_pop mt_pop (pe_var hN hv n1 n2) rfl hl) fun σ H Q q => ?_
  obtain ⟨N, F, as, ρ, st, xs, S, eo, q⟩ := q
  have q : ∃ n t, popIx xs [] = some n ∧ xs[n]? = some t ∧ ∀ F' as' H' a vs v, Nxt F as H F' as' H' → SimB N X.K F' as' ρ st σ H' → σ[j]? = some (some (.ref a)) → H' a = some (.lst vs) → Reps X.K F' as' vs xs → Rep X.K F' as' v t → Q v (L2.upd H' a (.lst (vs.eraseIdx n))) := q
  obtain ⟨n, t, e1, e2, q⟩ := q
  obtain ⟨a, vs, h1, h2, h3, h4, h5, h6⟩ := S.lst eo
  obtain ⟨rfl, ne⟩ := popIx_nil e1
  obtain ⟨v, e3, r⟩ := h6.get e2
  have hln := h6.length
  refine ⟨_, h1, .inl ⟨rfl, vs, SqL.of h4⟩, a, vs, v, rfl, rfl, h4, by rw [hln]; exact e3, ?_⟩
  have z := q F as H a vs v (Nxt.refl _ _ _) S h1 h4 h6 r
  rw [← hln, eraseLast] at z
  exact z
theorem pe_pop1 {j : Nat} {e : E} {ex : Expr} {x : PySem.Str} {px apos cpos : Pos} (hN : X.N[j]? = some x) (hv : Vis X.env.scope x) (hx : okNm x = true) (hl : (apos.endLine == cpos.line) = true) (hs : notStar ex = true) (h : Snd Z W X e ex) :
    PE X (.Call (.Attribute (.Name x px) "pop" apos) [ex] [] cpos) (tPop X.K Z.xi W (evalBs Z.call Z.hear [e]) j) := by
  obtain ⟨n1, n2⟩ := okNm_s hx
  refine PE.imp (pe_bm PySem.F.plainAttrs_list PySem.F.slot_list_pop PySem.F.type_list_pop mt_popAt (pe_var hN hv n1 n2) (pa_cons h.sb pa_nil (star1 hs)) rfl (few1 hs) hl (star1 hs) rfl) fun σ H Q q => ?_
  obtain ⟨N, F, as, ρ, st, xs, S, eo, q⟩ := q
  obtain ⟨a, vs, h1, h2, h3, h4, h5, h6⟩ := S.lst eo
  refine ⟨_, h1, .inl ⟨rfl, vs, SqL.of h4⟩, F, as, ρ, st, S.sim, ?_⟩
  cases ee : evBx Z.call Z.hear e ρ st with
  | bad =>
    have eb : evalBs Z.call Z.hear [e] ρ st = .bad := by show (evBx Z.call Z.hear e ρ st).bind _ = _; rw [ee]; rfl
    rw [eb] at q; exact q.elim
  | ex x s1 =>
    have eb : evalBs Z.call Z.hear [e] ρ st = .ex x s1 := by show (evBx Z.call Z.hear e ρ st).bind _ = _; rw [ee]; rfl
    rw [eb] at q; exact q
  | ok k s1 =>
    have eb : evalBs Z.call Z.hear [e] ρ st = .ok [k] s1 := by show (evBx Z.call Z.hear e ρ st).bind _ = _; rw [ee]; rfl
    rw [eb] at q
    obtain ⟨n, t, e1, e2, q⟩ := q
    intro F' as' H' v m s So r
    have S' := S.nxt m s So
    obtain ⟨a', ws, k1, k2, k3, k4, k5, k6⟩ := S'.lst eo
    rw [h1] at k1; cases k1
    cases k with
    | int i =>
      have e1 : ixN xs.length i = some n := e1
      have ev := r.int
      subst ev
      have hln := k6.length
      rw [← hln] at e1
      obtain ⟨g1, g2, g3, g4⟩ := ixN_seq e1
      obtain ⟨w', e3, r2⟩ := k6.get e2
      have l63 := line63
      exact ⟨a, ws, i, n, w', rfl, rfl, k4, by omega, by omega, g1, e3, q F' as' H' a ws w' m S' h1 k4 k6 r2⟩
    | _ => cases e1
/-- x = own.pop(..) -/
theorem pop_q {i tg : Nat} {es : List E} {D : Ends} {σ : L2.St} {H : Hp} (h : tS X.K Z.xi W (evalS Z.call Z.hear Wn (.pop i es tg)) D σ H) : tPop X.K Z.xi W (evalBs Z.call Z.hear es) i σ H fun v H1 => D.nx (σ.set tg (some v)) H1 := by
  obtain ⟨N, F, as, ρ, st, S, q⟩ := h
  have q : OutS X.K Z.xi W N D (match slotO ρ i with
    | some (.lst xs) => (evalBs Z.call Z.hear es ρ st).then fun ks st' => match popIx xs ks with
      | some n => match xs[n]? with
        | some t => if tg < ρ.length ∧ tg ≠ i then .nx ((ρ.set i (.own (.lst (xs.eraseIdx n)))).set tg (.val t)) st' else .bad
        | none => .bad
      | none => .bad
    | _ => .bad) := q
  split at q
  · rename_i xs eo
    refine ⟨N, F, as, ρ, st, xs, S, eo, ?_⟩
    cases ee : evalBs Z.call Z.hear es ρ st with
    | bad => rw [ee] at q; exact q.elim
    | ex x s1 =>
      rw [ee] at q
      exact fun F' as' H' cls d n s So r => q F' as' H' σ cls d (S.nx.trans n) s So r
    | ok ks s1 =>
      rw [ee] at q
      dsimp only [O.then_ok] at q
      cases e1 : popIx xs ks with
      | none => rw [e1] at q; exact q.elim
      | some n =>
        rw [e1] at q
        dsimp only at q
        cases e2 : xs[n]? with
        | none => rw [e2] at q; exact q.elim
        | some t =>
          rw [e2] at q
          dsimp only at q
          refine ⟨n, t, e1, e2, fun F' as' H' a vs v m S' h1 h2 r1 r2 => ?_⟩
          split at q
          · rename_i hc
            obtain ⟨z, zl, _⟩ := S'.lst eo
            have hle : vs.length ≤ sizeLine := by
              obtain ⟨a', ws, k1, k2, k3, k4, k5, k6⟩ := S'.lst eo
              rw [h1] at k1; cases k1
              rw [h2] at k4; cases k4
              exact k5
            have S2 := S'.wr eo h1 (r1.eraseIdx n) (Nat.le_trans (len_erase vs n) hle)
            exact q F' as' _ _ (S2.set (by rw [List.length_set]; exact hc.1) r2)
          · exact q.elim
  · exact q.elim
/-- xs.append(ys.pop(..)) -/
theorem appPop_q {i j : Nat} {es : List E} {D : Ends} {σ : L2.St} {H : Hp} (h : tS X.K Z.xi W (evalS Z.call Z.hear Wn (.appPop i j es)) D σ H) : ∃ a vs, σ[i]? = some (some (.ref a)) ∧ H a = some (.lst vs) ∧
    tPop X.K Z.xi W (evalBs Z.call Z.hear es) j σ H fun v H1 => rAppend (.ref a) [v] H1 fun _ H2 => D.nx σ H2 := by
  obtain ⟨N, F, as, ρ, st, S, q⟩ := h
  have q : OutS X.K Z.xi W N D (match slotO ρ i, slotO ρ j with
    | some (.lst xs), some (.lst ys) => (evalBs Z.call Z.hear es ρ st).then fun ks st' => match popIx ys ks with
      | some n => match ys[n]? with
        | some t => if xs.length < sizeLine ∧ i ≠ j then .nx ((ρ.set j (.own (.lst (ys.eraseIdx n)))).set i (.own (.lst (xs ++ [t])))) st' else .bad
        | none => .bad
      | none => .bad
    | _, _ => .bad) := q
  split at q
  · rename_i xs ys eo1 eo2
    obtain ⟨a, vs, h1, h2, h3, h4, h5, h6⟩ := S.lst eo1
    refine ⟨a, vs, h1, h4, N, F, as, ρ, st, ys, S, eo2, ?_⟩
    cases ee : evalBs Z.call Z.hear es ρ st with
    | bad => rw [ee] at q; exact q.elim
    | ex x s1 =>
      rw [ee] at q
      exact fun F' as' H' cls d n s So r => q F' as' H' σ cls d (S.nx.trans n) s So r
    | ok ks s1 =>
      rw [ee] at q
      dsimp only [O.then_ok] at q
      cases e1 : popIx ys ks with
      | none => rw [e1] at q; exact q.elim
      | some n =>
        rw [e1] at q
        dsimp only at q
        cases e2 : ys[n]? with
        | none => rw [e2] at q; exact q.elim
        | some t =>
          rw [e2] at q
          dsimp only at q
          refine ⟨n, t, e1, e2, fun F' as' H' b us v m S' g1 g2 r1 r2 => ?_⟩
          split at q
          · rename_i hc
            have hle : us.length ≤ sizeLine := by
              obtain ⟨a', ws, k1, k2, k3, k4, k5, k6⟩ := S'.lst eo2
              rw [g1] at k1; cases k1
              rw [g2] at k4; cases k4
              exact k5
            have S2 := S'.wr eo2 g1 (r1.eraseIdx n) (Nat.le_trans (len_erase us n) hle)
            have eo3 : slotO (ρ.set j (.own (.lst (ys.eraseIdx n)))) i = some (.lst xs) := by
              unfold slotO at eo1 ⊢
              rw [List.getElem?_set_ne (Ne.symm hc.2)]
              exact eo1
            obtain ⟨a', ws, k1, k2, k3, k4, k5, k6⟩ := S2.lst eo3
            rw [h1] at k1; cases k1
            have hl := k6.length
            refine ⟨a, ws, v, rfl, rfl, k4, by omega, ?_⟩
            exact q F' as' σ _ (S2.wr eo3 h1 (k6.append (.cons r2 .nil)) (by rw [List.length_append]; simp; omega))
          · exact q.elim
  · exact q.elim
theorem ss_pop {i tg : Nat} {es : List E} {c : Expr} {y : PySem.Str} {py p : Pos} (G : XG Γ W X) (hN : Γ.N[tg]? = some y) (hy : Γ.loc y = true) (hc : isCompE c = false) (h : PE X c (tPop X.K Z.xi W (evalBs Z.call Z.hear es) i)) :
    PS X (.Assign [.Name y py] c p) (tS X.K Z.xi W (evalS Z.call Z.hear Wn (.pop i es tg))) := by
  obtain ⟨h1, h2⟩ := G.loc hy
  exact PS.imp (ps_set G.nd (by rw [G.N]; exact hN) h1 h (swaps_no hc) h2) fun D σ H q => pop_q q
theorem ss_appPop {i j : Nat} {es : List E} {c : Expr} {x : PySem.Str} {px apos cpos p : Pos} (hN : X.N[i]? = some x) (hv : Vis X.env.scope x) (hx : okNm x = true) (hl : (apos.endLine == cpos.line) = true) (hs : notStar c = true) (h : PE X c (tPop X.K Z.xi W (evalBs Z.call Z.hear es) j)) :
    PS X (.Expr (.Call (.Attribute (.Name x px) "append" apos) [c] [] cpos) p) (tS X.K Z.xi W (evalS Z.call Z.hear Wn (.appPop i j es))) := by
  obtain ⟨n1, n2⟩ := okNm_s hx
  refine PS.imp (ps_expr (pe_bm PySem.F.plainAttrs_list PySem.F.slot_list_append PySem.F.type_list_append mt_append (pe_var hN hv n1 n2) (pa_cons h pa_nil (star1 hs)) rfl (few1 hs) hl (star1 hs) rfl) rfl) fun D σ H q => ?_
  obtain ⟨a, vs, h1, h2, h3⟩ := appPop_q q
  exact ⟨_, h1, .inl ⟨rfl, vs, SqL.of h2⟩, h3⟩
end
end Q
end
/-! QSt5 -/
section
set_option linter.all false
set_option maxRecDepth 100000
set_option maxHeartbeats 2000000
namespace Q
open PySem L2
theorem PSet.or {X : Cx} {t t' : TSet} (h : PSet X t) (h' : PSet X t') : PSet X (fun o i v H Q => t o i v H Q ∨ t' o i v H Q) := fun pins s σ H o i v ov iv u Q I ro ri rv q => q.elim (h pins s σ H o i v ov iv u Q I ro ri rv) (h' pins s σ H o i v ov iv u Q I ro ri rv)
section
variable {K : PySem.W.Frag} {N : Anch} {F : Hp} {as : List Addr} {ρ : Env} {st : Store} {σ : L2.St} {H : Hp}
theorem key_b {v : V} {t : T} {k : Key} (r : RepB K F as H v t) (e : keyOf t = some k) : v = kV k := by
  rcases r with r | ⟨c, _, _, _, hc⟩
  · exact r.key e
  · cases t <;> simp only [Cont] at hc <;> simp only [keyOf] at e <;> cases e
/-- a store by place or key, in the heap -/
theorem putAt_s {a : Addr} {o o' k : T} {kt v : V} {vt : T} (c : Cont K F as H a o) (e : putAt o k vt = some o') (rk : RepB K F as H kt k) (rv : Rep K F as v vt) : ∃ u, Cont K F as (L2.upd H a u) a o' ∧ ∀ Q : Hp → Prop, Q (L2.upd H a u) → (rSetL (.ref a) kt v H Q ∨ rSetD (.ref a) kt v H Q) := by
  unfold putAt at e
  split at e
  · rename_i xs i
    obtain ⟨j, e1, e2⟩ := Option.map_eq_some_iff.mp e
    subst e2
    obtain ⟨vs, h1, h2, h3⟩ := c
    have ek := rk.int
    subst ek
    refine ⟨.lst (vs.set j v), ⟨_, upd_same, by rw [List.length_set]; exact h2, h3.set rv j⟩, fun Q q => .inl ⟨a, vs, i, j, rfl, rfl, h1, by rw [h3.length]; exact e1, q⟩⟩
  · rename_i kvs k
    obtain ⟨key, e1, e2⟩ := Option.bind_eq_some_iff.mp e
    split at e2
    · rename_i hl
      cases e2
      obtain ⟨vs, h1, h2⟩ := c
      have ek := key_b rk e1
      subst ek
      have hl2 := h2.length
      refine ⟨.dK (L2.putK vs key v), ⟨_, upd_same, h2.put rv key⟩, fun Q q => .inr ⟨a, _, rfl, .inl ⟨vs, key, h1, rfl, by omega, rfl⟩, q⟩⟩
    · cases e2
  · cases e
theorem nodup_ix' {l : List Addr} {i j : Nat} {x : Addr} (hN : l.Nodup) (a : l[i]? = some x) (b : l[j]? = some x) : i = j := by
  obtain ⟨h1, e1⟩ := List.getElem?_eq_some_iff.mp a
  obtain ⟨h2, e2⟩ := List.getElem?_eq_some_iff.mp b
  exact (List.getElem_inj hN).mp (e1.trans e2.symm)
theorem Sto.write {a : Addr} {n : Nat} {u : HO} {t : T} (S : Sto K F as st H) (h : as[n]? = some a) (c : ContS K F as (L2.upd H a u) a t) : Sto K F as (st.set n t) (L2.upd H a u) where
  len := by rw [List.length_set]; exact S.len
  nd := S.nd
  at_ := fun m b w hb e => by
    by_cases hm : n = m
    · subst hm
      rw [h] at hb; cases hb
      have hn : n < st.length := by rw [← S.len]; exact (List.getElem?_eq_some_iff.mp h).1
      rw [List.getElem?_set_self hn] at e
      cases e
      exact ⟨(S.cont h).choose_spec.2.1, c⟩
    · rw [List.getElem?_set_ne hm] at e
      obtain ⟨h1, h2⟩ := S.at_ m b w hb e
      have nb : b ≠ a := fun z => by
        subst z
        exact hm (nodup_ix' S.nd h hb)
      exact ⟨h1, h2.mono (Sub.refl _) (Pre.refl _) fun o ho => by rw [upd_ne nb]; exact ho⟩
theorem Nxt.updSto {F' H' : Hp} {as' : List Addr} {a : Addr} {u : HO} (n : Nxt F as H F' as' H') (m : a ∈ as') : Nxt F as H F' as' (L2.upd H' a u) where
  ff := n.ff
  pre := n.pre
  keep := fun b o e nt nb => by
    have q : b ≠ a := fun z => by
      subst z
      have := n.anew b m nb
      rw [e] at this; cases this
    rw [upd_ne q]; exact n.keep b o e nt nb
  alive := fun b e => by
    by_cases q : b = a
    · subst q; rw [upd_same]; exact fun z => nomatch z
    · rw [upd_ne q]; exact n.alive b e
  fnew := n.fnew
  anew := n.anew
/-- an object of the store is written -/
theorem SimB.wrSto {a : Addr} {n : Nat} {u : HO} {t : T} (S : SimB N K F as ρ st σ H) (h : as[n]? = some a) (c : ContS K F as (L2.upd H a u) a t) : SimB N K F as ρ (st.set n t) σ (L2.upd H a u) := by
  have ma := List.mem_of_getElem? h
  obtain ⟨_, _, fa, _⟩ := S.sim.sto.cont h
  refine ⟨⟨sub_updR S.sim.sub fa, S.sim.sto.write h c, S.sim.len, S.sim.val, fun i t e => ?_, S.sim.inj⟩, S.nx.updSto ma, S.new⟩
  obtain ⟨b, h1, h2, h3, h4⟩ := S.sim.own i t e
  have nb : b ≠ a := fun z => h3 (z ▸ ma)
  exact ⟨b, h1, h2, h3, h4.mono (Sub.refl _) (Pre.refl _) fun o ho => by rw [upd_ne nb]; exact ho⟩
/-- an own object is frozen -/
theorem SimB.frz {i : Nat} {t : T} (S : SimB N K F as ρ st σ H) (e : slotO ρ i = some t) : ∃ F', SimB N K F' as (ρ.set i (.val t)) st σ H := by
  have e := slotO_s e
  have hi := (List.getElem?_eq_some_iff.mp e).1
  obtain ⟨a, h1, h2, h3, h4⟩ := S.sim.own i t e
  have nw := S.new i t a e h1
  obtain ⟨o, e1, n1, s1, S1, r1⟩ := freeze (F := N.F) (as := N.as) (H := N.H) S.sim.sub S.sim.sto S.nx h2 h3 nw h4
  have sb : Sub F (L2.upd F a o) := sub_upd h2
  refine ⟨L2.upd F a o, ⟨s1, S1, by rw [List.length_set]; exact S.sim.len, fun j u q => ?_, fun j u q => ?_, fun j k t' u b q1 q2 q3 q4 => ?_⟩, n1, fun j u b q1 q2 => ?_⟩
  · by_cases hj : i = j
    · subst hj
      rw [List.getElem?_set_self hi] at q
      cases q
      exact ⟨_, h1, r1⟩
    · rw [List.getElem?_set_ne hj] at q
      obtain ⟨v, g1, g2⟩ := S.sim.val j u q
      exact ⟨v, g1, g2.mono sb (Pre.refl _)⟩
  · have hj : i ≠ j := fun z => by subst z; rw [List.getElem?_set_self hi] at q; cases q
    rw [List.getElem?_set_ne hj] at q
    obtain ⟨b, g1, g2, g3, g4⟩ := S.sim.own j u q
    have nb : b ≠ a := fun z => hj (S.sim.inj i j t u a e q h1 (by rw [g1, z]))
    exact ⟨b, g1, by rw [upd_ne nb]; exact g2, g3, g4.mono sb (Pre.refl _) fun _ z => z⟩
  · have hj : i ≠ j := fun z => by subst z; rw [List.getElem?_set_self hi] at q1; cases q1
    have hk : i ≠ k := fun z => by subst z; rw [List.getElem?_set_self hi] at q2; cases q2
    rw [List.getElem?_set_ne hj] at q1
    rw [List.getElem?_set_ne hk] at q2
    exact S.sim.inj j k t' u b q1 q2 q3 q4
  · have hj : i ≠ j := fun z => by subst z; rw [List.getElem?_set_self hi] at q1; cases q1
    rw [List.getElem?_set_ne hj] at q1
    exact S.new j u b q1 q2
end
section
variable {Z : Ctx} {Γ : Sc} {W : WX} {X : Cx} {Wn : Nat}
theorem pset (hu : X.A.units + 1 < cLine) : PSet X (fun o i v H Q => rSetL o i v H Q ∨ rSetD o i v H Q) := PSet.or set_list (set_dict hu)
theorem asg_sub {o i : Expr} {p : Pos} {env : PySem.Env} (h : notSlice i = true) : ∀ v, PySem.assign (.Subscript o i p) env v = (do
      let ov ← holding [v] (eval o env)
      let iv ← holding [v, ov] (eval i env)
      standAt p
      holding [v, ov, iv] (setItem ov iv v)
      release [v, ov, iv] []) := fun v => by cases i <;> first | rfl | cases h
theorem swapsS {v o i : Expr} {q : Pos} {l : Nat} {env : PySem.Env} : swapsWithSole [.Subscript o i q] v l env = pure false := by cases v <;> rfl
/-- own[k] = e -/
theorem ss_seti {i : Nat} {k e : E} {kx ex : Expr} {x : PySem.Str} {px tp p : Pos} (hN : X.N[i]? = some x) (hv : Vis X.env.scope x) (hx : okNm x = true) (hu : X.A.units + 1 < cLine) (hn : notSlice kx = true) (hk : Snd Z W X k kx) (he : Snd Z W X e ex) :
    PS X (.Assign [.Subscript (.Name x px) kx tp] ex p) (tS X.K Z.xi W (evalS Z.call Z.hear Wn (.seti i k e))) := by
  obtain ⟨n1, n2⟩ := okNm_s hx
  refine PS.imp (ps_asg he.sf.se (pg_sub (pe_var hN hv n1 n2) hk.sb (pset hu) (asg_sub hn)) swapsS rfl rfl) fun D σ H q => ?_
  obtain ⟨N, F, as, ρ, st, S, q⟩ := q
  have q : OutS X.K Z.xi W N D (match slotO ρ i with
    | some o => (evalE Z.call Z.hear e ρ st).then fun v st1 => (evBx Z.call Z.hear k ρ st1).then fun k st2 => match putAt o k v with
      | some o' => setS ρ i (.own o') st2
      | none => .bad
    | none => .bad) := q
  split at q
  · rename_i o eo
    have e0 := slotO_s eo
    have hi := (List.getElem?_eq_some_iff.mp e0).1
    obtain ⟨a, h1, h2, h3, h4⟩ := S.sim.own i o e0
    refine toE (k := fun v st1 => (evBx Z.call Z.hear k ρ st1).then fun k st2 => match putAt o k v with
      | some o' => setS ρ i (.own o') st2
      | none => .bad) S q fun vt st1 F1 as1 H1 v q n1 S1 r1 => ?_
    refine ⟨_, h1, toB (k := fun k st2 => match putAt o k vt with
      | some o' => setS ρ i (.own o') st2
      | none => .bad) S1 q fun kt st2 F2 as2 H2 kv q n2 S2 r2 => ?_⟩
    cases ep : putAt o kt vt with
    | none => rw [ep] at q; exact q.elim
    | some o' =>
      rw [ep] at q
      dsimp only at q
      unfold setS at q
      rw [if_pos hi] at q
      obtain ⟨a', g1, g2, g3, g4⟩ := S2.sim.own i o e0
      rw [h1] at g1; cases g1
      obtain ⟨u, c, put⟩ := putAt_s g4 ep r2 (r1.mono n2.ff n2.pre)
      exact put _ (q F2 as2 σ _ (S2.upd e0 h1 c).1)
  · exact q.elim
/-- o[k] = e, o an object of the store -/
theorem ss_setr {o k e : E} {ox kx ex : Expr} {tp p : Pos} (hu : X.A.units + 1 < cLine) (hn : notSlice kx = true) (ho : Snd Z W X o ox) (hk : Snd Z W X k kx) (he : Snd Z W X e ex) :
    PS X (.Assign [.Subscript ox kx tp] ex p) (tS X.K Z.xi W (evalS Z.call Z.hear Wn (.setr o k e))) := by
  refine PS.imp (ps_asg he.sf.se (pg_sub ho.sf.se hk.sb (pset hu) (asg_sub hn)) swapsS rfl rfl) fun D σ H q => ?_
  obtain ⟨N, F, as, ρ, st, S, q⟩ := q
  refine toE (k := fun v st1 => (evalE Z.call Z.hear o ρ st1).then fun o st2 => (evBx Z.call Z.hear k ρ st2).then fun k st3 => match o with
    | .ref n => match st3[n]? with
      | some c => match putAt c k v with
        | some c' => .nx ρ (st3.set n c')
        | none => .bad
      | none => .bad
    | _ => .bad) S q fun vt st1 F1 as1 H1 v q n1 S1 r1 => ?_
  refine toE (k := fun o st2 => (evBx Z.call Z.hear k ρ st2).then fun k st3 => match o with
    | .ref n => match st3[n]? with
      | some c => match putAt c k vt with
        | some c' => .nx ρ (st3.set n c')
        | none => .bad
      | none => .bad
    | _ => .bad) S1 q fun ot st2 F2 as2 H2 ov q n2 S2 r2 => ?_
  refine toB (k := fun k st3 => match (generalizing := false) ot with
    | .ref n => match st3[n]? with
      | some c => match putAt c k vt with
        | some c' => .nx ρ (st3.set n c')
        | none => .bad
      | none => .bad
    | _ => .bad) S2 q fun kt st3 F3 as3 H3 kv q n3 S3 r3 => ?_
  cases ot with
  | ref n =>
    cases r2 with
    | ref h =>
      rename_i a
      have h' := n3.pre.get h
      dsimp only at q
      split at q
      · rename_i c ec
        split at q
        · rename_i c' ep
          obtain ⟨fa, cc⟩ := S3.sim.sto.at_ n a c h' ec
          have m := n2.trans n3
          obtain ⟨u, cu, put⟩ := putAt_s (cc.cont fun _ q z => by subst z; cases ep) ep r3 (r1.mono m.ff m.pre)
          exact put _ (q F3 as3 σ _ (S3.wrSto h' (.inl cu)))
        · exact q.elim
      · exact q.elim
  | _ => exact q.elim
end
end Q
end
/-! QSt6 -/
section
set_option linter.all false
set_option maxRecDepth 100000
set_option maxHeartbeats 4000000
namespace Q
open PySem L2
section
variable {K : PySem.W.Frag} {N : Anch} {F : Hp} {as : List Addr} {ρ : Env} {st : Store} {σ : L2.St} {H : Hp}
theorem SimB.setX {o : Bool} {i : Nat} {v : V} {t : T} (S : SimB N K F as ρ st σ H) (hi : i < ρ.length) (r : RepX o K N F as H v t) (hm : o = true → isMut t = true) (ap : ∀ a, v = .ref a → o = true → ∀ (j : Nat) (u : T), j ≠ i → ρ[j]? = some (.own u) → σ[j]? ≠ some (some (.ref a))) :
    SimB N K F as (ρ.set i (if o then .own t else .val t)) st (σ.set i (some v)) H := by
  cases o with
  | false => exact S.set hi r
  | true =>
    have h := hm rfl
    unfold RepX at r
    rw [if_pos (by rw [h]; rfl)] at r
    obtain ⟨a, rfl, f, m, w, c⟩ := r
    exact S.setOwn hi f m c w (ap a rfl rfl)
end
section
variable {Z : Ctx} {Γ : Sc} {W : WX} {X : Cx} {Wn : Nat}
theorem parSet_cons {i : Nat} {o : Bool} {is : List (Nat × Bool)} {t : T} {ts : List T} {ρ ρ' : Env} (h : parSet ((i, o) :: is) (t :: ts) ρ = some ρ') : i < ρ.length ∧ (o = true → isMut t = true) ∧ parSet is ts (ρ.set i (if o then .own t else .val t)) = some ρ' := by
  unfold parSet at h
  split at h
  · rename_i c; exact ⟨c.1, c.2, h⟩
  · cases h
theorem evs2 {call : Nat → List T → List T → Store → O T} {hear : Nat → Store → O T → O T} {e1 e2 : E} {ρ : Env} {st : Store} {k : List T → Store → R} : (evalEs call hear [e1, e2] ρ st).then k = (evalE call hear e1 ρ st).then fun t s1 => (evalE call hear e2 ρ s1).then fun u s2 => k [t, u] s2 := by
  show (O.bind (evalE call hear e1 ρ st) fun t st' => (O.bind (evalE call hear e2 ρ st') fun u s2 => O.bind (.ok [] s2) fun ts s3 => .ok (u :: ts) s3).bind fun ts st'' => .ok (t :: ts) st'').then k = _
  cases evalE call hear e1 ρ st with
  | ex x s => rfl
  | bad => rfl
  | ok t s1 =>
    simp only [O.bind_ok, O.then_ok]
    cases evalE call hear e2 ρ s1 with
    | ex x s => rfl
    | bad => rfl
    | ok u s2 => rfl
/-- x, y = a, b -/
theorem ss_par {i j : Nat} {o1 o2 : Bool} {e1 e2 : E} {a b : Expr} {x y : PySem.Str} {px py pt p pt2 : Pos} {kt k2} (G : XG Γ W X) (hi : Γ.N[i]? = some x) (hj : Γ.N[j]? = some y) (hij : i ≠ j) (hx : Γ.kind x = some .local) (hy : Γ.kind y = some .local)
    (f1 : o1 = true → freshE e1 = true) (f2 : o2 = true → freshE e2 = true) (na : notStar a = true) (nb : notStar b = true) (hw : swappedStores [.Tuple [.Name x px, .Name y py] kt pt] (.Tuple [a, b] k2 pt2) X.env = pure (some [x, y])) (h1 : Snd Z W X e1 a) (h2 : Snd Z W X e2 b) :
    PS X (.Assign [.Tuple [.Name x px, .Name y py] kt pt] (.Tuple [a, b] k2 pt2) p) (tS X.K Z.xi W (evalS Z.call Z.hear Wn (.par [(i, o1), (j, o2)] [e1, e2]))) := by
  have lx : X.env.scope.names.lookup x = some .local := (G.kd x).trans hx
  have ly : X.env.scope.names.lookup y = some .local := (G.kd y).trans hy
  refine PS.imp (ps_par G.calm G.nd (by rw [G.N]; exact hi) (by rw [G.N]; exact hj) hij lx ly (pa_cons h1.sf (pa_cons h2.sf pa_nil (star1 nb)) (star1 na)) hw rfl) fun D σ H q => ?_
  obtain ⟨N, F, as, ρ, st, S, q⟩ := q
  have q : OutS X.K Z.xi W N D ((evalEs Z.call Z.hear [e1, e2] ρ st).then fun ts st' => match parSet [(i, o1), (j, o2)] ts ρ with
    | some ρ' => .nx ρ' st'
    | none => .bad) := q
  rw [evs2] at q
  refine toX (k := fun t s1 => (evalE Z.call Z.hear e2 ρ s1).then fun u s2 => match parSet [(i, o1), (j, o2)] [t, u] ρ with
    | some ρ' => .nx ρ' s2
    | none => .bad) o1 f1 S q fun t s1 F1 as1 H1 v q n1 S1 r1 new1 => ?_
  refine toX (k := fun u s2 => match parSet [(i, o1), (j, o2)] [t, u] ρ with
    | some ρ' => .nx ρ' s2
    | none => .bad) o2 f2 S1 q fun u s2 F2 as2 H2 w q n2 S2 r2 new2 => ?_
  refine ⟨v, w, rfl, ?_⟩
  cases ep : parSet [(i, o1), (j, o2)] [t, u] ρ with
  | none => rw [ep] at q; exact q.elim
  | some ρ' =>
    rw [ep] at q
    obtain ⟨c1, d1, ep⟩ := parSet_cons ep
    obtain ⟨c2, d2, ep⟩ := parSet_cons ep
    have ep : some ((ρ.set i (if o1 then Slot.own t else Slot.val t)).set j (if o2 then Slot.own u else Slot.val u)) = some ρ' := ep
    cases ep
    have T1 := S2.setX c1 (r1.nxt n2) d1 fun a ea ho k z _ ek eq => S.sim.noOwn (new1 a ea ho (d1 ho)) k z ek eq
    refine q F2 as2 _ H2 (T1.setX c2 r2 d2 fun a ea ho k z hk ek eq => ?_)
    by_cases hki : i = k
    · subst hki
      have hl : i < σ.length := by rw [← S.sim.len]; exact c1
      rw [List.getElem?_set_self c1] at ek
      rw [List.getElem?_set_self hl] at eq
      cases eq
      cases o1 with
      | false => cases ek
      | true =>
        cases ek
        unfold RepX at r1
        rw [if_pos (by rw [d1 rfl]; rfl)] at r1
        obtain ⟨b', eb, _, _, _, c⟩ := r1
        cases eb
        cases ea
        exact c.there (new2 _ rfl ho (d2 ho))
    · rw [List.getElem?_set_ne hki] at ek eq
      exact S1.sim.noOwn (new2 a ea ho (d2 ho)) k z ek eq
/-- a comprehension's parts -/
theorem comp_parts (FF : Facts Z) {tg : Tg} {k : ItK} {src cs : List E} {el : E} {ex : Expr} (A : At Z Γ W X) (h : chkE Z.D Γ (.comp tg k src cs el) ex = true) : ∃ elt tgx iter ifs sc p own, ex = .ListComp elt [⟨tgx, iter, ifs, 0⟩] sc p ∧
    PI X tgx iter (iQ X.K Z.xi W gC k (evalBs Z.call Z.hear src)) ∧ BlkOk X.N X.env.scope sc own ∧
    (∀ (s : Shared) (H : Hp) (C : Addr) (cl : List (PySem.Str × Addr)) (fp : List Addr), PG (X.blk s H sc (compEnvC sc cl C X.env) fp) tgx (tgG X.K tg)) ∧
    (∀ (s : Shared) (H : Hp) (C : Addr) (cl : List (PySem.Str × Addr)) (fp : List Addr), PTs (X.blk s H sc (compEnvC sc cl C X.env) fp) ifs (tTs X.K Z.xi W0 Z.call Z.hear cs)) ∧
    (∀ (s : Shared) (H : Hp) (C : Addr) (cl : List (PySem.Str × Addr)) (fp : List Addr), PE (X.blk s H sc (compEnvC sc cl C X.env) fp) elt (tE X.K Z.xi W0 (evalE Z.call Z.hear el))) ∧
    (∀ i ∈ own.map (·.2), i ∈ tg.slots) ∧ (∀ i ∈ tg.slots, i ∈ own.map (·.2)) ∧ notSet iter = true := by
  unfold chkE at h
  split at h
  · rename_i elt tgx iter ifs sc e
    obtain ⟨p, rfl⟩ := asComp_some e
    simp only [Bool.and_eq_true] at h
    obtain ⟨⟨⟨⟨⟨⟨⟨⟨h1, h2⟩, h3⟩, h4⟩, h5⟩, h6⟩, h7⟩, h8⟩, h9⟩ := h
    split at h1
    · rename_i xs ei
      rw [Bool.and_eq_true] at h1
      have ok := blkK_ok A.g h3
      have ho := of_decide_eq_true h4
      have AB := fun s H C cl fp => A.sub ok.kind s H C cl fp
      refine ⟨elt, tgx, iter, ifs, sc, p, _, rfl, pi_it A.g ei h1.1 (snd_Es FF h1.2 A).ebs, ok, fun s H C cl fp => pg_tg (AB s H C cl fp).g h5, fun s H C cl fp => ?_, fun s H C cl fp => (snd_E FF h9 (AB s H C cl fp)).sf.se, fun i hi => by rw [ho] at hi; exact hi, fun i hi => by rw [ho]; exact hi, h2⟩
      have r := snd_Es FF h8 (AB s H C cl fp)
      cases r with
      | nil => exact pts_0
      | cons a r =>
        cases r with
        | nil =>
          rw [List.all_cons, Bool.and_eq_true] at h7
          exact pts_1 (a.st h7.1)
        | cons b r =>
          have z := of_decide_eq_true h6
          simp only [List.length_cons] at z
          omega
    · cases h1
  · cases h
def swC (Γ : Sc) (x : PySem.Str) (px : Pos) : Expr → Bool
  | .ListComp _ _ s p => decide (Γ.kind x = some .local) && (px.line == p.line) && !(s.names.any fun (n, k) => n == x && (k == .local || k == .cell))
  | _ => false
theorem asg_ok (FF : Facts Z) {i : Nat} {e : E} {x : PySem.Str} {px p : Pos} {ex : Expr} (A : At Z Γ W X) (hN : Γ.N[i]? = some x) (hl : Γ.loc x = true) (h : chkE Z.D Γ e ex = true) (hc : isCompE ex = true → (match e with | .comp _ _ _ _ _ => true | _ => false) = true) : PAsg Z W X i e x px ex p := by
  have G := A.g
  cases hcc : isCompE ex with
  | false => exact asg_plain G hN hl hcc (snd_E FF h A)
  | true =>
    have hc := hc hcc
    cases e with
    | comp tg k src cs el =>
      obtain ⟨elt, tgx, iter, ifs, sc, q, own, rfl, hi, ok, hg, ht, he, h1, h2, hs⟩ := comp_parts FF A h
      obtain ⟨l1, l2⟩ := G.loc hl
      by_cases hsw : swC Γ x px (.ListComp elt [⟨tgx, iter, ifs, 0⟩] sc q) = true
      · unfold swC at hsw
        simp only [Bool.and_eq_true] at hsw
        obtain ⟨⟨s1, s2⟩, s3⟩ := hsw
        have s1 := of_decide_eq_true s1
        have lx : X.env.scope.names.lookup x = some .local := (G.kd x).trans s1
        refine PS.imp (ps_setLc G.calm G.nd (by rw [G.N]; exact hN) lx (sw_true G.fkind lx s2 (by simpa using s3)) hi ok hg ht he fun x => by cases iter <;> first | rfl | cases hs) fun D σ H q => ?_
        exact comp_in h1 h2 q
      · refine ps_set G.nd (by rw [G.N]; exact hN) l1 (snd_E FF h A).sf ?_ l2
        have hb : X.env.blockKind = .function := by unfold Env.blockKind; rw [G.fkind]; rfl
        have kx : X.env.kindOf x = Γ.kind x := G.kd x
        unfold swapsWith
        simp only [hb, kx, Expr.pos]
        unfold swC at hsw
        have e1 : (Γ.kind x == some NameKind.local) = decide (Γ.kind x = some .local) := by
          by_cases q : Γ.kind x = some .local
          · simp [q]
          · simp [q]
        rw [e1]
        have e2 : (decide (Γ.kind x = some .local) && (px.line == q.line) && !(sc.names.any fun (n, k) => n == x && (k == .local || k == .cell))) = false   := eq_false_of_ne_true hsw
        simp only [beq_self_eq_true, Bool.true_and]
        rw [e2]
    | _ => cases hc
end
end Q
end
/-! QSt7 -/
section
set_option linter.all false
set_option maxRecDepth 100000
set_option maxHeartbeats 4000000
namespace Q
open PySem L2
section
variable {Z : Ctx} {Γ : Sc} {W : WX} {X : Cx} {Wn : Nat}
theorem notSwapped {x y : PySem.Str} {px py pt p2 : Pos} {kt k2 : Nat} {a b : Expr} {env : PySem.Env} (h : env.kindOf x ≠ some .local ∨ env.kindOf y ≠ some .local) : swappedStores [.Tuple [.Name x px, .Name y py] kt pt] (.Tuple [a, b] k2 p2) env = pure none := by
  unfold swappedStores
  rcases h with h | h
  · simp
    intros
    rename_i q1 q2 q3 q4
    exfalso
    simp only [List.filterMap_cons, List.filterMap_nil, h, false_and, if_false] at q2
    split at q2 <;> simp at q2
  · simp
    intros
    rename_i q1 q2 q3 q4
    exfalso
    simp only [List.filterMap_cons, List.filterMap_nil, h, false_and, if_false] at q2
    split at q2 <;> simp at q2
/-- x, y = a, b by way of a pair -/
theorem ss_parT {i j : Nat} {o1 o2 : Bool} {e1 e2 : E} {a b : Expr} {x y : PySem.Str} {px py pt p pt2 : Pos} {kt k2} (G : XG Γ W X) (hi : Γ.N[i]? = some x) (hj : Γ.N[j]? = some y) (hij : i ≠ j) (hx : Γ.loc x = true) (hy : Γ.loc y = true)
    (f1 : o1 = true → freshE e1 = true) (f2 : o2 = true → freshE e2 = true) (na : notStar a = true) (nb : notStar b = true) (hw : swappedStores [.Tuple [.Name x px, .Name y py] kt pt] (.Tuple [a, b] k2 pt2) X.env = pure none) (h1 : Snd Z W X e1 a) (h2 : Snd Z W X e2 b) :
    PS X (.Assign [.Tuple [.Name x px, .Name y py] kt pt] (.Tuple [a, b] k2 pt2) p) (tS X.K Z.xi W (evalS Z.call Z.hear Wn (.par [(i, o1), (j, o2)] [e1, e2]))) := by
  obtain ⟨l1, m1⟩ := G.loc hx
  obtain ⟨l2, m2⟩ := G.loc hy
  refine PS.imp (ps_asg (pe_tup (pa_cons h1.sf (pa_cons h2.sf pa_nil (star1 nb)) (star1 na))) (pg_tup (n := 2) G.calm (pgs_cons (pg_name G.nd (by rw [G.N]; exact hi) l1 m1) (pgs_cons (pg_name G.nd (by rw [G.N]; exact hj) l2 m2) pgs_nil rfl) rfl) rfl rfl) rfl hw rfl) fun D σ H q => ?_
  obtain ⟨N, F, as, ρ, st, S, q⟩ := q
  have q : OutS X.K Z.xi W N D ((evalEs Z.call Z.hear [e1, e2] ρ st).then fun ts st' => match parSet [(i, o1), (j, o2)] ts ρ with
    | some ρ' => .nx ρ' st'
    | none => .bad) := q
  rw [evs2] at q
  refine toX (k := fun t s1 => (evalE Z.call Z.hear e2 ρ s1).then fun u s2 => match parSet [(i, o1), (j, o2)] [t, u] ρ with
    | some ρ' => .nx ρ' s2
    | none => .bad) o1 f1 S q fun t s1 F1 as1 H1 v q n1 S1 r1 new1 => ?_
  refine toX (k := fun u s2 => match parSet [(i, o1), (j, o2)] [t, u] ρ with
    | some ρ' => .nx ρ' s2
    | none => .bad) o2 f2 S1 q fun u s2 F2 as2 H2 w q n2 S2 r2 new2 => ?_
  refine ⟨by show 2 ≤ sizeLine; decide, fun d hd => ⟨d, [v, w], rfl, SqT.of upd_same, rfl, v, [w], rfl, w, [], rfl, rfl, ?_⟩⟩
  have nd := nxt_own (F := F2) (as := as2) (o := HO.tup [v, w]) hd
  have T0 := S2.nxt nd (sub_updR S2.sim.sub (sub_none S2.sim.sub hd)) (S2.sim.sto.newOwn hd)
  cases ep : parSet [(i, o1), (j, o2)] [t, u] ρ with
  | none => rw [ep] at q; exact q.elim
  | some ρ' =>
    rw [ep] at q
    obtain ⟨c1, d1, ep⟩ := parSet_cons ep
    obtain ⟨c2, d2, ep⟩ := parSet_cons ep
    have ep : some ((ρ.set i (if o1 then Slot.own t else Slot.val t)).set j (if o2 then Slot.own u else Slot.val u)) = some ρ' := ep
    cases ep
    have T1 := T0.setX c1 ((r1.nxt n2).nxt nd) d1 fun a ea ho k z _ ek eq => S.sim.noOwn (new1 a ea ho (d1 ho)) k z ek eq
    refine q F2 as2 _ _ (T1.setX c2 (r2.nxt nd) d2 fun a ea ho k z hk ek eq => ?_)
    by_cases hki : i = k
    · subst hki
      have hl : i < σ.length := by rw [← S.sim.len]; exact c1
      rw [List.getElem?_set_self c1] at ek
      rw [List.getElem?_set_self hl] at eq
      cases eq
      cases o1 with
      | false => cases ek
      | true =>
        cases ek
        unfold RepX at r1
        rw [if_pos (by rw [d1 rfl]; rfl)] at r1
        obtain ⟨b', eb, _, _, _, c⟩ := r1
        cases eb
        cases ea
        exact c.there (new2 _ rfl ho (d2 ho))
    · rw [List.getElem?_set_ne hki] at ek eq
      exact S1.sim.noOwn (new2 a ea ho (d2 ho)) k z ek eq
end
end Q
end
/-! QHeadT -/
section
set_option linter.all false
set_option maxRecDepth 100000
set_option maxHeartbeats 4000000
namespace Q
open PySem PySem.Spec PySem.Calls PyProof.Rows L2
section
variable {prog : Program} {w : World} {A : Around} {E : Value → Shared → Prop} {s : Shared}
/-- x, *r = a list -/
theorem star_head {l : Addr} {x : Value} {rest : List Value} {Q : List Value → Shared → Prop} (hl : s.heap.IsList l (x :: rest).toArray) (hh : A.handled = none) (hz : rest.length < sizeLine)
    (h : ∀ (h' : Heap) (tk : Nat), (∀ b o, s.heap.get? b = some o → h'.get? b = some o) → Q [x, .ref h'.objs.size] { s with heap := h'.push { cls := .type "list", data := .seq rest.toArray }, toks := tk }) : wpAny (model prog w) A (unpackItems (.ref l) 2 (some 1)) Q E s := by
  have hlt : l ≠ s.heap.objs.size := by obtain ⟨o, ho, _⟩ := hl; exact Nat.ne_of_lt (Heap.lt_size ho)
  have hll : l < s.heap.objs.size := by obtain ⟨o, ho, _⟩ := hl; exact Heap.lt_size ho
  have hsz : (x :: rest).toArray.size = rest.length + 1 := by simp
  unfold unpackItems
  refine wpAny_bind ?_
  unfold notIterableAtAll
  refine wpAny_bind (wpAny_specialOf hl.typeIs slot_list_iter.lookup ?_)
  refine wpAny_pure ?_
  simp only [Bool.false_eq_true, if_false]
  refine wpAny_bind (wpAny_holding (wpAny_pyIter_list hl ?_))
  refine wpAny_bind (wpAny_holding (PySem.W.kun_draw hlt 1 0 _ _ ⟨_, Heap.get?_push_size _ rfl, rfl, rfl⟩ (hl.push _) (by rw [hsz]; omega) fun h₁ hit₁ hs₁ => ?_))
  have hl₁ : h₁.IsList l (x :: rest).toArray := (hl.push _).extBut hs₁.extBut hlt
  rw [Nat.zero_add] at hit₁
  have hit₁' := hit₁
  obtain ⟨oi, hoi, _⟩ := hit₁'
  have hl₁' := hl₁
  obtain ⟨ol, hol, _⟩ := hl₁'
  have e1 : ((x :: rest).toArray.toList.drop 0).take 1 = [x] := by simp
  rw [e1]
  rw [if_neg (by simp)]
  refine wpAny_bind (wpAny_holding (PySem.W.kun_collect (s := { s with heap := h₁ }) (T := "list_iterator") (.inr (.inr (.inl rfl))) (Walks.list (A := A.in1) hh s.heap.objs.size l hlt (x :: rest).toArray) (fun j u st => st.1.typeIs) (k := 1) (by rw [hsz]; omega) ⟨hit₁, hl₁⟩ (Heap.lt_size hoi) (Heap.lt_size hol) (fun h₂ tk hk => ?_) (by rw [hsz]; omega)))
  have e2 : (x :: rest).toArray.toList.drop 1 = rest := by simp
  rw [e2]
  show wpAny _ _ (if rest.length < 0 then _ else _) _ _ _
  rw [if_neg (by omega)]
  show wpAny _ _ (newList (rest.take (rest.length - 0)) >>= fun d => pure ([x] ++ [d] ++ rest.drop (rest.length - 0))) _ _ _
  rw [Nat.sub_zero, List.take_length, List.drop_length]
  have kp : ∀ b o, s.heap.get? b = some o → h₂.get? b = some o := fun b o e => by
    have hb : b ≠ s.heap.objs.size := Nat.ne_of_lt (Heap.lt_size e)
    exact hk b o hb (hs₁.extBut b o hb (Heap.get?_push_of_some _ e))
  exact wpAny_bind (wpAny_newList (s := { s with heap := h₂, toks := tk }) (wpAny_pure (h h₂ tk kp)) (by omega))
end
section
variable {X : Cx} {K : PySem.W.Frag}
/-- (.., *xs) = xs -/
def gHT (K : PySem.W.Frag) (t : TG) (i : Nat) : TG := fun v σ H Q => ∃ a x vs, v = .ref a ∧ SqL K H a (x :: vs) ∧ ∀ D, H D = none → t x σ (upd H D (.lst vs)) fun σ1 H1 => Q (σ1.set i (some (.ref D))) H1
theorem pg_ht {tgx : Expr} {t : TG} {i : Nat} {x : Str} {k : Nat} {px sp pos : Pos} (hc : X.calm = true) (hn : notStar tgx = true) (hg : PG X tgx t) (hN : X.N.Nodup) (hi : X.N[i]? = some x) (hx : L2.Loc X.env.scope x) (hf : X.fn x = true ∨ X.env.scope.names.lookup x = some .local) :
    PG X (.Tuple [tgx, .Starred (.Name x px) sp] k pos) (gHT X.K t i) := by
  refine ⟨fun pins s σ H v u Q I r hw => ?_⟩
  obtain ⟨a, y, vs, rfl, hq, hw⟩ := hw
  cases r
  obtain ⟨its, rv, pl, hz⟩ := I.list hq
  cases rv with
  | cons ry rr =>
    rename_i yv its
    have hea : assignEach [tgx, .Starred (.Name x px) sp] X.env = [(false, PySem.assign tgx X.env), (true, PySem.assign (.Name x px) X.env)] := by rw [eachOne hn]; rfl
    rw [assign_Tuple]
    refine wpAny_bind (wpAny_standAt ?_)
    unfold unpack
    rw [hea]
    have hln := rr.length
    have hz2 : its.length < sizeLine := by
      simp only [List.length_cons] at hz
      omega
    refine wpAny_bind (wpAny_holding (star_head pl.isList (I.ok.hd hc) hz2 fun h' tk kp => ?_))
    have I2 : Inv X pins σ H { s with heap := h', toks := tk } := I.kept kp
    have I3 := I2.lnew (t' := tk) rr (by omega)
    have hD := I2.fresh
    show wpAny _ _ (assignInOrder [PySem.assign tgx X.env, PySem.assign (.Name x px) X.env] [yv, .ref h'.objs.size]) _ _ _
    refine assignInOrder_cons (thn (hg.run pins _ σ _ y yv _ I3 ry (hw _ hD)) fun _ s1 ⟨σ1, H1, I4, q1⟩ => ?_)
    refine assignInOrder_cons (wpAny_assign_Name (store_ok I4 hN hi hx (v := .ref h'.objs.size) rfl (fun s2 I5 => ?_) hf))
    exact assignInOrder_nil ⟨_, H1, I5, q1⟩
end
section
variable {Z : Ctx} {Γ : Sc} {W : WX} {X : Cx} {Wn : Nat}
theorem ss_headTail {tg : Tg} {i : Nat} {tgx : Expr} {x : Str} {px p2 sp pos p : Pos} {k : Nat} (G : XG Γ W X) (hN : Γ.N[i]? = some x) (hl : Γ.loc x = true) (hv : Γ.vis x = true) (hx : okNm x = true) (hc : chkTg Γ tg tgx = true) (hn : notStar tgx = true) (hs : i ∉ tg.slots) :
    PS X (.Assign [.Tuple [tgx, .Starred (.Name x px) sp] k pos] (.Name x p2) p) (tS X.K Z.xi W (evalS Z.call Z.hear Wn (.headTail tg i))) := by
  obtain ⟨l1, m1⟩ := G.loc hl
  obtain ⟨n1, n2⟩ := okNm_s hx
  have hN' : X.N[i]? = some x := by rw [G.N]; exact hN
  refine PS.imp (ps_asg (pe_var hN' (G.vis hv) n1 n2) (pg_ht G.calm hn (pg_tg G hc) G.nd hN' l1 m1) rfl rfl rfl) fun D σ H q => ?_
  obtain ⟨N, F, as, ρ, st, S, q⟩ := q
  have q : OutS X.K Z.xi W N D (match slotO ρ i with
    | some (.lst (x :: xs)) => match assign tg x ρ with
      | some ρ' => setS ρ' i (.own (.lst xs)) st
      | none => .bad
    | _ => .bad) := q
  split at q
  · rename_i y ys eo
    obtain ⟨a, vs, h1, h2, h3, h4, h5, h6⟩ := S.lst eo
    cases h6 with
    | cons ry rys =>
      rename_i v vs
      refine ⟨_, h1, a, v, vs, rfl, SqL.of h4, fun d hd => ?_⟩
      have nd := nxt_own (F := F) (as := as) (o := HO.lst vs) hd
      have fd := sub_none S.sim.sub hd
      have md : d ∉ as := fun m => (S.sim.sto.there m).1 hd
      have T0 := S.nxt nd (sub_updR S.sim.sub fd) (S.sim.sto.newOwn hd)
      cases ea : assign tg y ρ with
      | none => rw [ea] at q; exact q.elim
      | some ρ' =>
        rw [ea] at q
        dsimp only at q
        unfold setS at q
        split at q
        · rename_i hi
          have z : SimU (fun _ => False) X.K F as ρ st σ (upd H d (.lst vs)) := T0.sim.u rfl fun _ _ => rfl
          refine assign_s z ry ea fun σ' S' hl' hk => ?_
          have T1 : SimB N X.K F as ρ' st σ' (upd H d (.lst vs)) := ⟨S'.sim fun _ q => q.1, T0.nx, fun j u b e1 e2 => by
            obtain ⟨g1, g2⟩ := assign_own ea j u e1
            rw [hk j g2] at e2
            exact T0.new j u b g1 e2⟩
          refine q F as _ _ (T1.setOwn hi fd md ⟨vs, upd_same, by simp only [List.length_cons] at h5; omega, rys⟩ (new_of S.nx hd) fun j u hj e1 e2 => ?_)
          obtain ⟨g1, g2⟩ := assign_own ea j u e1
          rw [hk j g2] at e2
          exact S.sim.noOwn hd j u g1 e2
        · exact q.elim
  · exact q.elim
end
end Q
end
/-! QChkS -/
section
set_option linter.all false
set_option maxRecDepth 100000
set_option maxHeartbeats 4000000
namespace Q
open PySem L2
def asAsg : Stmt → Option (Expr × Expr × Pos)
  | .Assign [t] e p => some (t, e, p)
  | _ => none
theorem asAsg_some {s : Stmt} {t e : Expr} {p : Pos} (h : asAsg s = some (t, e, p)) : s = .Assign [t] e p := by
  unfold asAsg at h
  split at h
  · cases h; rfl
  · cases h
def asNmP : Expr → Option (PySem.Str × Pos)
  | .Name x p => some (x, p)
  | _ => none
theorem asNmP_some {e : Expr} {x : PySem.Str} {p : Pos} (h : asNmP e = some (x, p)) : e = .Name x p := by
  unfold asNmP at h
  split at h
  · cases h; rfl
  · cases h
def asExpS : Stmt → Option Expr
  | .Expr e _ => some e
  | _ => none
theorem asExpS_some {s : Stmt} {e : Expr} (h : asExpS s = some e) : ∃ p, s = .Expr e p := by
  unfold asExpS at h
  split at h
  · cases h; exact ⟨_, rfl⟩
  · cases h
def asRet : Stmt → Option (Option Expr)
  | .Return e _ => some e
  | _ => none
theorem asRet_some {s : Stmt} {e : Option Expr} (h : asRet s = some e) : ∃ p, s = .Return e p := by
  unfold asRet at h
  split at h
  · cases h; exact ⟨_, rfl⟩
  · cases h
def asIfS : Stmt → Option (Expr × List Stmt × List Stmt)
  | .If c a b _ => some (c, a, b)
  | _ => none
theorem asIfS_some {s : Stmt} {c : Expr} {a b : List Stmt} (h : asIfS s = some (c, a, b)) : ∃ p, s = .If c a b p := by
  unfold asIfS at h
  split at h
  · cases h; exact ⟨_, rfl⟩
  · cases h
def asFor : Stmt → Option (Expr × Expr × List Stmt)
  | .For t i b [] _ => some (t, i, b)
  | _ => none
theorem asFor_some {s : Stmt} {t i : Expr} {b : List Stmt} (h : asFor s = some (t, i, b)) : ∃ p, s = .For t i b [] p := by
  unfold asFor at h
  split at h
  · cases h; exact ⟨_, rfl⟩
  · cases h
def asWhl : Stmt → Option (Expr × List Stmt)
  | .While t b [] _ => some (t, b)
  | _ => none
theorem asWhl_some {s : Stmt} {t : Expr} {b : List Stmt} (h : asWhl s = some (t, b)) : ∃ p, s = .While t b [] p := by
  unfold asWhl at h
  split at h
  · cases h; exact ⟨_, rfl⟩
  · cases h
def isPas : Stmt → Bool
  | .Pass _ => true
  | _ => false
def isBrk : Stmt → Bool
  | .Break _ => true
  | _ => false
def isCnt : Stmt → Bool
  | .Continue _ => true
  | _ => false
/-- x.m(..), x a name -/
def asMeth (m : PySem.Str) : Expr → Option (PySem.Str × List Expr × Bool)
  | .Call (.Attribute (.Name x _) n ap) es [] cp => if n = m then some (x, es, ap.endLine == cp.line) else none
  | _ => none
theorem asMeth_some {m x : PySem.Str} {e : Expr} {es : List Expr} {b : Bool} (h : asMeth m e = some (x, es, b)) : ∃ px ap cp, e = .Call (.Attribute (.Name x px) m ap) es [] cp ∧ (ap.endLine == cp.line) = b := by
  unfold asMeth at h
  split at h
  · split at h
    · rename_i hn
      cases h
      subst hn
      exact ⟨_, _, _, rfl, rfl⟩
    · cases h
  · cases h
def asSubN : Expr → Option (PySem.Str × Expr)
  | .Subscript (.Name x _) k _ => some (x, k)
  | _ => none
theorem asSubN_some {e k : Expr} {x : PySem.Str} (h : asSubN e = some (x, k)) : ∃ p q, e = .Subscript (.Name x p) k q := by
  unfold asSubN at h
  split at h
  · cases h; exact ⟨_, _, rfl⟩
  · cases h
/-- two names, two values -/
def asPar2 : Expr → Expr → Option (PySem.Str × PySem.Str × Expr × Expr × Bool)
  | .Tuple [.Name x px, .Name y py] _ _, .Tuple [a, b] _ _ => some (x, y, a, b, px.line == py.line)
  | _, _ => none
theorem asPar2_some {t e a b : Expr} {x y : PySem.Str} {c : Bool} (h : asPar2 t e = some (x, y, a, b, c)) : ∃ px py kt pt k2 p2, t = .Tuple [.Name x px, .Name y py] kt pt ∧ e = .Tuple [a, b] k2 p2 ∧ (px.line == py.line) = c := by
  unfold asPar2 at h
  split at h
  · cases h; exact ⟨_, _, _, _, _, _, rfl, rfl, rfl⟩
  · cases h
/-- (.., *xs) = xs -/
def asHT : Stmt → Option (Expr × PySem.Str × PySem.Str)
  | .Assign [.Tuple [t, .Starred (.Name x _) _] _ _] (.Name y _) _ => some (t, x, y)
  | _ => none
theorem asHT_some {s : Stmt} {t : Expr} {x y : PySem.Str} (h : asHT s = some (t, x, y)) : ∃ px sp k pos p2 p, s = .Assign [.Tuple [t, .Starred (.Name x px) sp] k pos] (.Name y p2) p := by
  unfold asHT at h
  split at h
  · cases h; exact ⟨_, _, _, _, _, _, rfl⟩
  · cases h
theorem swapped_of {x y : PySem.Str} {px py pt p2 : Pos} {kt k2 } {a b : Expr} {env : PySem.Env} (hk : env.scope.kind = .function) (hx : env.kindOf x = some .local) (hy : env.kindOf y = some .local) (hl : (px.line == py.line) = true) (hn : x ≠ y) (na : notStar a = true) (nb : notStar b = true)
    (hf : (foldedForSure 8 a && foldedForSure 8 b) = false) (hc : (constantsAlone 8 a && constantsAlone 8 b) = false) : swappedStores [.Tuple [.Name x px, .Name y py] kt pt] (.Tuple [a, b] k2 p2) env = pure (some [x, y]) := by
  have hb : env.blockKind = .function := by unfold Env.blockKind; rw [hk]; rfl
  have hl := eq_of_beq hl
  have hsa : ∀ e : Expr, notStar e = true → ∀ (f : Expr → Pos → Bool), (match e with | .Starred v p => f v p | _ => false) = false := fun e h f => by cases e <;> first | rfl | cases h
  unfold swappedStores
  simp only [hb]
  have hst : ([a, b].any fun x => match x with | .Starred .. => true | _ => false) = false := by
    simp only [List.any_cons, List.any_nil, Bool.or_false, Bool.or_eq_false_iff]
    exact ⟨hsa a na fun _ _ => true, hsa b nb fun _ _ => true⟩
  have hd : [x, y].eraseDups = [x, y] := by
    have q : (y == x) = false := by simpa using Ne.symm hn
    simp [List.eraseDups, List.eraseDupsBy, List.eraseDupsBy.loop, q]
  simp [Expr.pos, hx, hy, hl, hf, hc]
  rw [if_neg, hd]
  · rfl
  · rintro (h | h)
    · exact absurd ((hsa a na fun _ _ => true).symm.trans h) (by decide)
    · exact absurd ((hsa b nb fun _ _ => true).symm.trans h) (by decide)

def isComp : E → Bool
  | .comp _ _ _ _ _ => true
  | _ => false
/-- a slot's name -/
def nmAt (Γ : Sc) (i : Nat) (x : PySem.Str) : Bool := decide (Γ.N[i]? = some x)
structure WdS where
  d : Wd
  rsyn : Sc → PySem.Str → Stmt → Option (List Expr)
mutual
def chkS (D : WdS) (Γ : Sc) : S → Stmt → Bool
  | .ass i e, s => match asAsg s with
    | some (t, ex, _) => match asNmP t with
      | some (x, _) => nmAt Γ i x && Γ.loc x && chkE D.d Γ e ex && (!isCompE ex || isComp e)
      | none => false
    | none => false
  | .own i e, s => match asAsg s with
    | some (t, ex, _) => match asNmP t with
      | some (x, _) => nmAt Γ i x && Γ.loc x && chkE D.d Γ e ex && (!isCompE ex || isComp e)
      | none => false
    | none => false
  | .tas tg e, s => match asAsg s with
    | some (t, ex, _) => !isCompE ex && !isTupE ex && notStar t && chkE D.d Γ e ex && chkTg Γ tg t
    | none => false
  | .par is es, s => match is, es with
    | [(i, o1), (j, o2)], [e1, e2] => match asAsg s with
      | some (t, ex, _) => match asPar2 t ex with
        | some (x, y, a, b, l) => nmAt Γ i x && nmAt Γ j y && decide (i ≠ j) && notStar a && notStar b && (!o1 || freshE e1) && (!o2 || freshE e2) && chkE D.d Γ e1 a && chkE D.d Γ e2 b &&
            ((decide (Γ.kind x = some .local) && decide (Γ.kind y = some .local) && l && decide (x ≠ y) && !(foldedForSure 8 a && foldedForSure 8 b) && !(constantsAlone 8 a && constantsAlone 8 b)) ||
              (Γ.loc x && Γ.loc y && (decide (Γ.kind x ≠ some .local) || decide (Γ.kind y ≠ some .local))))
        | none => false
      | none => false
    | _, _ => false
  | .exp e, s => match asExpS s with
    | some ex => !isCompE ex && chkE D.d Γ e ex
    | none => false
  | .ret e, s => match asRet s with
    | some (some ex) => chkE D.d Γ e ex
    | _ => false
  | .retB e, s => match asRet s with
    | some (some ex) => chkE D.d Γ e ex
    | _ => false
  | .retN, s => match asRet s with
    | some none => true
    | _ => false
  | .pas, s => isPas s
  | .brk, s => isBrk s
  | .cnt, s => isCnt s
  | .iff c a b, s => match asIfS s with
    | some (x, xs, ys) => chkE D.d Γ c x && testOk x && chkSs D Γ a xs && chkSs D Γ b ys
    | none => false
  | .for tg k src body, s => match asFor s with
    | some (tgx, iter, xs) => (match itSyn Γ k tgx iter with
        | some ys => ys.all notStar && chkEs D.d Γ src ys
        | none => false) && notSet iter && chkTg Γ tg tgx && chkSs D Γ body xs
    | none => false
  | .whl c body, s => match asWhl s with
    | some (x, xs) => chkE D.d Γ c x && testOk x && chkSs D Γ body xs
    | none => false
  | .app i e, s => match asExpS s with
    | some c => match asMeth "append" c with
      | some (x, [ex], l) => nmAt Γ i x && Γ.vis x && okNm x && l && notStar ex && chkE D.d Γ e ex
      | _ => false
    | none => false
  | .ext i e, s => match asExpS s with
    | some c => match asMeth "extend" c with
      | some (x, [ex], l) => nmAt Γ i x && Γ.vis x && okNm x && l && notStar ex && chkE D.d Γ e ex
      | _ => false
    | none => false
  | .pop i es tg, s => match asAsg s with
    | some (t, c, _) => match asNmP t with
      | some (y, _) => match asMeth "pop" c with
        | some (x, xs, l) => nmAt Γ i x && Γ.vis x && okNm x && l && xs.all notStar && decide (xs.length ≤ 1) && chkEs D.d Γ es xs && nmAt Γ tg y && Γ.loc y
        | none => false
      | none => false
    | none => false
  | .appPop i j es, s => match asExpS s with
    | some c => match asMeth "append" c with
      | some (x, [q], l) => match asMeth "pop" q with
        | some (y, xs, l2) => nmAt Γ i x && Γ.vis x && okNm x && l && nmAt Γ j y && Γ.vis y && okNm y && l2 && xs.all notStar && decide (xs.length ≤ 1) && chkEs D.d Γ es xs
        | none => false
      | _ => false
    | none => false
  | .seti i k e, s => match asAsg s with
    | some (t, ex, _) => match asSubN t with
      | some (x, kx) => nmAt Γ i x && Γ.vis x && okNm x && notSlice kx && chkE D.d Γ k kx && chkE D.d Γ e ex
      | none => false
    | none => false
  | .setr o k e, s => match asAsg s with
    | some (t, ex, _) => match asSub t with
      | some (ox, kx) => notSlice kx && chkE D.d Γ o ox && chkE D.d Γ k kx && chkE D.d Γ e ex
      | none => false
    | none => false
  | .headTail tg i, s => match asHT s with
    | some (t, x, y) => decide (x = y) && nmAt Γ i x && Γ.loc x && Γ.vis x && okNm x && chkTg Γ tg t && notStar t && decide (i ∉ tg.slots)
    | none => false
  | .rse c es, s => match D.rsyn Γ c s with
    | some xs => chkEs D.d Γ es xs
    | none => false
  | .frz _, _ => false
def chkSs (D : WdS) (Γ : Sc) : List S → List Stmt → Bool
  | [], [] => true
  | .frz _ :: ss, xs => chkSs D Γ ss xs
  | s :: ss, x :: xs => chkS D Γ s x && chkSs D Γ ss xs
  | _, _ => false
end
end Q
end
/-! QSoundS -/
section
set_option linter.all false
set_option maxRecDepth 100000
set_option maxHeartbeats 4000000
namespace Q
open PySem L2
/-- a statement's reading in the program Z -/
abbrev SS (Z : Ctx) (Wn : Nat) (W : WX) (X : Cx) (s : S) (st : Stmt) : Prop := PS X st (tS X.K Z.xi W (evalS Z.call Z.hear Wn s))
abbrev SSs (Z : Ctx) (Wn : Nat) (W : WX) (X : Cx) (s : List S) (st : List Stmt) : Prop := PSs X st (tS X.K Z.xi W (evalSs Z.call Z.hear Wn s))
structure FactsS (Z : Ctx) (Wn : Nat) (D : WdS) : Prop where
  d : D.d = Z.D
  f : Facts Z
  rse : ∀ (Γ : Sc) (W : WX) (X : Cx) (c : PySem.Str) (s : Stmt) (xs : List Expr) (es : List E), At Z Γ W X → D.rsyn Γ c s = some xs → SndL Z W X xs es → SS Z Wn W X (.rse c es) s
theorem pi_itF {Z : Ctx} {Γ : Sc} {W : WX} {X : Cx} {k : ItK} {tgx iter : Expr} {xs : List Expr} {es : List E} (G : XG Γ W X) (e : itSyn Γ k tgx iter = some xs) (hs : xs.all notStar = true) (h : PEEs X Z.xi W Z.call Z.hear xs es) : PI X tgx iter (iQ X.K Z.xi W gF k (evalEs Z.call Z.hear es)) := by
  have one : ∀ {x : Expr} {es : List E}, PEEs X Z.xi W Z.call Z.hear [x] es → ∃ e, es = [e] ∧ PE X x (tE X.K Z.xi W (evalE Z.call Z.hear e)) := fun h => by
    cases h with
    | cons p r => cases r; exact ⟨_, rfl, p⟩
  have two : ∀ {x y : Expr} {es : List E}, PEEs X Z.xi W Z.call Z.hear [x, y] es → ∃ e f, es = [e, f] ∧ PE X x (tE X.K Z.xi W (evalE Z.call Z.hear e)) ∧ PE X y (tE X.K Z.xi W (evalE Z.call Z.hear f)) := fun h => by
    cases h with
    | cons p r =>
      obtain ⟨f, rfl, q⟩ := one r
      exact ⟨_, f, rfl, p, q⟩
  unfold itSyn at e
  split at e
  · split at e
    · cases e
      obtain ⟨f, rfl, h1⟩ := one h
      exact pi_seq modeF h1
    · cases e
  · obtain ⟨l, hl⟩ := Option.filter_eq_some_iff.mp e
    obtain ⟨p, p', rfl, hg, hst⟩ := bcall_some l
    obtain ⟨x, rfl⟩ := len1 hl
    obtain ⟨f, rfl, h1⟩ := one h
    rw [List.all_cons, Bool.and_eq_true] at hs
    exact pi_rng1 modeF G hg hs.1 h1
  · obtain ⟨l, hl⟩ := Option.filter_eq_some_iff.mp e
    obtain ⟨p, p', rfl, hg, hst⟩ := bcall_some l
    obtain ⟨x, y, rfl⟩ := len2 hl
    obtain ⟨f, g, rfl, h1, h2⟩ := two h
    rw [List.all_cons, List.all_cons, Bool.and_eq_true, Bool.and_eq_true] at hs
    exact pi_rng2 modeF G hg hs.1 hs.2.1 h1 h2
  · split at e
    · rename_i ht
      obtain ⟨l, hl⟩ := Option.filter_eq_some_iff.mp e
      obtain ⟨p, p', rfl, hg, hst⟩ := bcall_some l
      obtain ⟨x, rfl⟩ := len1 hl
      obtain ⟨f, rfl, h1⟩ := one h
      rw [List.all_cons, Bool.and_eq_true] at hs
      cases tgx <;> first | exact pi_en modeF G hg hs.1 h1 | cases ht
    · cases e
  · split at e
    · rename_i ht
      obtain ⟨l, hl⟩ := Option.filter_eq_some_iff.mp e
      obtain ⟨p, p', rfl, hg, hst⟩ := bcall_some l
      obtain ⟨x, y, rfl⟩ := len2 hl
      obtain ⟨f, g, rfl, h1, h2⟩ := two h
      rw [List.all_cons, List.all_cons, Bool.and_eq_true, Bool.and_eq_true] at hs
      cases tgx <;> first | exact pi_zip' modeF G hg hs.1 hs.2.1 h1 h2 | cases ht
    · cases e
theorem pe_popA {Z : Ctx} {W : WX} {X : Cx} {j : Nat} {es : List E} {xs : List Expr} {x : PySem.Str} {px apos cpos : Pos} (hN : X.N[j]? = some x) (hv : Vis X.env.scope x) (hx : okNm x = true) (hl : (apos.endLine == cpos.line) = true) (hs : xs.all notStar = true) (hn : xs.length ≤ 1) (h : SndL Z W X xs es) :
    PE X (.Call (.Attribute (.Name x px) "pop" apos) xs [] cpos) (tPop X.K Z.xi W (evalBs Z.call Z.hear es) j) := by
  cases h with
  | nil => exact pe_pop0 hN hv hx hl
  | cons a r =>
    cases r with
    | nil =>
      rw [List.all_cons, Bool.and_eq_true] at hs
      exact pe_pop1 hN hv hx hl hs.1 a
    | cons b r => simp only [List.length_cons] at hn; omega
theorem tup_none {t ex : Expr} {env : PySem.Env} (h : isTupE ex = false) : swappedStores [t] ex env = pure none := by
  cases ex <;> first | (cases h; done) | (unfold swappedStores; cases t <;> rfl)
variable {Z : Ctx} {Wn : Nat} {D : WdS}
mutual
theorem snd_S (FF : FactsS Z Wn D) {Γ : Sc} (hb : Γ.blk = false) : ∀ {s : S} {st : Stmt}, chkS D Γ s st = true → ∀ {W : WX} {X : Cx}, At Z Γ W X → SS Z Wn W X s st
  | .ass i e, st, h, W, X, A => by
    unfold chkS at h
    split at h
    · rename_i t ex p e1
      have e1 := asAsg_some e1
      subst e1
      split at h
      · rename_i x px e2
        have e2 := asNmP_some e2
        subst e2
        simp only [Bool.and_eq_true] at h
        obtain ⟨⟨⟨h1, h2⟩, h3⟩, h4⟩ := h
        rw [FF.d] at h3
        exact ss_ass (asg_ok FF.f A (of_decide_eq_true h1) h2 h3 fun q => by
          rw [q] at h4
          cases e <;> first | rfl | cases h4)
      · cases h
    · cases h
  | .own i e, st, h, W, X, A => by
    unfold chkS at h
    split at h
    · rename_i t ex p e1
      have e1 := asAsg_some e1
      subst e1
      split at h
      · rename_i x px e2
        have e2 := asNmP_some e2
        subst e2
        simp only [Bool.and_eq_true] at h
        obtain ⟨⟨⟨h1, h2⟩, h3⟩, h4⟩ := h
        rw [FF.d] at h3
        exact ss_own (asg_ok FF.f A (of_decide_eq_true h1) h2 h3 fun q => by
          rw [q] at h4
          cases e <;> first | rfl | cases h4)
      · cases h
    · cases h
  | .tas tg e, st, h, W, X, A => by
    unfold chkS at h
    split at h
    · rename_i t ex p e1
      have e1 := asAsg_some e1
      subst e1
      simp only [Bool.and_eq_true] at h
      obtain ⟨⟨⟨⟨h1, h2⟩, h3⟩, h4⟩, h5⟩ := h
      rw [FF.d] at h4
      exact ss_tas (swaps_no (by simpa using h1)) (tup_none (by simpa using h2)) h3 (snd_E FF.f h4 A) (pg_tg A.g h5)
    · cases h
  | .par is es, st, h, W, X, A => by
    unfold chkS at h
    split at h
    · rename_i i o1 j o2 e1 e2
      split at h
      · rename_i t ex p q
        have q := asAsg_some q
        subst q
        split at h
        · rename_i x y a b l q
          obtain ⟨px, py, kt, pt, k2, p2, rfl, rfl, ql⟩ := asPar2_some q
          simp only [Bool.and_eq_true] at h
          obtain ⟨⟨⟨⟨⟨⟨⟨⟨⟨h1, h2⟩, h3⟩, h8⟩, h9⟩, h12⟩, h13⟩, h14⟩, h15⟩, hc⟩ := h
          rw [FF.d] at h14 h15
          have g1 : o1 = true → freshE e1 = true := fun q => by rw [q] at h12; simpa using h12
          have g2 : o2 = true → freshE e2 = true := fun q => by rw [q] at h13; simpa using h13
          rw [Bool.or_eq_true] at hc
          rcases hc with hc | hc
          · simp only [Bool.and_eq_true] at hc
            obtain ⟨⟨⟨⟨⟨h4, h5⟩, h6⟩, h7⟩, h10⟩, h11⟩ := hc
            have kx := of_decide_eq_true h4
            have ky := of_decide_eq_true h5
            exact ss_par A.g (of_decide_eq_true h1) (of_decide_eq_true h2) (of_decide_eq_true h3) kx ky g1 g2 h8 h9
              (swapped_of A.g.fkind ((A.g.kd x).trans kx) ((A.g.kd y).trans ky) (by rw [ql]; exact h6) (of_decide_eq_true h7) h8 h9 ((Bool.not_eq_true' _).mp h10) ((Bool.not_eq_true' _).mp h11)) (snd_E FF.f h14 A) (snd_E FF.f h15 A)
          · simp only [Bool.and_eq_true, Bool.or_eq_true, decide_eq_true_eq] at hc
            obtain ⟨⟨k1, k2'⟩, kk⟩ := hc
            have hn : X.env.kindOf x ≠ some .local ∨ X.env.kindOf y ≠ some .local := by
              rcases kk with q | q
              · exact .inl fun z => q ((A.g.kd x).symm.trans z)
              · exact .inr fun z => q ((A.g.kd y).symm.trans z)
            exact ss_parT A.g (of_decide_eq_true h1) (of_decide_eq_true h2) (of_decide_eq_true h3) k1 k2' g1 g2 h8 h9 (notSwapped hn) (snd_E FF.f h14 A) (snd_E FF.f h15 A)
        · cases h
      · cases h
    · cases h
  | .exp e, st, h, W, X, A => by
    unfold chkS at h
    split at h
    · rename_i ex q
      obtain ⟨p, rfl⟩ := asExpS_some q
      rw [Bool.and_eq_true] at h
      have h2 := h.2
      rw [FF.d] at h2
      exact ss_exp (by simpa using h.1) (snd_E FF.f h2 A)
    · cases h
  | .ret e, st, h, W, X, A => by
    unfold chkS at h
    split at h
    · rename_i ex q
      obtain ⟨p, rfl⟩ := asRet_some q
      rw [FF.d] at h
      exact ss_ret (snd_E FF.f h A)
    · cases h
  | .retB e, st, h, W, X, A => by
    unfold chkS at h
    split at h
    · rename_i ex q
      obtain ⟨p, rfl⟩ := asRet_some q
      rw [FF.d] at h
      exact ss_retB (snd_E FF.f h A)
    · cases h
  | .retN, st, h, W, X, A => by
    unfold chkS at h
    split at h
    · rename_i q
      obtain ⟨p, rfl⟩ := asRet_some q
      exact ss_retN
    · cases h
  | .pas, st, h, W, X, A => by
    unfold chkS at h
    unfold isPas at h
    split at h
    · exact ss_pas
    · cases h
  | .brk, st, h, W, X, A => by
    unfold chkS at h
    unfold isBrk at h
    split at h
    · exact ss_brk
    · cases h
  | .cnt, st, h, W, X, A => by
    unfold chkS at h
    unfold isCnt at h
    split at h
    · exact ss_cnt
    · cases h
  | .iff c a b, st, h, W, X, A => by
    unfold chkS at h
    split at h
    · rename_i x xs ys q
      obtain ⟨p, rfl⟩ := asIfS_some q
      simp only [Bool.and_eq_true] at h
      obtain ⟨⟨⟨h1, h2⟩, h3⟩, h4⟩ := h
      rw [FF.d] at h1
      exact ss_iff ((snd_E FF.f h1 A).stB h2) (snd_Ss FF hb h3 A) (snd_Ss FF hb h4 A)
    · cases h
  | .for tg k src body, st, h, W, X, A => by
    unfold chkS at h
    split at h
    · rename_i tgx iter xs q
      obtain ⟨p, rfl⟩ := asFor_some q
      simp only [Bool.and_eq_true] at h
      obtain ⟨⟨⟨h1, h2⟩, h3⟩, h4⟩ := h
      split at h1
      · rename_i ys ei
        rw [Bool.and_eq_true] at h1
        have h12 := h1.2
        rw [FF.d] at h12
        exact ss_for (A.po hb) A.g.calm (pi_itF A.g ei h1.1 (snd_Es FF.f h12 A).ees) (pg_tg A.g h3) (snd_Ss FF hb h4 A) h2
      · cases h1
    · cases h
  | .whl c body, st, h, W, X, A => by
    unfold chkS at h
    split at h
    · rename_i x xs q
      obtain ⟨p, rfl⟩ := asWhl_some q
      simp only [Bool.and_eq_true] at h
      obtain ⟨⟨h1, h2⟩, h3⟩ := h
      rw [FF.d] at h1
      exact ss_whl (A.po hb) ((snd_E FF.f h1 A).stB h2) (snd_Ss FF hb h3 A)
    · cases h
  | .app i e, st, h, W, X, A => by
    unfold chkS at h
    split at h
    · rename_i c q
      obtain ⟨p, rfl⟩ := asExpS_some q
      split at h
      · rename_i x ex l q
        obtain ⟨px, ap, cp, rfl, ql⟩ := asMeth_some q
        simp only [Bool.and_eq_true] at h
        obtain ⟨⟨⟨⟨⟨h1, h2⟩, h3⟩, h4⟩, h5⟩, h6⟩ := h
        rw [FF.d] at h6
        exact ss_app (by rw [A.g.N]; exact of_decide_eq_true h1) (A.g.vis h2) h3 (by rw [ql]; exact h4) h5 (snd_E FF.f h6 A)
      · cases h
    · cases h
  | .ext i e, st, h, W, X, A => by
    unfold chkS at h
    split at h
    · rename_i c q
      obtain ⟨p, rfl⟩ := asExpS_some q
      split at h
      · rename_i x ex l q
        obtain ⟨px, ap, cp, rfl, ql⟩ := asMeth_some q
        simp only [Bool.and_eq_true] at h
        obtain ⟨⟨⟨⟨⟨h1, h2⟩, h3⟩, h4⟩, h5⟩, h6⟩ := h
        rw [FF.d] at h6
        exact ss_ext (by rw [A.g.N]; exact of_decide_eq_true h1) (A.g.vis h2) h3 (by rw [ql]; exact h4) h5 (snd_E FF.f h6 A)
      · cases h
    · cases h
  | .pop i es tg, st, h, W, X, A => by
    unfold chkS at h
    split at h
    · rename_i t c p q
      have q := asAsg_some q
      subst q
      split at h
      · rename_i y py q
        have q := asNmP_some q
        subst q
        split at h
        · rename_i x xs l q
          obtain ⟨px, ap, cp, rfl, ql⟩ := asMeth_some q
          simp only [Bool.and_eq_true] at h
          obtain ⟨⟨⟨⟨⟨⟨⟨⟨h1, h2⟩, h3⟩, h4⟩, h5⟩, h6⟩, h7⟩, h8⟩, h9⟩ := h
          rw [FF.d] at h7
          exact ss_pop A.g (of_decide_eq_true h8) h9 rfl (pe_popA (by rw [A.g.N]; exact of_decide_eq_true h1) (A.g.vis h2) h3 (by rw [ql]; exact h4) h5 (of_decide_eq_true h6) (snd_Es FF.f h7 A))
        · cases h
      · cases h
    · cases h
  | .appPop i j es, st, h, W, X, A => by
    unfold chkS at h
    split at h
    · rename_i c q
      obtain ⟨p, rfl⟩ := asExpS_some q
      split at h
      · rename_i x d l q
        obtain ⟨px, ap, cp, rfl, ql⟩ := asMeth_some q
        split at h
        · rename_i y xs l2 q
          obtain ⟨py, ap2, cp2, rfl, ql2⟩ := asMeth_some q
          simp only [Bool.and_eq_true] at h
          obtain ⟨⟨⟨⟨⟨⟨⟨⟨⟨⟨h1, h2⟩, h3⟩, h4⟩, h5⟩, h6⟩, h7⟩, h8⟩, h9⟩, h10⟩, h11⟩ := h
          rw [FF.d] at h11
          exact ss_appPop (by rw [A.g.N]; exact of_decide_eq_true h1) (A.g.vis h2) h3 (by rw [ql]; exact h4) rfl (pe_popA (by rw [A.g.N]; exact of_decide_eq_true h5) (A.g.vis h6) h7 (by rw [ql2]; exact h8) h9 (of_decide_eq_true h10) (snd_Es FF.f h11 A))
        · cases h
      · cases h
    · cases h
  | .seti i k e, st, h, W, X, A => by
    unfold chkS at h
    split at h
    · rename_i t ex p q
      have q := asAsg_some q
      subst q
      split at h
      · rename_i x kx q
        obtain ⟨px, tp, rfl⟩ := asSubN_some q
        simp only [Bool.and_eq_true] at h
        obtain ⟨⟨⟨⟨⟨h1, h2⟩, h3⟩, h4⟩, h5⟩, h6⟩ := h
        rw [FF.d] at h5 h6
        exact ss_seti (by rw [A.g.N]; exact of_decide_eq_true h1) (A.g.vis h2) h3 (by have := A.g.units; omega) h4 (snd_E FF.f h5 A) (snd_E FF.f h6 A)
      · cases h
    · cases h
  | .setr o k e, st, h, W, X, A => by
    unfold chkS at h
    split at h
    · rename_i t ex p q
      have q := asAsg_some q
      subst q
      split at h
      · rename_i ox kx q
        obtain ⟨tp, rfl⟩ := asSub_some q
        simp only [Bool.and_eq_true] at h
        obtain ⟨⟨⟨h1, h2⟩, h3⟩, h4⟩ := h
        rw [FF.d] at h2 h3 h4
        exact ss_setr (by have := A.g.units; omega) h1 (snd_E FF.f h2 A) (snd_E FF.f h3 A) (snd_E FF.f h4 A)
      · cases h
    · cases h
  | .headTail tg i, st, h, W, X, A => by
    unfold chkS at h
    split at h
    · rename_i t x y q
      obtain ⟨px, sp, k, pos, p2, p, rfl⟩ := asHT_some q
      simp only [Bool.and_eq_true] at h
      obtain ⟨⟨⟨⟨⟨⟨⟨h1, h2⟩, h3⟩, h4⟩, h5⟩, h6⟩, h7⟩, h8⟩ := h
      have e := of_decide_eq_true h1
      subst e
      exact ss_headTail A.g (of_decide_eq_true h2) h3 h4 h5 h6 h7 (of_decide_eq_true h8)
    · cases h
  | .rse c es, st, h, W, X, A => by
    unfold chkS at h
    split at h
    · rename_i xs q
      rw [FF.d] at h
      exact FF.rse Γ W X c st xs es A q (snd_Es FF.f h A)
    · cases h
  | .frz i, st, h, W, X, A => by unfold chkS at h; cases h
theorem snd_Ss (FF : FactsS Z Wn D) {Γ : Sc} (hb : Γ.blk = false) : ∀ {ss : List S} {sts : List Stmt}, chkSs D Γ ss sts = true → ∀ {W : WX} {X : Cx}, At Z Γ W X → SSs Z Wn W X ss sts
  | [], [], h, W, X, A => ss_nil
  | s :: ss, sts, h, W, X, A => by
    cases s with
    | frz i =>
      unfold chkSs at h
      refine ss_ghost (a := evalS Z.call Z.hear Wn (.frz i)) (b := evalSs Z.call Z.hear Wn ss) (snd_Ss FF hb h A) fun N F as ρ st σ H D S q => ?_
      have q : OutS X.K Z.xi W N D (match slotO ρ i with
        | some t => setS ρ i (.val t) st
        | none => .bad) := q
      cases eo : slotO ρ i with
      | none => rw [eo] at q; exact q.elim
      | some t =>
        have hi := (List.getElem?_eq_some_iff.mp (slotO_s eo)).1
        obtain ⟨F', S'⟩ := S.frz eo
        refine ⟨ρ.set i (.val t), st, F', as, ?_, S'⟩
        show (match slotO ρ i with
        | some t => setS ρ i (.val t) st
        | none => .bad) = _
        rw [eo]
        show setS ρ i (.val t) st = _
        unfold setS
        rw [if_pos hi]
    | _ =>
      cases sts with
      | nil => unfold chkSs at h; cases h
      | cons x xs =>
        unfold chkSs at h
        rw [Bool.and_eq_true] at h
        exact ss_cons (snd_S FF hb h.1 A) (snd_Ss FF hb h.2 A)
  | [], _ :: _, h, W, X, A => by unfold chkSs at h; cases h
end
end Q
end
/-! QFn -/
section
set_option linter.all false
set_option maxRecDepth 100000
set_option maxHeartbeats 4000000
namespace Q
open PySem PySem.Spec PyProof.Rows L2
/-- what a call does, of the def's own meaning -/
def viaOne (ck : CK) (fn : Fn) (body : Env → Store → R) (ts zs : List T) (st : Store) : O T :=
  if (ts.length = ck.np ∨ (ck.open_ = true ∧ ck.np ≤ ts.length ∧ ts.length ≤ sizeLine)) ∧ zs.length = ck.ks.length then match arrange ts zs ck.arr with
    | some us => if us.length = fn.ps then finish (body (us.map Slot.val ++ List.replicate (fn.ns - fn.ps) Slot.no) st) else .bad
    | none => .bad
  else .bad
/-- how a kind of call binds -/
def Bk (Z : Ctx) (ck : CK) (fd : FuncData) (ps : List PySem.Str) : Prop := ∀ (A : Around) (outer : List PySem.Env) (s : Shared) (H : Hp) (E : XK) (us ws : List Value) (vs zs : List V) (F : Hp) (as : List Addr) (ts uts : List T) (st : Store) (xs : List T),
  Env0 Z.P Z.w Z.K Z.mg Z.base A outer s H → Vals vs us → Vals zs ws → Sub F H → Sto Z.K F as st H → Reps Z.K F as vs ts → Reps Z.K F as zs uts →
  (ts.length = ck.np ∨ (ck.open_ = true ∧ ck.np ≤ ts.length ∧ ts.length ≤ sizeLine)) → uts.length = ck.ks.length → arrange ts uts ck.arr = some xs →
  StX.Bnd (L2.CX Z.P Z.w) Z.P Z.w Z.K Z.mg Z.base fd ⟨us, ck.ks.zip ws⟩ ps A outer s H E fun vs' H2 => ∃ F2, Nxt F as H F2 as H2 ∧ Sub F2 H2 ∧ Sto Z.K F2 as st H2 ∧ Reps Z.K F2 as vs' xs
/-- no keyword, no default, no star -/
theorem bk_plain {Z : Ctx} {ck : CK} {fd : FuncData} {ps : List PySem.Str} (ho : ck.open_ = false) (hk : ck.ks = []) (hn : ck.np = ps.length) (hb : ∀ us : List Value, us.length = ps.length → bindArgs fd ⟨us, []⟩ = pure (ps.zip us)) (ha : ∀ ts xs, ts.length = ps.length → arrange ts [] ck.arr = some xs → xs = ts) : Bk Z ck fd ps := by
  intro A outer s H E us ws vs zs F as ts uts st xs e0 r rz sF So rt ru hl hz e A' Ex Q h
  have hl : ts.length = ps.length := by
    rcases hl with q | ⟨q, _⟩
    · omega
    · rw [ho] at q; cases q
  rw [hk] at hz
  obtain rfl : uts = [] := List.eq_nil_of_length_eq_zero hz
  cases ru
  cases rz
  have hu : us.length = ps.length := by rw [← r.length, rt.length, hl]
  rw [hk]
  have e2 := ha ts xs hl e
  subst e2
  refine wpAny_of_eq (hb us hu) (h s H vs us e0 Un.refl rfl (fun _ _ z => z) r (by rw [rt.length, hl]) ⟨F, Nxt.refl _ _ _, sF, So, rt⟩)
theorem start_sim {K : PySem.W.Frag} {F : Hp} {as : List Addr} {st : Store} {H : Hp} {N : List PySem.Str} {vs : List V} {xs : List T} (sF : Sub F H) (So : Sto K F as st H) (r : Reps K F as vs xs) (hl : vs.length ≤ N.length) :
    SimB ⟨F, as, H⟩ K F as (xs.map Slot.val ++ List.replicate (N.length - xs.length) Slot.no) st (L2.start N vs) H where
  sim := {
    sub := sF
    sto := So
    len := by
      have := r.length
      unfold L2.start
      rw [List.length_append, List.length_append, List.length_map, List.length_map, List.length_replicate, List.length_replicate]
      omega
    val := fun i t e => by
      have rl := r.length
      have hi : i < xs.length := by
        by_cases q : i < xs.length
        · exact q
        · rw [List.getElem?_append_right (by simpa using q), List.getElem?_replicate] at e
          split at e <;> cases e
      rw [List.getElem?_append_left (by simpa using hi), List.getElem?_map] at e
      cases ex : xs[i]? with
      | none => rw [ex] at e; cases e
      | some t' =>
        rw [ex] at e
        cases e
        obtain ⟨v, h1, h2⟩ := r.get ex
        refine ⟨v, ?_, h2⟩
        unfold L2.start
        rw [List.getElem?_append_left (by rw [List.length_map]; omega), List.getElem?_map, h1]
        rfl
    own := fun i t e => by
      exfalso
      by_cases q : i < xs.length
      · rw [List.getElem?_append_left (by simpa using q), List.getElem?_map] at e
        cases ex : xs[i]? with
        | none => rw [ex] at e; cases e
        | some t' => rw [ex] at e; cases e
      · rw [List.getElem?_append_right (by simpa using q), List.getElem?_replicate] at e
        split at e <;> cases e
    inj := fun i j t u a e _ _ _ => by
      exfalso
      by_cases q : i < xs.length
      · rw [List.getElem?_append_left (by simpa using q), List.getElem?_map] at e
        cases ex : xs[i]? with
        | none => rw [ex] at e; cases e
        | some t' => rw [ex] at e; cases e
      · rw [List.getElem?_append_right (by simpa using q), List.getElem?_replicate] at e
        split at e <;> cases e }
  nx := Nxt.refl _ _ _
  new := fun i t a e _ => by
    exfalso
    by_cases q : i < xs.length
    · rw [List.getElem?_append_left (by simpa using q), List.getElem?_map] at e
      cases ex : xs[i]? with
      | none => rw [ex] at e; cases e
      | some t' => rw [ex] at e; cases e
    · rw [List.getElem?_append_right (by simpa using q), List.getElem?_replicate] at e
      split at e <;> cases e
/-- the scope of a def, for the check -/
def scOf (N : List PySem.Str) (scope : Scope) : Sc := ⟨N, fun x => scope.names.lookup x, false, true, false⟩
theorem at_fn {Z : Ctx} {N ps : List PySem.Str} {qual : PySem.Str} {scope : Scope} {f : Addr} {cd : Value} {A : Around} {outer : List PySem.Env} {s : Shared} {H : Hp} {E : XK} (hfree : ∀ x ∈ blts, Z.mg x = none) (S : FnScope N ps scope) (hr : Room (Z.kc + 4) (A.deeper (envOfC qual scope s.heap.objs.size f cd))) :
    At Z (scOf N scope) (fun cls d _ H => E cls d H) (cxOf (L2.CX Z.P Z.w) Z.P Z.w Z.K Z.mg Z.base N qual scope f cd A outer s H E) where
  g := {
    calm := rfl
    takes := takes_of rfl rfl rfl rfl
    nd := S.nd
    N := rfl
    kd := fun x => rfl
    units := by have := hr.un; show (A.deeper _).units + 70 < _; omega
    free := hfree
    fnc := fun _ _ => rfl
    fkind := S.kind }
  P := rfl
  w := rfl
  K := rfl
  mg := rfl
  base := rfl
  room := hr
  po := fun _ => passes_of rfl
  lam := fun h => by cases h
/-- THE RULE: a def of the program, by the check of its body -/
theorem fnc_of {Z : Ctx} {Wn : Nat} {D : WdS} (FF : FactsS Z Wn D) (hfree : ∀ x ∈ blts, Z.mg x = none) {x qual : PySem.Str} {params : Arguments} {body : List Stmt} {scope : Scope} {dvs : List V} {kws : List (PySem.Str × V)} {f : Addr} {fd : FuncData}
    (Fd : FunD Z.K x qual params body scope dvs kws f fd) {N ps : List PySem.Str} (S : FnScope N ps scope) {fn : Fn} (h1 : fn.ps = ps.length) (h2 : fn.ns = N.length) (hc : chkSs D (scOf N scope) fn.body body = true) {ck : CK} (bk : Bk Z ck fd ps) :
    FnC Z.P Z.w Z.K Z.mg Z.base (Z.kc + 5) f ck.ks (spK Z.K Z.xi (viaOne ck fn (evalSs Z.call Z.hear Wn fn.body))) := by
  intro A outer s H us ws vs zs Q E hr e0 r rz h
  obtain ⟨F, as, ts, uts, st, sF, So, rt, ru, ho⟩ := h
  obtain ⟨oc, od, dV, kV, doc, pm, an, cdv, ct, osl, rfl, lk, hcd, _, _⟩ := Fd.ex
  unfold viaOne at ho
  split at ho
  · rename_i hl
    split at ho
    · rename_i xs ea
      split at ho
      · rename_i hp
        refine StX.run_bnd lk hcd S hr e0 (bk A outer s H E us ws vs zs F as ts uts st xs e0 r rz sF So rt ru hl.1 hl.2 ea) fun s2 H2 vs' ⟨F2, n2, s2', So2, r2⟩ hr2 => ?_
        have A2 := at_fn (outer := outer) (s := s2) (H := H2) (E := E) hfree S hr2
        refine ⟨_, snd_Ss FF rfl hc A2, ⟨F2, as, H2⟩, F2, as, _, st, start_sim s2' So2 r2 ?_, ?_⟩
        · have := r2.length
          have hp2 : ps.length ≤ N.length := by have := congrArg List.length S.pre; rw [List.length_take] at this; omega
          omega
        · have el : fn.ns - fn.ps = N.length - xs.length := by rw [h2, hp]
          rw [el] at ho
          show OutS Z.K Z.xi (fun cls d _ H => E cls d H) ⟨F2, as, H2⟩ _ (evalSs Z.call Z.hear Wn fn.body (xs.map Slot.val ++ List.replicate (N.length - xs.length) Slot.no) st)
          cases eb : evalSs Z.call Z.hear Wn fn.body (xs.map Slot.val ++ List.replicate (N.length - xs.length) Slot.no) st with
          | nx ρ st' =>
            rw [eb] at ho
            exact fun F' as' σ' H' S' => ho F' as' H' _ (n2.trans S'.nx) S'.sim.sub S'.sim.sto .non
          | rt t st' =>
            rw [eb] at ho
            exact fun F' as' H' v n s So r => ho F' as' H' v (n2.trans n) s So r
          | ex x st' =>
            rw [eb] at ho
            exact fun F' as' H' σ cls d n s So r => ho F' as' H' cls d (n2.trans n) s So r
          | bk ρ st' => rw [eb] at ho; exact ho.elim
          | ct ρ st' => rw [eb] at ho; exact ho.elim
          | bad => rw [eb] at ho; exact ho.elim
      · exact ho.elim
    · exact ho.elim
  · exact ho.elim
end Q
end
/-! QPrg -/
section
set_option linter.all false
set_option maxRecDepth 100000
set_option maxHeartbeats 4000000
namespace Q
open PySem PySem.Spec PyProof.Rows L2
/-- a program for all levels -/
structure PCtx where
  P : Program
  w : World
  K : PySem.W.Frag
  mg : PySem.Str → Option Value
  base : Heap
  xi : XI
  D : WdS
  p : Prg
  tP : Addr
  tq : PySem.Str
def PCtx.at (Y : PCtx) (n : Nat) : Ctx := ⟨Y.P, Y.w, Y.K, Y.mg, Y.base, Y.xi, Y.D.d, 5 * n, Y.p.viaK (Y.p.callN n), Y.p.hear, Y.tP, Y.tq⟩
/-- a def with its kind of call -/
structure DefOk (Y : PCtx) (nm : PySem.Str) (ck : CK) : Prop where
  ex : ∃ (x qual : PySem.Str) (params : Arguments) (body : List Stmt) (scope : Scope) (dvs : List V) (kws : List (PySem.Str × V)) (f : Addr) (fd : FuncData) (N ps : List PySem.Str) (fn : Fn), Y.mg nm = some (.ref f) ∧ FunD Y.K x qual params body scope dvs kws f fd ∧ FnScope N ps scope ∧
    Y.p.fns[ck.fn]? = some fn ∧ fn.ps = ps.length ∧ fn.ns = N.length ∧ chkSs Y.D (scOf N scope) fn.body body = true ∧ ∀ n, Bk (Y.at n) ck fd ps
def hearOk (Z : Ctx) : Prop := ∀ (g : Nat) (ex : Expr) (Γ Γ' : Sc) (body : Expr) (e : E) (W : WX) (X : Cx), At Z Γ W X → Z.D.hsyn Γ g ex = some (Γ', body) → (∀ W' X', At Z Γ' W' X' → SEZ Z W' X' e body) → plainTest ex = true ∧ SEZ Z W X (.heard g e) ex
def raiseOk (Z : Ctx) (Wn : Nat) (D : WdS) : Prop := ∀ (Γ : Sc) (W : WX) (X : Cx) (c : PySem.Str) (s : Stmt) (xs : List Expr) (es : List E), At Z Γ W X → D.rsyn Γ c s = some xs → SndL Z W X xs es → SS Z Wn W X (.rse c es) s
structure PrgOk (Y : PCtx) : Prop where
  free : ∀ x ∈ blts, Y.mg x = none
  con : ∀ x t, Y.D.d.cons.lookup x = some t → ∃ v u, Y.mg x = some u ∧ RelV v u ∧ ∀ F as, Rep Y.K F as v t
  cks : Y.p.cks = Y.D.d.cks.map (·.2)
  defs : ∀ (c : Nat) (nm : PySem.Str) (ck : CK), Y.D.d.cks[c]? = some (nm, ck) → DefOk Y nm ck
  hea : ∀ n, hearOk (Y.at n)
  rse : ∀ n, raiseOk (Y.at n) Y.p.W Y.D
theorem via_bad {p : Prg} {c : Nat} {ts zs : List T} {st : Store} : p.viaK (p.callN 0) c ts zs st = .bad := by
  unfold Prg.viaK
  split
  · split
    · split <;> rfl
    · rfl
  · rfl
theorem via_one {p : Prg} {n c : Nat} {ck : CK} {fn : Fn} (h1 : p.cks[c]? = some ck) (h2 : p.fns[ck.fn]? = some fn) : p.viaK (p.callN (n + 1)) c = viaOne ck fn (evalSs (p.viaK (p.callN n)) p.hear p.W fn.body) := by
  funext ts zs st
  show (match p.cks[c]? with
    | some ck => if (ts.length = ck.np ∨ (ck.open_ = true ∧ ck.np ≤ ts.length ∧ ts.length ≤ sizeLine)) ∧ zs.length = ck.ks.length then match arrange ts zs ck.arr with
      | some us => p.callN (n + 1) ck.fn us st
      | none => .bad
      else .bad
    | none => .bad) = _
  rw [h1]
  unfold viaOne
  dsimp only
  by_cases hc : (ts.length = ck.np ∨ (ck.open_ = true ∧ ck.np ≤ ts.length ∧ ts.length ≤ sizeLine)) ∧ zs.length = ck.ks.length
  · rw [if_pos hc, if_pos hc]
    cases arrange ts zs ck.arr with
    | none => rfl
    | some us =>
      show (match p.fns[ck.fn]? with
        | some fn => if us.length = fn.ps then finish (evalSs (p.viaK (p.callN n)) p.hear p.W fn.body (us.map Slot.val ++ List.replicate (fn.ns - fn.ps) Slot.no) st) else .bad
        | none => .bad) = _
      rw [h2]
  · rw [if_neg hc, if_neg hc]
theorem facts_n {Y : PCtx} (O : PrgOk Y) : ∀ n, FactsS (Y.at n) Y.p.W Y.D
  | 0 => ⟨rfl, ⟨O.con, fun c n ck e => by
      obtain ⟨x, qual, params, body, scope, dvs, kws, f, fd, N, ps, fn, h1, h2, _⟩ := (O.defs c n ck e).ex
      refine ⟨f, h1, h2.kp, fun A outer s H us ws vs zs Q E hr e0 r rz h => ?_⟩
      obtain ⟨F, as, ts, uts, st, _, _, _, _, ho⟩ := h
      have ho : Out Y.K Y.xi F as H [] _ (Y.p.viaK (Y.p.callN 0) c ts uts st) _ := ho
      rw [via_bad] at ho
      exact ho.elim, O.hea 0⟩, O.rse 0⟩
  | n + 1 => ⟨rfl, ⟨O.con, fun c nm ck e => by
      obtain ⟨x, qual, params, body, scope, dvs, kws, f, fd, N, ps, fn, h1, h2, h3, h4, h5, h6, h7, h8⟩ := (O.defs c nm ck e).ex
      have z := fnc_of (facts_n O n) O.free h2 h3 h5 h6 h7 (h8 n)
      have e0 : Y.D.d.cks[c]? = some (nm, ck) := e
      have e1 : Y.p.cks[c]? = some ck := by rw [O.cks, List.getElem?_map, e0]; rfl
      have e2 : (Y.at (n + 1)).call c = viaOne ck fn (evalSs (Y.at n).call (Y.at n).hear Y.p.W fn.body) := via_one e1 h4
      refine ⟨f, h1, h2.kp, ?_⟩
      rw [e2]
      exact z, O.hea (n + 1)⟩, O.rse (n + 1)⟩
/-! the law -/
theorem at_law {Z : Ctx} {N ps : List PySem.Str} {qual : PySem.Str} {scope : Scope} {f : Addr} {cd : Value} {A : Around} {outer : List PySem.Env} {s : Shared} {H : Hp} {E : XK} (hfree : ∀ x ∈ blts, Z.mg x = none) (S : FnScope N ps scope) (hr : Room (Z.kc + 4) (A.deeper (envOfC qual scope s.heap.objs.size f cd))) :
    At Z (scOf N scope) W0 (cxOf L2.CX0 Z.P Z.w Z.K Z.mg Z.base N qual scope f cd A outer s H E) where
  g := {
    calm := rfl
    takes := fun u s' h => by
      obtain ⟨a, B, sI, pins, σ, H, cls, d, _, _, _, _, _, _, _, _, w⟩ := h
      exact w.elim
    nd := S.nd
    N := rfl
    kd := fun x => rfl
    units := by have := hr.un; show (A.deeper _).units + 70 < _; omega
    free := hfree
    fnc := fun _ _ => rfl
    fkind := S.kind }
  P := rfl
  w := rfl
  K := rfl
  mg := rfl
  base := rfl
  room := hr
  po := fun _ => passes_of (K := fun _ _ => _) rfl
  lam := fun h => by cases h
/-- what the law's def promises: True at every script -/
def spLaw (K : PySem.W.Frag) : Sp := fun vs H Q _ => ∃ (a : Addr) (ns : List Int), vs = [.ref a] ∧ SqL K H a (ns.map V.int) ∧ (ns.map V.int).length ≤ sizeLine ∧ ns.length ≤ 63 ∧ ∀ H', Q (.bl true) H'
theorem law_ok {Y : PCtx} (O : PrgOk Y) {n : Nat} {x qual : PySem.Str} {params : Arguments} {body : List Stmt} {scope : Scope} {dvs : List V} {kws : List (PySem.Str × V)} {f : Addr} {fd : FuncData} {N : List PySem.Str} {fn : Fn}
    (Fd : FunD Y.K x qual params body scope dvs kws f fd) (S : FnScope N ["script"] scope) (h2 : fn.ns = N.length) (h1 : fn.ps = 1) (hc : chkSs Y.D (scOf N scope) fn.body body = true)
    (hlaw : ∀ ns : List Int, ns.length ≤ 63 → ∃ st, finish (evalSs (Y.p.viaK (Y.p.callN n)) Y.p.hear Y.p.W fn.body (Slot.val (.scr (ns.map T.int)) :: List.replicate (fn.ns - 1) Slot.no) []) = .ok (.bl true) st) :
    FnOk Y.P Y.w Y.K Y.mg Y.base L2.CX0 (5 * n + 5) f fd ["script"] (spLaw Y.K) := by
  refine Fd.ok S (fun vs H Q E h => by obtain ⟨a, ns, rfl, _⟩ := h; rfl) fun cdv A outer s H vs Q E hr h => ?_
  obtain ⟨a, ns, rfl, hS, hz, hn, hQ⟩ := h
  have A2 := at_law (Z := Y.at n) (outer := outer) (s := s) (H := H) (E := E) O.free S hr
  refine ⟨_, snd_Ss (facts_n O n) rfl hc A2, ⟨fun b => if b = a then H a else none, [], H⟩, fun b => if b = a then H a else none, [], _, [], start_sim (xs := [.scr (ns.map T.int)]) ?_ ⟨rfl, List.nodup_nil, fun i b t e _ => by simp at e⟩ (.cons (.scr ?_ hz (Reps.ofInts ns)) .nil) ?_, ?_⟩
  · intro b o e
    dsimp only at e
    by_cases q : b = a
    · rw [if_pos q] at e; rw [q]; exact e
    · rw [if_neg q] at e; cases e
  · rcases hS with h | h
    · refine .inl ?_
      unfold Rd at h ⊢
      simpa using h
    · exact .inr h
  · have := S.pre
    have hp2 := congrArg List.length this
    rw [List.length_take] at hp2
    simp at hp2 ⊢
    omega
  · obtain ⟨st, e⟩ := hlaw ns hn
    rw [h2] at e
    have e : finish (evalSs (Y.at n).call (Y.at n).hear Y.p.W fn.body ([T.scr (ns.map T.int)].map Slot.val ++ List.replicate (N.length - [T.scr (ns.map T.int)].length) Slot.no) []) = .ok (.bl true) st := e
    show OutS Y.K Y.xi W0 ⟨fun b => if b = a then H a else none, [], H⟩ _ (evalSs (Y.at n).call (Y.at n).hear Y.p.W fn.body ([T.scr (ns.map T.int)].map Slot.val ++ List.replicate (N.length - [T.scr (ns.map T.int)].length) Slot.no) [])
    cases eb : evalSs (Y.at n).call (Y.at n).hear Y.p.W fn.body ([T.scr (ns.map T.int)].map Slot.val ++ List.replicate (N.length - [T.scr (ns.map T.int)].length) Slot.no) [] with
    | rt t st' =>
      rw [eb] at e
      injection e with e1 e2
      subst e1
      intro F' as' H' v _ _ _ r
      cases r
      exact hQ H'
    | nx ρ st' => rw [eb] at e; injection e with e1 _; cases e1
    | ex x st' => rw [eb] at e; cases e
    | bk ρ st' => rw [eb] at e; cases e
    | ct ρ st' => rw [eb] at e; cases e
    | bad => rw [eb] at e; cases e
end Q
end
/-! QTry -/
section
set_option linter.all false
set_option maxRecDepth 100000
set_option maxHeartbeats 4000000
namespace Q
open PySem PySem.Spec PyProof.Rows L2
/-! ### try with several clauses, each "except C as n" or "except (C, D, ..) as n" -/
/-- what stands behind except: a class by its name, or two to four of them -/
inductive Tst (X : Cx) : Expr → List Value → Prop
  | one {x : PySem.Str} {c : Value} {p : Pos} : Names X x c → Tst X (.Name x p) [c]
  | two {x y : PySem.Str} {c d : Value} {p q pos : Pos} {k : Nat} : Names X x c → Names X y d → Tst X (.Tuple [.Name x p, .Name y q] k pos) [c, d]
  | three {x y z : PySem.Str} {c d e : Value} {p q r pos : Pos} {k : Nat} : Names X x c → Names X y d → Names X z e → Tst X (.Tuple [.Name x p, .Name y q, .Name z r] k pos) [c, d, e]
  | four {x y z u : PySem.Str} {c d e f : Value} {p q r t pos : Pos} {k : Nat} : Names X x c → Names X y d → Names X z e → Names X u f → Tst X (.Tuple [.Name x p, .Name y q, .Name z r, .Name u t] k pos) [c, d, e, f]
theorem ld_names {X : Cx} {E : Value → Shared → Prop} {pins : List (Addr × Obj)} {σ : L2.St} {H : Hp} {s : Shared} {x : PySem.Str} {c : Value} {p : Pos} {Q : Value → Shared → Prop} (I : Inv X pins σ H s) (n : Names X x c) (q : Q c s) : wpAny (model X.prog X.w) X.A (eval (.Name x p) X.env) Q E s := by
  obtain ⟨hg, hd, hm | ⟨hm, hv, hn⟩⟩ := n
  · exact ld_glob I hg hm q hd
  · exact ld_blt I hg hm hv q hn hd
theorem exm_or {K : PySem.W.Frag} {cls c : Value} {b : Bool} (h : PySem.W.exmAny K cls [c] = some b) : PySem.W.exmOne K cls c = some b := by
  obtain ⟨b1, d1, h1, h2, h3⟩ := PySem.W.exmAny_cons h
  have h2 : some false = some d1 := h2
  cases h2
  rw [h3, Bool.or_false]; exact h1
/-- the test of a clause -/
theorem tst_ok {X : Cx} {E : Value → Shared → Prop} {pins : List (Addr × Obj)} {σ : L2.St} {H : Hp} {s : Shared} {tx : Expr} {cs : List Value} {a : Addr} {cls : Value} {b : Bool} {Q : Bool → Shared → Prop} (t : Tst X tx cs) (I : Inv X pins σ H s)
    (lt : PySem.W.Looks (model X.prog X.w) s.heap (typeOf (.ref a)) cls) (hb : PySem.W.exmAny X.K cls cs = some b) (q : ∀ h', (∀ c o, s.heap.get? c = some o → h'.get? c = some o) → Q b { s with heap := h' }) :
    wpAny (model X.prog X.w) X.A (eval tx X.env) (fun c s1 => wpAny (model X.prog X.w) X.A (excMatches (.ref a) c) Q E s1) E s := by
  have kp : ∀ (l : List Value) (c : Addr) (o : Obj), s.heap.get? c = some o → (s.heap.push { cls := .type "tuple", data := .seq l.toArray }).get? c = some o := fun l _ _ z => Heap.get?_push_of_some _ z
  have at_ : ∀ l : List Value, (s.heap.push { cls := .type "tuple", data := .seq l.toArray }).get? s.heap.objs.size = some { cls := .type "tuple", data := .seq l.toArray } := fun l => Heap.get?_push_size s.heap rfl
  cases t with
  | one n => exact ld_names I n ((PySem.W.exm_one I.kIn lt (exm_or hb)).here (q s.heap fun _ _ z => z))
  | two n1 n2 =>
    refine wpAny_Tuple (wpAny_items_cons (ld_names I n1 (wpAny_items_cons (ld_names I n2 (wpAny_items_nil ⟨by size_fits, ?_⟩)))))
    exact (PySem.W.exm_tup2 (I.kIn.keeps (kp _)) (lt.keeps (kp _)) (at_ _) hb).here (q _ (kp _))
  | three n1 n2 n3 =>
    refine wpAny_Tuple (wpAny_items_cons (ld_names I n1 (wpAny_items_cons (ld_names I n2 (wpAny_items_cons (ld_names I n3 (wpAny_items_nil ⟨by size_fits, ?_⟩)))))))
    exact (PySem.W.exm_tup3 (I.kIn.keeps (kp _)) (lt.keeps (kp _)) (at_ _) hb).here (q _ (kp _))
  | four n1 n2 n3 n4 =>
    refine wpAny_Tuple (wpAny_items_cons (ld_names I n1 (wpAny_items_cons (ld_names I n2 (wpAny_items_cons (ld_names I n3 (wpAny_items_cons (ld_names I n4 (wpAny_items_nil ⟨by size_fits, ?_⟩)))))))))
    exact (PySem.W.exm_tup4 (I.kIn.keeps (kp _)) (lt.keeps (kp _)) (at_ _) hb).here (q _ (kp _))
abbrev Cla : Type := List Value × (Addr → Value → Option Addr → TS)
/-- behind a suite the clause's name is gone -/
def goneD (D : Ends) (i : Nat) : Ends := { nx := fun σ H => D.nx (σ.set i none) H, rt := D.rt, bk := fun σ H => D.bk (σ.set i none) H, ct := fun σ H => D.ct (σ.set i none) H }
/-- what the clauses wish of an exception, one behind another; slot i is the clause's name's -/
def wAll (K : PySem.W.Frag) (Wout : WX) (D : Ends) (i : Nat) : List Cla → WX
  | [] => Wout
  | (cs, ts) :: r => fun cls d σ H => ∃ b, PySem.W.exmAny K cls cs = some b ∧ (b = true → ∀ a, H a = none → ts a cls d (goneD D i) (σ.set i (some (.ref a))) H) ∧ (b = false → wAll K Wout D i r cls d σ H)
inductive HdsAs (X : Cx) (n : PySem.Str) : List ExceptHandler → List Cla → Prop
  | nil : HdsAs X n [] []
  | cons {tx : Expr} {cs : List Value} {ts : Addr → Value → Option Addr → TS} {b₀ : Stmt} {suite : List Stmt} {pos : Pos} {hds : List ExceptHandler} {l : List Cla} (ht : ∀ a pn, Tst (X.suite a pn) tx cs)
      (hsu : ∀ (a : Addr) (oe : Obj) (cls : Value) (d : Option Addr) (pn : List (Addr × Obj)), Zc cls d oe → (∃ vs, oe.data = .fields vs) → PSs (X.suite a ((a, oe) :: pn)) (b₀ :: suite) (ts a cls d)) (r : HdsAs X n hds l) :
      HdsAs X n (.ExceptHandler (some tx) (some n) (b₀ :: suite) pos :: hds) ((cs, ts) :: l)
theorem flyZ_keeps {B h h' : Heap} {l : List PySem.Env} {a : Addr} {Z : Obj → Prop} (x : HandSPX.FlyingZ B l a Z h) (k : ∀ b o, h.get? b = some o → h'.get? b = some o) : HandSPX.FlyingZ B l a Z h' := by
  obtain ⟨x1, x2, x3, oe, vs, T, oT, ts, e1, e2, e3, e4, e5, e6, e7, e8⟩ := x
  exact ⟨fun b o q => k b o (x1 b o q), x2, Heap.FunFrames.of_keeps (fun b o q _ => ⟨o, k b o q, rfl⟩) x3, oe, vs, T, oT, ts, k _ _ e1, e2, e3, e4, e5, e6, k _ _ e7, e8⟩
section
variable {X : Cx} {body : List Stmt} {h₀ : ExceptHandler} {hds : List ExceptHandler} {l : List Cla} {pos : Pos} {tb : WX → TS} {Wout : WX} {n : PySem.Str} {i : Nat}
theorem ps_try_all (hs : X.stack = X.env :: X.outer) (hf : X.env.frame = some X.env.locals) (nd : X.N.Nodup) (hi : X.N[i]? = some n) (hln : X.env.kindOf n = some .local) (tk : Takes X Wout)
    (hb : ∀ (W : WX) (pn : List (Addr × Obj)) (xe : Value → Shared → Prop), Takes (X.tr pn xe) W → PassesOwn (model X.prog X.w) X.A X.env xe → PSs (X.tr pn xe) body (tb W)) (hh : HdsAs X n (h₀ :: hds) l) :
    PS X (.Try body (h₀ :: hds) [] [] pos) (fun D σ H => tb (wAll X.K Wout D i l) D σ H) := by
  refine ⟨fun pins s σ H D I h => ?_⟩
  have ok := I.ok
  have hfr : X.A.frames = some (X.env :: X.outer) := by rw [ok.frames, hs]
  have hloc : Loc X.env.scope n := .inl hln
  have hb2 := hb (wAll X.K Wout D i l) (X.pn ++ pins) fun e s1 => wpAny (model X.prog X.w) X.A (noteFrame e X.env) (fun _ s2 => wpAny (model X.prog X.w) X.A (setFlight e none) (fun _ s3 => wpAny (model X.prog X.w) X.A (handleBy e X.env (h₀ :: hds)) (SP X pins D) X.xe s3) X.xe s2) X.xe s1
  refine wpAny_Try_except (wpAny_mono ((hb2 (fun u s' xx => ?_) PassesOwn.looking).run [] s σ H D (I.toTry _) h) (fun f s1 hsp => ?_) (fun e s1 he => he))
  · obtain ⟨a, B, sI, pins', σ', H', cls, d, rfl, J', nb, up, sky, na, os, ag, w⟩ := xx
    have J : Inv X pins σ' H' sI := J'.ofTry ok
    show wpAny (model X.prog X.w) X.A (noteFrame (.ref a) X.env) _ _ _
    have sky2 : Sky B (X.env :: X.outer) a (Zc cls d) X.env.locals s'.heap := hs ▸ sky
    refine Sky.land Zc.steady hfr hf sky2 fun h3 fl3 up3 => ?_
    have notFr : ∀ {h : Heap} {o : Obj} {vs : Array Value}, h.FunFrames B (X.env :: X.outer) → h.get? a = some o → o.data = .fields vs → a ∉ frs (X.env :: X.outer) := fun {h o vs} ff e dd hm => by
      obtain ⟨_, o', e', hnf⟩ := ff.mem hm
      rw [e] at e'; cases e'
      exact hnf _ dd
    have nfr : a ∉ frs (X.env :: X.outer) := by
      obtain ⟨oe3, vs3, he3, hz3, hd3⟩ := fl3.there
      exact notFr fl3.2.2.1 he3 hd3
    have nL : a ≠ X.env.locals := fun z => nfr (List.mem_filterMap.mpr ⟨X.env, List.mem_cons_self, by rw [hf, z]⟩)
    have nF : a ∉ X.fs := fun hm => by
      obtain ⟨e, he, q⟩ := List.mem_filterMap.mp hm
      exact nfr (List.mem_filterMap.mpr ⟨e, List.mem_cons_of_mem _ he, q⟩)
    have go : ∀ {hd2 : List ExceptHandler} {l2 : List Cla}, HdsAs X n hd2 l2 → ∀ h : Heap, HandSPX.FlyingZ B (X.env :: X.outer) a (Zc cls d) h → sI.heap.UpToSlots h → wAll X.K Wout D i l2 cls d σ' H' →
        wpAny (model X.prog X.w) X.A (handleBy (.ref a) X.env hd2) (SP X pins D) X.xe { s' with heap := h } := by
      intro hd2 l2 hk
      induction hk with
      | nil =>
        intro h fl uh w
        refine wpAny_handleBy_nil ?_
        obtain ⟨_, _, _, oe, vs, T, oT, ts', he, hz, hdd, h1, _⟩ := id fl
        unfold PySem.passOn
        refine wpAny_bind (wpAny_field he hdd h1 ?_)
        rw [if_neg (show ¬ ((Value.ref T == Value.none) = true) from by simp)]
        have fin : wpAny (model X.prog X.w) X.A (setFlight (.ref a) X.env.frame) (fun _ s4 => wpAny (model X.prog X.w) X.A (throw (.ref a) : Sem Flow) (SP X pins D) X.xe s4) X.xe { s' with heap := h } := by
          rw [hf]
          refine HandSPX.setFlight_upZ fl fun h4 hh4 up4 => wpAny_throw (tk _ _ ⟨a, B, sI, pins, σ', H', cls, d, rfl, J, nb, uh.trans up4, .inr (.inr (by rw [hs]; exact hh4)), na, os, ag, w⟩)
        first
          | exact wpAny_bind (wpAny_pure (wpAny_bind fin))
          | exact wpAny_bind fin
      | @cons tx cs ts b₀ suite pos' hd3 l3 ht hsu r ih =>
        intro h fl uh w
        obtain ⟨b, hb1, hyes, hno⟩ := w
        refine wpAny_handleBy_cons (codeAny_handlers_test ?_) (by intro q; cases q)
        obtain ⟨oe3, vs3, he3, hz3, hdd3⟩ := fl.there
        have Jh : Inv X pins σ' H' { s' with heap := h } := J.landed nb fl.1 uh os ag
        have S3 := Jh.suite he3 hdd3 na nL nF
        have LT : PySem.W.Looks (model X.prog X.w) h (typeOf (.ref a)) cls := fun A Q E s k q => wpAny_typeOf_ref (k _ _ he3) (by rw [hz3.1]; exact q)
        refine tst_ok (X := X.suite a ((a, oe3) :: (X.pn ++ pins))) (ht _ _) S3 LT hb1 fun h5 k5 => ?_
        have fl5 := flyZ_keeps fl k5
        have uh5 : sI.heap.UpToSlots h5 := uh.trans (Heap.UpToSlots.of_keeps k5)
        cases b with
        | false =>
          show wpAny _ X.A (handleBy (.ref a) X.env hd3) _ _ _
          exact ih h5 fl5 uh5 (hno rfl)
        | true =>
          refine codeAny_handlers_suite_as (HandSPX.lands_againZ (s := { s' with heap := h5 }) fl5 fun h4 fl4 up4 => ?_)
          have J4 : Inv X pins σ' H' { s' with heap := h4 } := J.landed nb fl4.1 (uh5.trans up4) os ag
          obtain ⟨oe4, vs4, he4, hz4, hd4⟩ := fl4.there
          have S4 := J4.suite he4 hd4 na nL nF
          refine store_ok (X := X.suite a ((a, oe4) :: (X.pn ++ pins))) (v := .ref a) S4 nd hi hloc rfl (fun s5 S5 => ?_) (.inr hln)
          refine wpAny_mono ((hsu a oe4 cls d (X.pn ++ pins) hz4 ⟨_, hd4⟩).run [] s5 _ H' _ S5 (hyes rfl a na)) (fun f s6 hsp => ?_) (fun _ _ z => False.elim z)
          have fin : ∀ {σ6 : L2.St} {H6 : Hp} {Q : Shared → Prop}, Inv (X.suite a ((a, oe4) :: (X.pn ++ pins))) [] σ6 H6 s6 → (∀ s7, Inv X pins (σ6.set i none) H6 s7 → Q s7) →
              wpAny (model X.prog X.w) X.A (do bindName X.env n .none; unbindBehindTheSuite X.env n pos') (fun _ s7 => Q s7) X.xe s6 := fun {σ6 H6 Q} S6 hq => gone_ok (S6.unsuite ok) nd hi hln hq
          cases f with
          | next => obtain ⟨σ6, H6, S6, q6⟩ := hsp; exact fin S6 fun s7 J7 => ⟨_, _, J7, q6⟩
          | brk => obtain ⟨σ6, H6, S6, q6⟩ := hsp; exact fin S6 fun s7 J7 => ⟨_, _, J7, q6⟩
          | cont => obtain ⟨σ6, H6, S6, q6⟩ := hsp; exact fin S6 fun s7 J7 => ⟨_, _, J7, q6⟩
          | ret u => obtain ⟨v6, σ6, H6, S6, r6, q6⟩ := hsp; exact fin S6 fun s7 J7 => ⟨_, _, _, J7, r6, q6⟩
    exact go hh h3 fl3 (up.trans up3) w
  · cases f with
    | next => obtain ⟨σ', H', J', q⟩ := hsp; exact wpAny_execs_nil ⟨σ', H', J'.ofTry ok, q⟩
    | brk => obtain ⟨σ', H', J', q⟩ := hsp; exact ⟨σ', H', J'.ofTry ok, q⟩
    | cont => obtain ⟨σ', H', J', q⟩ := hsp; exact ⟨σ', H', J'.ofTry ok, q⟩
    | ret u => obtain ⟨v, σ', H', J', r, q⟩ := hsp; exact ⟨v, σ', H', J'.ofTry ok, r, q⟩
end
end Q
end
/-! QHX -/
section
set_option linter.all false
set_option maxRecDepth 100000
set_option maxHeartbeats 4000000
namespace Q
open PySem PySem.Spec PyProof.Rows L2
/-! ### what an except suite makes of the error that it holds -/
inductive HX where
  | s (x : PySem.Str) | f (n : PySem.Str) | i (c : PySem.Str) (a b : HX) | t (l : List HX)
abbrev HCl : Type := List (List PySem.Str × HX)
section
variable (fl : PySem.Str → List PySem.Str) (x : Exn)
mutual
def evHX : HX → Option T
  | .s z => some (.str z)
  | .f n => ((fl x.cls).zip x.args).lookup n
  | .i c a b => if x.cls = c then evHX a else evHX b
  | .t l => if l.length ≤ 1000 then (evHXs l).map .tup else none
def evHXs : List HX → Option (List T)
  | [] => some []
  | h :: l => match evHX h, evHXs l with
    | some a, some b => some (a :: b)
    | _, _ => none
end
def evCl : HCl → Option T
  | [] => none
  | (cs, h) :: r => if x.cls ∈ cs then evHX fl x h else evCl r
end
/-- the meaning of _law_heard: the table of the law's code object stands first in the store -/
def hearF (names : List PySem.Str) (fl : PySem.Str → List PySem.Str) (cl : HCl) (P : Addr) (q : PySem.Str) : Nat → Store → O T → O T
  | 0, .tab P' q' :: _, o => if P' = P ∧ q' = q then (match o with
    | .ok t st' => .ok (.lst [t]) st'
    | .ex x st' => if x.cls ∈ names then lift (evCl fl x cl) st' else .bad
    | .bad => .bad) else .bad
  | _, _, _ => .bad
/-! ### the text -/
def nmG (sc : Scope) (names : List PySem.Str) (c : PySem.Str) : Bool := decide (sc.names.lookup c = some .globalImplicit) && okNm c && decide (c ∈ names)
def asStrC : Expr → Option PySem.Str
  | .Constant (.str y) _ _ => some y
  | _ => none
def asErrF : Expr → Option PySem.Str
  | .Attribute (.Name e _) m _ => if e = ("error" : PySem.Str) then some m else none
  | _ => none
def asIsX : Expr → Option (PySem.Str × Expr × Expr)
  | .IfExp (.Call (.Name g _) [.Name e _, .Name d _] [] _) x y _ => if g = ("isinstance" : PySem.Str) ∧ e = ("error" : PySem.Str) then some (d, x, y) else none
  | _ => none
theorem asStrC_some {e : Expr} {z : PySem.Str} (h : asStrC e = some z) : ∃ j p, e = .Constant (.str z) j p := by
  unfold asStrC at h
  split at h
  · cases h; exact ⟨_, _, rfl⟩
  · cases h
theorem asErrF_some {e : Expr} {z : PySem.Str} (h : asErrF e = some z) : ∃ p q, e = .Attribute (.Name ("error" : PySem.Str) p) z q := by
  unfold asErrF at h
  split at h
  · split at h
    · rename_i q; cases h; rw [q]; exact ⟨_, _, rfl⟩
    · cases h
  · cases h
theorem asIsX_some {e x y : Expr} {d : PySem.Str} (h : asIsX e = some (d, x, y)) : ∃ p1 p2 p3 p4 p5, e = .IfExp (.Call (.Name ("isinstance" : PySem.Str) p1) [.Name ("error" : PySem.Str) p2, .Name d p3] [] p4) x y p5 := by
  unfold asIsX at h
  split at h
  · split at h
    · rename_i q; cases h; rw [q.1, q.2]; exact ⟨_, _, _, _, _, rfl⟩
    · cases h
  · cases h
mutual
def chkHX (sc : Scope) (names : List PySem.Str) : HX → Expr → Bool
  | .s z, e => decide (asStrC e = some z)
  | .f n, e => decide (asErrF e = some n)
  | .i c a b, e => match asIsX e with
    | some (d, x, y) => decide (c = d) && nmG sc names c && chkHX sc names a x && chkHX sc names b y
    | none => false
  | .t l, e => match asTup e with
    | some xs => xs.all notStar && chkHXs sc names l xs
    | none => false
def chkHXs (sc : Scope) (names : List PySem.Str) : List HX → List Expr → Bool
  | [], [] => true
  | h :: l, x :: xs => chkHX sc names h x && chkHXs sc names l xs
  | _, _ => false
end
def chkTst (sc : Scope) (names : List PySem.Str) : List PySem.Str → Expr → Bool
  | [a], .Name x _ => decide (a = x) && nmG sc names a
  | [a, b], .Tuple [.Name x _, .Name y _] _ _ => decide (a = x) && nmG sc names a && (decide (b = y) && nmG sc names b)
  | [a, b, c], .Tuple [.Name x _, .Name y _, .Name z _] _ _ => decide (a = x) && nmG sc names a && (decide (b = y) && nmG sc names b) && (decide (c = z) && nmG sc names c)
  | [a, b, c, d], .Tuple [.Name x _, .Name y _, .Name z _, .Name u _] _ _ => decide (a = x) && nmG sc names a && (decide (b = y) && nmG sc names b) && (decide (c = z) && nmG sc names c) && (decide (d = u) && nmG sc names d)
  | _, _ => false
def asCl : ExceptHandler → Option (Expr × Expr)
  | .ExceptHandler (some tx) (some e) [.Assign [.Name f _] ex _] _ => if e = ("error" : PySem.Str) ∧ f = ("found" : PySem.Str) then some (tx, ex) else none
  | _ => none
theorem asCl_some {h : ExceptHandler} {tx ex : Expr} (e : asCl h = some (tx, ex)) : ∃ p q r, h = .ExceptHandler (some tx) (some ("error" : PySem.Str)) [.Assign [.Name ("found" : PySem.Str) p] ex q] r := by
  unfold asCl at e
  split at e
  · split at e
    · rename_i z; cases e; rw [z.1, z.2]; exact ⟨_, _, _, rfl⟩
    · cases e
  · cases e
def chkCl (sc : Scope) (names : List PySem.Str) : HCl → List ExceptHandler → Bool
  | [], [] => true
  | (cs, h) :: l, x :: r => (match asCl x with
    | some (tx, ex) => chkTst sc names cs tx && chkHX sc names h ex
    | none => false) && chkCl sc names l r
  | _, _ => false
def chkHeard (sc : Scope) (names : List PySem.Str) (cl : HCl) : List Stmt → Bool
  | [.Assign [.Name f _] (.Constant .none _ _) _, .Try [.Return (some (.List [.Call (.Name a _) [] [] _] _)) _] (h :: hs) [] [] _, .Return (some (.Name g _)) _] => decide (f = ("found" : PySem.Str)) && decide (a = ("ask" : PySem.Str)) && decide (g = ("found" : PySem.Str)) && chkCl sc names cl (h :: hs)
  | _ => false
/-! ### the classes -/
structure HxOk (K : PySem.W.Frag) (mg : PySem.Str → Option Value) (xi : XI) (names : List PySem.Str) : Prop where
  isi : mg "isinstance" = none
  cls : ∀ x ∈ names, mg x = some (.ref (xi.cA x)) ∧ XfC K (xi.cA x) ∧ (∀ n ∈ xi.fl x, PySem.W.findIn K (.ref (xi.cA x)) n = some none) ∧ (PySem.W.clsIn K (xi.cA x)).isSome = true ∧ PySem.W.findIn K (.ref (xi.cA x)) "__class__" = some (some (.builtin "object.__class__")) ∧ PySem.W.mroIn K (xi.cA x) (.type "object") = some true
  gt : PySem.W.specialIn K (.builtin "object.__class__") "__get__" = some (some (.builtin "getset_descriptor.__get__"))
  tk : PySem.W.takesIn K (.builtin "object.__class__") = some true
  kit : ∀ x ∈ names, ∀ c ∈ names, PySem.W.kitOne K (.ref (xi.cA x)) (.ref (xi.cA c)) = some (decide (x = c))
  exm : ∀ x ∈ names, ∀ c ∈ names, PySem.W.exmOne K (.ref (xi.cA x)) (.ref (xi.cA c)) = some (decide (x = c))
theorem HxOk.any {K : PySem.W.Frag} {mg : PySem.Str → Option Value} {xi : XI} {names : List PySem.Str} (O : HxOk K mg xi names) {x : PySem.Str} (hx : x ∈ names) : ∀ cs : List PySem.Str, (∀ c ∈ cs, c ∈ names) → PySem.W.exmAny K (.ref (xi.cA x)) (cs.map fun c => .ref (xi.cA c)) = some (decide (x ∈ cs))
  | [], _ => by simp [PySem.W.exmAny]
  | c :: cs, h => by
    have h1 := O.exm x hx c (h c List.mem_cons_self)
    have h2 := O.any hx cs fun d hd => h d (List.mem_cons_of_mem _ hd)
    show (match PySem.W.exmOne K (.ref (xi.cA x)) (.ref (xi.cA c)), PySem.W.exmAny K (.ref (xi.cA x)) (cs.map fun c => .ref (xi.cA c)) with
      | some b, some d => some (b || d)
      | _, _ => none) = _
    rw [h1, h2]
    simp [List.mem_cons]
/-! ### the suite's reading -/
section
variable {X : Cx} {a : Addr} {oe : Obj} {cls : Value} {d : Option Addr} {pn : List (Addr × Obj)} {K : PySem.W.Frag} {xi : XI} {names : List PySem.Str} {sc : Scope}
theorem zip_get {F : Hp} {as : List Addr} : ∀ {ns : List PySem.Str} {vs : List V} {ts : List T} {n : PySem.Str} {t : T}, Reps K F as vs ts → (ns.zip ts).lookup n = some t → ∃ v, (ns.zip vs).lookup n = some v ∧ Rep K F as v t
  | [], _, _, _, _, _, e => by simp at e
  | _ :: _, _, _, _, _, .nil, e => by simp at e
  | m :: ns, _, _, n, t, .cons (v := v) h r, e => by
    rw [List.zip_cons_cons, List.lookup_cons] at e ⊢
    cases q : n == m with
    | true => rw [q] at e; cases e; exact ⟨v, rfl, h⟩
    | false => rw [q] at e; exact zip_get r e
theorem zip_mem : ∀ {ns : List PySem.Str} {vs : List V} {n : PySem.Str} {v : V}, (ns.zip vs).lookup n = some v → n ∈ ns
  | [], _, _, _, e => by simp at e
  | _ :: _, [], _, _, e => by simp at e
  | m :: ns, w :: vs, n, v, e => by
    rw [List.zip_cons_cons, List.lookup_cons] at e
    cases q : n == m with
    | true => rw [beq_iff_eq.mp q]; exact List.mem_cons_self
    | false => rw [q] at e; exact List.mem_cons_of_mem _ (zip_mem e)
/-- the state of things in the suite: the error x is at a -/
structure AtX (K : PySem.W.Frag) (xi : XI) (names : List PySem.Str) (a : Addr) (cls : Value) (d : Option Addr) (x : Exn) (F : Hp) (as : List Addr) (st : Store) (σ : L2.St) (H : Hp) : Prop where
  slot : σ[2]? = some (some (.ref a))
  sub : Sub F H
  sto : Sto K F as st H
  rep : XRep K xi.cA xi.fl F as H cls d x
  mem : x.cls ∈ names
theorem XRep.nxt {F F' H H' : Hp} {as as' : List Addr} {x : Exn} {cA : PySem.Str → Addr} {fl : PySem.Str → List PySem.Str} (r : XRep K cA fl F as H cls d x) (n : Nxt F as H F' as' H') (nm : ∀ dd, d = some dd → dd ∉ as) : XRep K cA fl F' as' H' cls d x := by
  obtain ⟨e, h⟩ := r
  refine ⟨e, h.imp id fun ⟨dd, vs, h1, h2, h3, h4⟩ => ⟨dd, vs, h1, n.keep dd _ h2 (fun ps z => nomatch z) (nm dd h1), h3, h4.mono n.ff n.pre⟩⟩
/-- a part's reading -/
def tHX (K : PySem.W.Frag) (xi : XI) (names : List PySem.Str) (a : Addr) (cls : Value) (d : Option Addr) (h : HX) : TE := fun σ H Q => ∃ x F as st t, AtX K xi names a cls d x F as st σ H ∧ evHX xi.fl x h = some t ∧ Post K F as H t st Q
theorem AtX.nm {x : Exn} {F H : Hp} {as : List Addr} {st : Store} {σ : L2.St} (A : AtX K xi names a cls d x F as st σ H) {dd : Addr} (e : d = some dd) : dd ∉ as := fun m => by
  obtain ⟨n, hn, q⟩ := List.getElem_of_mem m
  have q2 : as[n]? = some dd := by rw [List.getElem?_eq_getElem hn, q]
  obtain ⟨t, _, _, c⟩ := A.sto.cont q2
  obtain ⟨_, ⟨_, _, z⟩ | ⟨d2, vs, z1, z2, _⟩⟩ := A.rep
  · rw [e] at z; cases z
  · rw [e] at z1
    cases z1
    rcases c with c | ⟨q, _, ps, c, _⟩
    · cases t <;> simp only [Cont] at c
      · obtain ⟨_, c, _⟩ := c; rw [z2] at c; cases c
      · obtain ⟨_, c, _⟩ := c; rw [z2] at c; cases c
    · rw [z2] at c; cases c
theorem AtX.nxt {x : Exn} {F F' H H' : Hp} {as as' : List Addr} {st st' : Store} {σ : L2.St} (A : AtX K xi names a cls d x F as st σ H) (n : Nxt F as H F' as' H') (s : Sub F' H') (t : Sto K F' as' st' H') : AtX K xi names a cls d x F' as' st' σ H' :=
  ⟨A.slot, s, t, A.rep.nxt n fun dd e => A.nm e, A.mem⟩
theorem AtX.post {x : Exn} {F H : Hp} {as : List Addr} {st : Store} {σ : L2.St} {t : T} {v : V} {Q : VK} (A : AtX K xi names a cls d x F as st σ H) (r : Rep K F as v t) (p : Post K F as H t st Q) : Q v H := p F as H v (Nxt.refl _ _ _) A.sub A.sto r
/-- error -/
theorem pe_err {p : Pos} (hN : X.N[2]? = some ("error" : PySem.Str)) (hv : Vis X.env.scope ("error" : PySem.Str)) : PE X (.Name ("error" : PySem.Str) p) (tVar 2) := pe_var hN hv
/-- error.f -/
theorem pe_hxf {n : PySem.Str} {p p2 : Pos} (hN : X.N[2]? = some ("error" : PySem.Str)) (hv : Vis X.env.scope ("error" : PySem.Str)) (O : HxOk X.K X.mg xi names) (hz : Zc cls d oe) (hf : ∃ vs, oe.data = .fields vs) :
    PE (X.suite a ((a, oe) :: pn)) (.Attribute (.Name ("error" : PySem.Str) p) n p2) (tHX X.K xi names a cls d (.f n)) := by
  refine ⟨fun pins s σ H Q I h => ?_⟩
  obtain ⟨x, F, as, st, t, A, e, p⟩ := h
  obtain ⟨h1, h2, h3, _⟩ := O.cls _ A.mem
  obtain ⟨ec, h⟩ := A.rep
  have e : ((xi.fl x.cls).zip x.args).lookup n = some t := by simpa [evHX] using e
  rcases h with ⟨_, z, _⟩ | ⟨dd, vs, k1, k2, k3, k4⟩
  · rw [z] at e; simp at e
  · obtain ⟨v, g1, g2⟩ := zip_get k4 e
    exact (pe_xf (C := xi.cA x.cls) h2 (h3 n (zip_mem g1)) hz hf (pe_err (X := X.suite a ((a, oe) :: pn)) hN hv) (by rfl)).run pins s σ H Q I ⟨.ref a, A.slot, rfl, ec, dd, _, v, k1, k2, g1, A.post g2 p⟩
/-- isinstance(error, C) -/
theorem call_isX {c : PySem.Str} (O : HxOk X.K X.mg xi names) (hz : Zc cls d oe) (hf : ∃ vs, oe.data = .fields vs) (hc : c ∈ names) : CallR (X.suite a ((a, oe) :: pn)) (.builtin "isinstance") (fun xs H Q => ∃ x F as st σ, xs = [.ref a, .ref (xi.cA c)] ∧ AtX X.K xi names a cls d x F as st σ H ∧ Q (.bl (decide (x.cls = c))) H) := by
  intro pins s σ H xs us Q I r h
  obtain ⟨x, F, as, st, σ0, rfl, A, q⟩ := h
  cases r with
  | cons rx rr =>
    cases rr with
    | cons rt rr =>
      cases rr
      cases rx
      cases rt
      obtain ⟨h1, h2, h3, h4, h5, h6⟩ := O.cls _ A.mem
      obtain ⟨hget, _⟩ := I.pin (a, oe) (List.mem_append.mpr (.inl List.mem_cons_self))
      obtain ⟨vs, hv⟩ := hf
      obtain ⟨ec, hr⟩ := A.rep
      have J : ∃ od, PySem.W.InstAt s.heap a oe (xi.cA x.cls) od := by
        rcases hr with ⟨_, _, z⟩ | ⟨dd, ws, k1, k2, _⟩
        · exact ⟨none, hget, hz.1.trans ec, by unfold PySem.W.notCls; rw [hv], by rw [hz.2, z]; exact trivial⟩
        · have hx : ObjOk X.prog X.w H s.heap dd (.xd ((xi.fl x.cls).zip ws)) := I.hok dd _ k2
          obtain ⟨mA, ⟨od, es, ep, e1, _⟩, _⟩ := hx
          exact ⟨some od, hget, hz.1.trans ec, by unfold PySem.W.notCls; rw [hv], by rw [hz.2, k1]; exact e1⟩
      obtain ⟨od, J⟩ := J
      exact PySem.W.kia_one (PySem.W.kitx_exc h4 h2.ga h2.gg h2.exC h5 O.gt O.tk h6) I.kIn J (O.kit _ A.mem c hc) (fun z => nomatch z) fun tk => ⟨.bl _, H, I.kept (t' := tk) fun _ _ z => z, rfl, q⟩
end
end Q
end
/-! B_k02 -/
section
set_option linter.all false
set_option maxRecDepth 100000
namespace C
open PySem L2 Q
/-! printed by gen.py for k02: 19 defs; not told: {} -/
def b_is_between : List S := [.ret (.band [(.op (.isi .int) [(.var 0)]), (.not (.op (.isi .bool) [(.var 0)])), (.chn .le .le (.var 1) (.var 0) (.var 2))])]
def n_is_between : List PySem.Str := ["thing", "least", "most"]
def fn_is_between : Fn := ⟨3, 3, b_is_between⟩
def b_is_held : List S := [.ret (.bor [(.op .isN [(.var 0)]), (.call 0 [(.var 0), (.con (.int 0)), (.op .sub [(.var 1), (.con (.int 1))])] [] [])])]
def n_is_held : List PySem.Str := ["thing", "many"]
def fn_is_held : Fn := ⟨2, 2, b_is_held⟩
def b_is_heap : List S := [.iff (.bor [(.not (.op (.isi .tuple) [(.var 0)])), (.op .ne [(.op .len [(.var 0)]), (.con (.int 2))]), (.not (.call 0 [(.op .idx [(.var 0), (.con (.int 0))]), (.con (.int 1)), (.con (.int 4))] [] []))]) [.ret (.con (.bl false))] [],
      .tas (.tp [(.nm 2), (.nm 3)]) (.var 0),
      .iff (.bor [(.not (.op (.isi .tuple) [(.var 3)])), (.op .gt [(.op .len [(.var 3)]), (.con (.int 40))])]) [.ret (.con (.bl false))] [],
      .for (.nm 1) .seq [(.var 3)] [.iff (.bor [(.not (.op (.isi .tuple) [(.var 1)])), (.op .ne [(.op .len [(.var 1)]), (.var 2)])]) [.ret (.con (.bl false))] [],
      .iff (.not (.op .all [(.comp (.nm 4) .seq [(.var 1)] [] (.call 1 [(.var 4), (.op .len [(.var 3)])] [] []))])) [.ret (.con (.bl false))] []],
      .ret (.con (.bl true))]
def n_is_heap : List PySem.Str := ["thing", "fields", "width", "objects", "field"]
def fn_is_heap : Fn := ⟨1, 5, b_is_heap⟩
def b_is_registers : List S := [.iff (.bor [(.not (.op (.isi .tuple) [(.var 1)])), (.not (.chn .le .le (.con (.int 1)) (.op .len [(.var 1)]) (.con (.int 6))))]) [.ret (.con (.bl false))] [],
      .ret (.op .all [(.comp (.nm 2) .seq [(.var 1)] [] (.call 1 [(.var 2), (.op .len [(.op .idx [(.var 0), (.con (.int 1))])])] [] []))])]
def n_is_registers : List PySem.Str := ["heap", "thing", "spot"]
def fn_is_registers : Fn := ⟨2, 3, b_is_registers⟩
def b_padded : List S := [.ret (.op .add [(.op .tuple [(.var 0)]), (.op .mul [(.tup [(.con .non)]), (.op .sub [(.var 1), (.op .len [(.var 0)])])])])]
def n_padded : List PySem.Str := ["fields", "width"]
def fn_padded : Fn := ⟨2, 2, b_padded⟩
def b_make_heap : List S := [.iff (.not (.op .all [(.comp (.nm 3) .seq [(.var 1)] [] (.op (.isi .seq) [(.var 3)]))])) [.rse "InvalidHeap" []] [],
      .iff (.op .isN [(.var 0)]) [.ass 0 (.op .maxL [(.op .add [(.lst [(.con (.int 1))]), (.comp (.nm 3) .seq [(.var 1)] [] (.op .len [(.var 3)]))])])] [],
      .iff (.not (.call 0 [(.var 0), (.con (.int 1)), (.con (.int 4))] [] [])) [.rse "InvalidHeap" []] [],
      .ass 2 (.tup [(.var 0), (.op .tuple [(.comp (.nm 3) .seq [(.var 1)] [] (.call 2 [(.var 3), (.var 0)] [] []))])]),
      .iff (.not (.call 3 [(.var 2)] [] [])) [.rse "InvalidHeap" []] [],
      .ret (.var 2)]
def n_make_heap : List PySem.Str := ["width", "objects", "heap", "fields"]
def fn_make_heap : Fn := ⟨2, 4, b_make_heap⟩
def b_reach_from : List S := [.own 2 .dic0,
      .for (.nm 3) .seq [(.var 1)] [.seti 2 (.var 3) (.con (.bl true))],
      .own 4 (.op .list [(.var 2)]),
      .whl (.op .ne [(.var 4), (.lst [])]) [.pop 4 [] 3,
      .for (.nm 5) .seq [(.op .idx [(.op .idx [(.var 0), (.con (.int 1))]), (.var 3)])] [.iff (.band [(.op .notN [(.var 5)]), (.op .notIn [(.var 5), (.var 2)])]) [.seti 2 (.var 5) (.con (.bl true)),
      .app 4 (.var 5)] []]],
      .ret (.op .tuple [(.op .sorted [(.op .list [(.var 2)])])])]
def n_reach_from : List PySem.Str := ["heap", "objects", "found", "one", "waiting", "field"]
def fn_reach_from : Fn := ⟨2, 6, b_reach_from⟩
def b_reachable : List S := [.ass 2 (.comp (.nm 3) .seq [(.var 1)] [(.op .notN [(.var 3)])] (.var 3)),
      .ret (.call 4 [(.var 0)] [(.var 2)] [])]
def n_reachable : List PySem.Str := ["heap", "registers", "held", "spot"]
def fn_reachable : Fn := ⟨2, 4, b_reachable⟩
def b_unreachable : List S := [.ass 2 (.call 5 [(.var 0), (.var 1)] [] []),
      .ret (.op .tuple [(.comp (.nm 3) .rng1 [(.op .len [(.op .idx [(.var 0), (.con (.int 1))])])] [(.op .notIn [(.var 3), (.var 2)])] (.var 3))])]
def n_unreachable : List PySem.Str := ["heap", "registers", "found", "one"]
def fn_unreachable : Fn := ⟨2, 4, b_unreachable⟩
def b_path_to : List S := [.iff (.not (.call 0 [(.var 2), (.con (.int 0)), (.op .sub [(.op .len [(.op .idx [(.var 0), (.con (.int 1))])]), (.con (.int 1))])] [] [])) [.rse "NoObject" [(.var 2)]] [],
      .own 3 (.comp (.tp [(.nm 6), (.nm 7)]) .enum [(.var 1)] [(.op .notN [(.var 7)])] (.tup [(.var 7), (.tup [(.var 6)])])),
      .own 4 .dic0,
      .whl (.op .ne [(.var 3), (.lst [])]) [.headTail (.tp [(.nm 8), (.nm 9)]) 3,
      .iff (.op .eq [(.var 8), (.var 2)]) [.ret (.var 9)] [],
      .iff (.op .notIn [(.var 8), (.var 4)]) [.seti 4 (.var 8) (.con (.bl true)),
      .ass 5 (.op .listEnum [(.op .idx [(.op .idx [(.var 0), (.con (.int 1))]), (.var 8)])]),
      .ext 3 (.comp (.tp [(.nm 6), (.nm 10)]) .seq [(.var 5)] [(.op .notN [(.var 10)])] (.tup [(.var 10), (.op .add [(.var 9), (.tup [(.var 6)])])]))] []],
      .ret (.con .non)]
def n_path_to : List PySem.Str := ["heap", "registers", "x", "waiting", "met", "fields", "index", "spot", "one", "path", "field"]
def fn_path_to : Fn := ⟨3, 11, b_path_to⟩
def b__law_pen : List S := [.retB (.lst [(.comp (.nm 1) .seq [(.slc (.var 0) [] [(.con (.int 63))])] [] (.op .int [(.var 1)])), (.con (.int 0)), (.con (.int 0))])]
def n__law_pen : List PySem.Str := ["script", "cell"]
def fn__law_pen : Fn := ⟨1, 2, b__law_pen⟩
def b__law_pick : List S := [.ret (.op .idx [(.var 1), (.call 6 [(.var 0), (.op .len [(.var 1)])] [] [])])]
def n__law_pick : List PySem.Str := ["pen", "some"]
def fn__law_pick : Fn := ⟨2, 2, b__law_pick⟩
def b__law_mixed : List S := [.par [(2, true), (3, true)] [(.op .list [(.var 1)]), (.lst [])],
      .whl (.op .ne [(.var 2), (.lst [])]) [.appPop 3 2 [(.call 6 [(.var 0), (.op .len [(.var 2)])] [] [])]],
      .frz 3,
      .ret (.var 3)]
def n__law_mixed : List PySem.Str := ["pen", "some", "left", "found"]
def fn__law_mixed : Fn := ⟨2, 4, b__law_mixed⟩
def b__law_reach : List S := [.par [(2, true), (3, true)] [.dic0, (.comp (.nm 4) .seq [(.var 1)] [(.op .notN [(.var 4)])] (.var 4))],
      .whl (.op .ne [(.var 3), (.lst [])]) [.pop 3 [] 4,
      .iff (.op .notIn [(.var 4), (.var 2)]) [.seti 2 (.var 4) (.con (.bl true)),
      .ext 3 (.comp (.nm 5) .seq [(.op .idx [(.var 0), (.var 4)])] [(.op .notN [(.var 5)])] (.var 5))] []],
      .ret (.op .sorted [(.var 2)])]
def n__law_reach : List PySem.Str := ["rows", "some", "found", "line", "x", "y"]
def fn__law_reach : Fn := ⟨2, 6, b__law_reach⟩
def b__law_rows : List S := [.par [(4, false), (5, true)] [(.call 6 [(.var 0), (.con (.int 6))] [] []), (.lst [])],
      .for (.nm 3) .rng1 [(.var 2)] [.ass 6 (.comp (.nm 7) .rng1 [(.var 1)] [] (.ite (.op .eq [(.call 6 [(.var 0), (.con (.int 2))] [] []), (.con (.int 0))]) (.call 6 [(.var 0), (.var 2)] [] []) (.con .non))),
      .iff (.op .eq [(.var 4), (.con (.int 0))]) [.ass 6 (.op .add [(.lst [(.ite (.op .lt [(.op .add [(.var 3), (.con (.int 1))]), (.var 2)]) (.op .add [(.var 3), (.con (.int 1))]) (.con .non))]), (.slc (.var 6) [(.con (.int 1))] [])])] [.iff (.op .eq [(.var 4), (.con (.int 1))]) [.ass 6 (.op .mul [(.lst [(.op .mod [(.op .int [(.op .add [(.var 3), (.con (.int 1))])]), (.var 2)])]), (.var 1)])] [.iff (.op .eq [(.var 4), (.con (.int 2))]) [.ass 6 (.comp (.nm 7) .rng1 [(.var 1)] [] (.ite (.op .lt [(.op .add [(.op .add [(.op .mul [(.var 1), (.var 3)]), (.var 7)]), (.con (.int 1))]), (.var 2)]) (.op .add [(.op .add [(.op .mul [(.var 1), (.var 3)]), (.var 7)]), (.con (.int 1))]) (.con .non)))] [.iff (.op .eq [(.var 4), (.con (.int 3))]) [.ass 6 (.comp (.nm 8) .seq [(.var 6)] [] (.ite (.op .eq [(.call 6 [(.var 0), (.con (.int 3))] [] []), (.con (.int 0))]) (.var 8) (.con .non)))] [.iff (.op .eq [(.var 4), (.con (.int 4))]) [.ass 6 (.comp (.nm 8) .seq [(.var 6)] [] (.ite (.op .eq [(.call 6 [(.var 0), (.con (.int 4))] [] []), (.con (.int 0))]) (.var 3) (.var 8)))] []]]]],
      .app 5 (.var 6)],
      .frz 5,
      .ret (.var 5)]
def n__law_rows : List PySem.Str := ["pen", "wide", "many", "x", "way", "found", "row", "f", "one"]
def fn__law_rows : Fn := ⟨3, 9, b__law_rows⟩
def b__law_world : List S := [.par [(5, false), (2, false)] [(.op .add [(.con (.int 1)), (.call 6 [(.var 0), (.con (.int 4))] [] [])]), (.call 7 [(.var 0), (.lst [(.con (.int 0)), (.con (.int 1)), (.con (.int 2)), (.con (.int 3)), (.con (.int 4)), (.con (.int 6)), (.var 1), (.call 6 [(.var 0), (.op .add [(.var 1), (.con (.int 1))])] [] [])])] [] [])],
      .ass 2 (.op .min2 [(.var 2), (.var 1)]),
      .ass 3 (.call 8 [(.var 0), (.var 5), (.var 2)] [] []),
      .ass 4 (.comp (.nm 6) .rng1 [(.op .add [(.con (.int 1)), (.call 6 [(.var 0), (.con (.int 6))] [] [])])] [] (.ite (.band [(.op .gt [(.var 2), (.con (.int 0))]), (.op .gt [(.call 6 [(.var 0), (.con (.int 4))] [] []), (.con (.int 0))])]) (.call 6 [(.var 0), (.var 2)] [] []) (.con .non))),
      .ret (.tup [(.tup [(.var 5), (.op .tuple [(.comp (.nm 7) .seq [(.var 3)] [] (.op .tuple [(.var 7)]))])]), (.op .tuple [(.var 4)])])]
def n__law_world : List PySem.Str := ["pen", "most", "many", "rows", "held", "wide", "r", "row"]
def fn__law_world : Fn := ⟨2, 8, b__law_world⟩
def b__law_draw : List S := [.iff (.op .lt [(.var 1), (.con (.int 2))]) [.ret (.con (.int 0))] [],
      .iff (.op .gt [(.op .idx [(.var 0), (.con (.int 2))]), (.con (.int 0))]) [.ass 5 (.op .mod [(.op .int [(.op .idx [(.var 0), (.con (.int 2))])]), (.var 1)]),
      .setr (.var 0) (.con (.int 2)) (.op .fdiv [(.op .int [(.op .idx [(.var 0), (.con (.int 2))])]), (.var 1)]),
      .ret (.var 5)] [],
      .ass 2 (.op .idx [(.var 0), (.con (.int 1))]),
      .setr (.var 0) (.con (.int 1)) (.op .add [(.var 2), (.con (.int 1))]),
      .ass 3 (.op .add [(.op .mul [(.con (.int 62181)), (.var 2)]), (.con (.int 11449))]),
      .iff (.op .ne [(.op .idx [(.var 0), (.con (.int 0))]), (.lst [])]) [.ass 3 (.op .idx [(.op .idx [(.var 0), (.con (.int 0))]), (.op .mod [(.op .int [(.var 2)]), (.op .len [(.op .idx [(.var 0), (.con (.int 0))])])])])] [],
      .iff (.band [(.op .lt [(.var 2), (.op .len [(.op .idx [(.var 0), (.con (.int 0))])])]), (.op .ge [(.op .abs [(.var 3)]), (.op .pow [(.con (.int 10)), (.con (.int 18))])])]) [.ass 6 (.op .add [(.op .mul [(.con (.int 2)), (.op .sub [(.op .abs [(.var 3)]), (.op .pow [(.con (.int 10)), (.con (.int 18))])])]), (.op .int [(.op .lt [(.var 3), (.con (.int 0))])])]),
      .setr (.var 0) (.con (.int 2)) (.op .fdiv [(.op .int [(.var 6)]), (.var 1)]),
      .ret (.op .mod [(.op .int [(.var 6)]), (.var 1)])] [],
      .ass 4 (.op .mod [(.op .int [(.op .pow [(.op .add [(.op .add [(.op .mod [(.op .int [(.var 3)]), (.con (.int 2147483549))]), (.op .mul [(.con (.int 36195)), (.var 2)])]), (.con (.int 11449))]), (.con (.int 3))])]), (.con (.int 2147483629))]),
      .ass 4 (.op .mod [(.op .int [(.op .pow [(.op .add [(.op .add [(.op .mul [(.var 4), (.op .add [(.op .mul [(.con (.int 2)), (.var 2)]), (.con (.int 7569))])]), (.op .mul [(.op .mul [(.con (.int 62181)), (.var 2)]), (.var 2)])]), (.con (.int 36195))]), (.con (.int 5))])]), (.con (.int 2147483563))]),
      .ret (.op .mod [(.op .int [(.op .fdiv [(.var 4), (.con (.int 16))])]), (.var 1)])]
def n__law_draw : List PySem.Str := ["pen", "many", "at", "cell", "mixed", "digit", "great"]
def fn__law_draw : Fn := ⟨2, 7, b__law_draw⟩
def b__law_far : List S := [.par [(3, true), (4, true)] [.dic0, (.lst [])],
      .for (.nm 2) .seq [(.var 1)] [.iff (.band [(.op .notN [(.var 2)]), (.op .notIn [(.var 2), (.var 3)])]) [.seti 3 (.var 2) (.con (.int 1)),
      .app 4 (.var 2)] []],
      .whl (.op .ne [(.var 4), (.lst [])]) [.pop 4 [(.con (.int 0))] 2,
      .for (.nm 5) .seq [(.op .idx [(.var 0), (.var 2)])] [.iff (.band [(.op .notN [(.var 5)]), (.op .notIn [(.var 5), (.var 3)])]) [.seti 3 (.var 5) (.op .add [(.op .dget [(.var 3), (.var 2)]), (.con (.int 1))]),
      .app 4 (.var 5)] []]],
      .frz 3,
      .ret (.var 3)]
def n__law_far : List PySem.Str := ["rows", "held", "x", "found", "line", "y"]
def fn__law_far : Fn := ⟨2, 6, b__law_far⟩
def b_law : List S := [.ass 1 (.call 9 [(.var 0)] [] []),
      .for (.nm 2) .rng1 [(.con (.int 5))] [.tas (.tp [(.nm 7), (.nm 8)]) (.call 10 [(.var 1), (.con (.int 40))] [] []),
      .par [(9, false), (10, false)] [(.op .idx [(.var 7), (.con (.int 1))]), (.op .len [(.op .idx [(.var 7), (.con (.int 1))])])],
      .par [(11, false), (12, false)] [(.op .tuple [(.call 11 [(.var 9), (.var 8)] [] [])]), (.call 12 [(.var 9), (.var 8)] [] [])],
      .iff (.bor [(.op .ne [(.call 5 [(.var 7), (.var 8)] [] []), (.var 11)]), (.op .ne [(.call 13 [(.var 7), (.var 8)] [] []), (.op .tuple [(.comp (.nm 3) .rng1 [(.var 10)] [(.op .notIn [(.var 3), (.var 11)])] (.var 3))])]), (.op (.notB true) [(.call 3 [(.var 7)] [] [])]), (.op (.notB true) [(.call 14 [(.var 7), (.var 8)] [] [])])]) [.ret (.con (.bl false))] [],
      .iff (.op .gt [(.var 10), (.con (.int 0))]) [.ass 13 (.comp (.nm 21) .rng1 [(.con (.int 3))] [] (.call 6 [(.var 1), (.var 10)] [] [])),
      .ass 14 (.op .tuple [(.op .setSort [(.op .catAll [(.comp (.nm 3) .seq [(.var 13)] [] (.op .list [(.call 15 [(.var 7), (.var 3)] [] [])]))])])]),
      .iff (.bor [(.op .ne [(.call 16 [(.var 7), (.op .idx [(.var 13), (.con (.int 0))]), (.op .idx [(.var 13), (.con (.int 1))]), (.op .idx [(.var 13), (.con (.int 2))])] [] []), (.var 14)]), (.op .ne [(.call 17 [(.var 7), (.op .idx [(.var 13), (.con (.int 2))]), (.op .idx [(.var 13), (.con (.int 2))]), (.op .idx [(.var 13), (.con (.int 0))]), (.op .idx [(.var 13), (.con (.int 1))]), (.op .idx [(.var 13), (.con (.int 0))])] [] []), (.var 14)]), (.op .ne [(.var 14), (.op .tuple [(.call 11 [(.var 9), (.var 13)] [] [])])])]) [.ret (.con (.bl false))] []] [],
      .iff (.bor [(.op .ne [(.call 18 [(.var 7)] [] []), (.tup [])]), (.op .ne [(.call 5 [(.var 7), (.op .add [(.var 8), (.slc (.var 8) [] [(.op .sub [(.con (.int 6)), (.op .len [(.var 8)])])])])] [] []), (.var 11)])]) [.ret (.con (.bl false))] [],
      .for (.nm 3) .seq [(.slc (.call 20 [(.var 1), (.op .listRange [(.var 10)])] [] []) [] [(.con (.int 8))])] [.ass 15 (.call 19 [(.var 7), (.var 8), (.var 3)] [] []),
      .iff (.op .ne [(.op .isN [(.var 15)]), (.op .notIn [(.var 3), (.var 12)])]) [.ret (.con (.bl false))] [],
      .iff (.op .notN [(.var 15)]) [.par [(22, false), (23, true)] [(.op .idx [(.var 8), (.op .idx [(.var 15), (.con (.int 0))])]), (.lst [(.con (.int 1))])],
      .for (.nm 19) .seq [(.slc (.var 15) [(.con (.int 1))] [])] [.ass 22 (.op .idx [(.op .idx [(.var 9), (.var 22)]), (.var 19)]),
      .app 23 (.op .dget [(.var 12), (.var 22)])],
      .iff (.bor [(.op .ne [(.var 22), (.var 3)]), (.op .ne [(.op .len [(.var 15)]), (.op .dget [(.var 12), (.var 3)])]), (.op .ne [(.var 23), (.op .listRange [(.con (.int 1)), (.op .add [(.op .dget [(.var 12), (.var 3)]), (.con (.int 1))])])])]) [.ret (.con (.bl false))] []] []],
      .ass 4 (.call 7 [(.var 1), (.lst [(.var 10), (.op .neg [(.con (.int 1))]), (.con .non), (.con (.bl true)), (.con (.str "0")), (.tup [(.con (.int 0))]), (.op .pow [(.con (.int 10)), (.con (.int 20))])])] [] []),
      .iff (.op .ne [(.heard 0 (.call 19 [(.var 7), (.var 8), (.var 4)] [] [])), (.tup [(.con (.str "object")), (.var 4)])]) [.ret (.con (.bl false))] [],
      .iff (.op .eq [(.var 10), (.con (.int 4))]) [.own 16 (.lst []),
      .for (.nm 17) .seq [(.var 9)] [.ass 20 (.op .maxL [(.op .add [(.comp (.tp [(.nm 19), (.nm 25)]) .enum [(.var 17)] [(.op .notN [(.var 25)])] (.op .add [(.var 19), (.con (.int 1))])), (.lst [(.con (.int 0))])])]),
      .app 16 (.call 7 [(.var 1), (.lst [(.op .list [(.slc (.var 17) [] [(.var 20)])]), (.op .tuple [(.slc (.var 17) [] [(.var 20)])]), (.var 17)])] [] [])],
      .ass 18 (.op .maxL [(.op .add [(.lst [(.con (.int 1))]), (.comp (.nm 17) .seq [(.var 16)] [] (.op .len [(.var 17)]))])]),
      .iff (.bor [(.op .ne [(.call 21 [(.op .idx [(.var 16), (.con (.int 0))]), (.op .idx [(.var 16), (.con (.int 1))]), (.op .idx [(.var 16), (.con (.int 2))]), (.op .idx [(.var 16), (.con (.int 3))])] [] [(.op .idx [(.var 7), (.con (.int 0))])]), (.var 7)]), (.band [(.op .eq [(.var 18), (.op .idx [(.var 7), (.con (.int 0))])]), (.op .ne [(.call 22 [(.op .idx [(.var 16), (.con (.int 0))]), (.op .idx [(.var 16), (.con (.int 1))]), (.op .idx [(.var 16), (.con (.int 2))]), (.op .idx [(.var 16), (.con (.int 3))])] [] []), (.var 7)])])]) [.ret (.con (.bl false))] [],
      .frz 16,
      .for (.nm 4) .seq [(.tup [(.con (.int 0)), (.con (.int 5)), (.con (.bl true)), (.con (.str "2")), (.op .sub [(.var 18), (.con (.int 1))])])] [.iff (.band [(.op .ne [(.comp (.nm 17) .seq [(.var 16)] [(.op .gt [(.op .len [(.var 17)]), (.op .sub [(.var 18), (.con (.int 1))])])] (.op .len [(.var 17)])), (.lst [])]), (.op .ne [(.heard 0 (.call 21 [(.op .idx [(.var 16), (.con (.int 0))]), (.op .idx [(.var 16), (.con (.int 1))]), (.op .idx [(.var 16), (.con (.int 2))]), (.op .idx [(.var 16), (.con (.int 3))])] [] [(.var 4)])), (.tup [(.con (.str "heap"))])])]) [.ret (.con (.bl false))] []]] [],
      .own 5 (.lst [(.tup [(.op .idx [(.var 7), (.con (.int 0))]), (.op .list [(.var 9)])]), (.lst [(.op .idx [(.var 7), (.con (.int 0))]), (.var 9)]), (.tup [(.op .idx [(.var 7), (.con (.int 0))])]), (.tup [(.op .idx [(.var 7), (.con (.int 0))]), (.var 9), (.con (.int 0))]), (.tup [(.con (.bl true)), (.var 9)]), (.tup [(.op .idx [(.var 7), (.con (.int 0))]), (.op .add [(.var 9), (.tup [(.op .mul [(.tup [(.con .non)]), (.op .add [(.op .idx [(.var 7), (.con (.int 0))]), (.con (.int 1))])])])])])]),
      .app 5 (.tup [(.op .idx [(.var 7), (.con (.int 0))]), (.op .add [(.var 9), (.tup [(.op .add [(.tup [(.op .add [(.var 10), (.con (.int 1))])]), (.op .mul [(.tup [(.con .non)]), (.op .sub [(.op .idx [(.var 7), (.con (.int 0))]), (.con (.int 1))])])])])])]),
      .own 5 (.op .add [(.var 5), (.lst [(.tup [(.op .idx [(.var 7), (.con (.int 0))]), (.op .add [(.var 9), (.tup [(.op .mul [(.tup [(.con (.bl false))]), (.op .idx [(.var 7), (.con (.int 0))])])])])]), (.tup [(.op .idx [(.var 7), (.con (.int 0))]), (.op .add [(.var 9), (.tup [(.op .mul [(.lst [(.con .non)]), (.op .idx [(.var 7), (.con (.int 0))])])])])]), (.tup [(.op .idx [(.var 7), (.con (.int 0))]), (.op .mul [(.tup [(.op .mul [(.tup [(.con .non)]), (.op .idx [(.var 7), (.con (.int 0))])])]), (.con (.int 41))])]), (.tup [(.con (.int 5)), (.tup [])]), (.tup [(.con (.int 0)), (.tup [])]), (.con .non)])]),
      .iff (.bor [(.op .ne [(.comp (.nm 24) .seq [(.var 5)] [(.op (.notB false) [(.call 3 [(.var 24)] [] [])])] (.var 24)), (.lst [])]), (.op (.notB true) [(.call 3 [(.tup [(.op .idx [(.var 7), (.con (.int 0))]), (.op .mul [(.tup [(.op .mul [(.tup [(.con .non)]), (.op .idx [(.var 7), (.con (.int 0))])])]), (.con (.int 40))])])] [] [])])]) [.ret (.con (.bl false))] [],
      .ass 6 (.lst [(.tup []), (.op .add [(.var 8), (.op .mul [(.tup [(.con .non)]), (.op .sub [(.con (.int 7)), (.op .len [(.var 8)])])])]), (.op .add [(.slc (.var 8) [] [(.op .neg [(.con (.int 1))])]), (.tup [(.var 10)])]), (.op .add [(.slc (.var 8) [] [(.op .neg [(.con (.int 1))])]), (.tup [(.op .neg [(.con (.int 1))])])]), (.op .add [(.slc (.var 8) [] [(.op .neg [(.con (.int 1))])]), (.tup [(.con (.bl true))])]), (.op .list [(.var 8)]), (.con .non), (.op .add [(.slc (.var 8) [] [(.op .neg [(.con (.int 1))])]), (.tup [(.con (.str "0"))])])]),
      .iff (.bor [(.op .ne [(.comp (.nm 24) .seq [(.var 6)] [(.op (.notB false) [(.call 14 [(.var 7), (.var 24)] [] [])])] (.var 24)), (.lst [])]), (.op (.notB true) [(.call 14 [(.var 7), (.op .mul [(.tup [(.con .non)]), (.con (.int 6))])] [] [])])]) [.ret (.con (.bl false))] []],
      .ret (.band [(.op .eq [(.call 23 [] [] [(.con (.int 3))]), (.tup [(.con (.int 3)), (.tup [])])]), (.op .eq [(.call 24 [] [] []), (.tup [(.con (.int 1)), (.tup [])])]), (.op .eq [(.call 25 [(.lst []), (.tup []), (.lst [(.con (.int 0))])] [] []), (.tup [(.con (.int 1)), (.tup [(.tup [(.con .non)]), (.tup [(.con .non)]), (.tup [(.con (.int 0))])])])])])]
def n_law : List PySem.Str := ["script", "pen", "turn", "x", "odd", "wrong", "bad", "heap", "held", "rows", "many", "due", "far", "some", "union", "path", "told", "row", "wide", "f", "last", "lap", "here", "ways", "one", "y"]
def fn_law : Fn := ⟨1, 26, b_law⟩
def fnL : List Fn := [fn_is_between, fn_is_held, fn_is_heap, fn_is_registers, fn_padded, fn_make_heap, fn_reach_from, fn_reachable, fn_unreachable, fn_path_to, fn__law_pen, fn__law_pick, fn__law_mixed, fn__law_reach, fn__law_rows, fn__law_world, fn__law_draw, fn__law_far, fn_law]
def ckL : List (PySem.Str × CK) := [("is_between", ⟨0, 3, false, [], [.at 0, .at 1, .at 2]⟩),
  ("is_held", ⟨1, 2, false, [], [.at 0, .at 1]⟩),
  ("padded", ⟨4, 2, false, [], [.at 0, .at 1]⟩),
  ("is_heap", ⟨2, 1, false, [], [.at 0]⟩),
  ("reach_from", ⟨6, 1, true, [], [.at 0, .rest 1]⟩),
  ("reachable", ⟨7, 2, false, [], [.at 0, .at 1]⟩),
  ("_law_draw", ⟨16, 2, false, [], [.at 0, .at 1]⟩),
  ("_law_pick", ⟨11, 2, false, [], [.at 0, .at 1]⟩),
  ("_law_rows", ⟨14, 3, false, [], [.at 0, .at 1, .at 2]⟩),
  ("_law_pen", ⟨10, 1, false, [], [.at 0]⟩),
  ("_law_world", ⟨15, 2, false, [], [.at 0, .at 1]⟩),
  ("_law_reach", ⟨13, 2, false, [], [.at 0, .at 1]⟩),
  ("_law_far", ⟨17, 2, false, [], [.at 0, .at 1]⟩),
  ("unreachable", ⟨8, 2, false, [], [.at 0, .at 1]⟩),
  ("is_registers", ⟨3, 2, false, [], [.at 0, .at 1]⟩),
  ("reach_from", ⟨6, 2, false, [], [.at 0, .rest 1]⟩),
  ("reach_from", ⟨6, 4, false, [], [.at 0, .rest 1]⟩),
  ("reach_from", ⟨6, 6, false, [], [.at 0, .rest 1]⟩),
  ("reach_from", ⟨6, 1, false, [], [.at 0, .rest 1]⟩),
  ("path_to", ⟨9, 3, false, [], [.at 0, .at 1, .at 2]⟩),
  ("_law_mixed", ⟨12, 2, false, [], [.at 0, .at 1]⟩),
  ("make_heap", ⟨5, 4, false, ["width"], [.kw 0, .rest 0]⟩),
  ("make_heap", ⟨5, 4, false, [], [.dfl .non, .rest 0]⟩),
  ("make_heap", ⟨5, 0, false, ["width"], [.kw 0, .rest 0]⟩),
  ("make_heap", ⟨5, 0, false, [], [.dfl .non, .rest 0]⟩),
  ("make_heap", ⟨5, 3, false, [], [.dfl .non, .rest 0]⟩)]
def conL : List (PySem.Str × T) := [("LEAST_WIDTH", (.int 1)), ("MOST_WIDTH", (.int 4)), ("MOST_OBJECTS", (.int 40)), ("MOST_REGISTERS", (.int 6))]
def order : List (Nat × Nat) := [(0, 25), (1, 26), (2, 27), (3, 28), (4, 29), (5, 30), (6, 32), (7, 33), (8, 34), (9, 35), (10, 37), (11, 38), (12, 39), (13, 40), (14, 41), (15, 42), (16, 44), (17, 45), (18, 46)]

def clH : HCl := [(["InvalidStep"], .t [.s "step", .f "index", .f "reason"]),
  (["InvalidCertificate"], .t [.s "certificate", .f "reason"]),
  (["InvalidEntry", "InvalidRegisters", "InvalidChange"], .t [.i "InvalidEntry" (.s "entry") (.i "InvalidRegisters" (.s "registers") (.s "change")), .f "index"]),
  (["InvalidFresh", "InvalidRoots", "InvalidGoal"], .t [.i "InvalidFresh" (.s "fresh") (.i "InvalidRoots" (.s "roots") (.s "goal")), .f "value"]),
  (["ParseError"], .t [.s "parse", .f "line", .f "word"]),
  (["NoObject", "NoInvariant"], .i "NoObject" (.t [.s "object", .f "index"]) (.t [.s "invariant", .f "name"])),
  (["NothingToUndo", "TooMany", "UnknownCommand"], .i "NothingToUndo" (.t [.s "undo", .f "count"]) (.i "TooMany" (.t [.s "many", .f "limit"]) (.t [.s "command", .f "command"]))),
  (["InvalidHeap", "InvalidState", "Started", "Mismatch"], .t [.i "InvalidHeap" (.s "heap") (.i "InvalidState" (.s "state") (.i "Started" (.s "started") (.s "mismatch")))])]
def nmH1 : List PySem.Str := ["InvalidStep", "InvalidCertificate", "InvalidEntry", "InvalidRegisters", "InvalidChange", "InvalidFresh", "InvalidRoots", "InvalidGoal", "ParseError"]
def nmH2 : List PySem.Str := ["NoObject", "NoInvariant", "NothingToUndo", "TooMany", "UnknownCommand", "InvalidHeap", "InvalidState", "Started", "Mismatch"]
def nmH : List PySem.Str := nmH1 ++ nmH2
def flT : List (PySem.Str × List PySem.Str) := [("InvalidEntry", ["index"]), ("InvalidFresh", ["value"]), ("InvalidRoots", ["value"]), ("InvalidRegisters", ["index"]), ("InvalidStep", ["index", "reason"]), ("InvalidCertificate", ["reason"]), ("InvalidChange", ["index"]), ("InvalidGoal", ["value"]), ("ParseError", ["line", "word"]), ("UnknownCommand", ["command"]), ("NoObject", ["index"]), ("NoInvariant", ["name"]), ("NothingToUndo", ["count"]), ("TooMany", ["limit"])]
def flF (c : PySem.Str) : List PySem.Str := (flT.lookup c).getD []
def WN : Nat := 100000
def tqL : PySem.Str := (("law" : PySem.Str) ++ ".<locals>.") ++ "<lambda>"
def prg (P : Addr) : Prg := ⟨fnL, ckL.map (·.2), hearF nmH flF clH P tqL, WN⟩
end C
end
/-! QHX2 -/
section
set_option linter.all false
set_option maxRecDepth 100000
set_option maxHeartbeats 4000000
namespace Q
open PySem PySem.Spec PyProof.Rows L2
theorem pe_ofGlob {X : Cx} {x : PySem.Str} {C : Addr} {p : Pos} (hg : Gl X x) (hm : X.mg x = some (.ref C)) (hd : (x == ("__debug__" : PySem.Str)) = false) : PE X (.Name x p) (tC (.ref C)) :=
  ⟨fun pins s σ H Q I h => ld_glob I hg hm ⟨.ref C, H, I, rfl, h⟩ hd⟩
theorem okNm_d {x : PySem.Str} (h : okNm x = true) : (x == ("__debug__" : PySem.Str)) = false := by
  unfold okNm at h
  rw [Bool.and_eq_true] at h
  exact beq_iff_eq.mp h.1
theorem nmG_ok {sc : Scope} {names : List PySem.Str} {c : PySem.Str} (h : nmG sc names c = true) : sc.names.lookup c = some .globalImplicit ∧ (c == ("__debug__" : PySem.Str)) = false ∧ c ∈ names := by
  unfold nmG at h
  rw [Bool.and_eq_true, Bool.and_eq_true] at h
  exact ⟨of_decide_eq_true h.1.1, okNm_d h.1.2, of_decide_eq_true h.2⟩
theorem evHXs_len {fl : PySem.Str → List PySem.Str} {x : Exn} : ∀ {l : List HX} {ts : List T}, evHXs fl x l = some ts → ts.length = l.length
  | [], ts, h => by unfold evHXs at h; cases h; rfl
  | a :: l, ts, h => by
    unfold evHXs at h
    split at h
    · rename_i h1 h2
      cases h
      exact congrArg (· + 1) (evHXs_len h2)
    · cases h
section
variable {X : Cx} {a : Addr} {oe : Obj} {cls : Value} {d : Option Addr} {pn : List (Addr × Obj)} {xi : XI} {names : List PySem.Str} {sc : Scope}
def tHXs (K : PySem.W.Frag) (xi : XI) (names : List PySem.Str) (a : Addr) (cls : Value) (d : Option Addr) (l : List HX) : TA := fun σ H Q => ∃ x F as st ts, AtX K xi names a cls d x F as st σ H ∧ evHXs xi.fl x l = some ts ∧ PostEs K F as H ts st Q
mutual
theorem pe_hx (hN : X.N[2]? = some ("error" : PySem.Str)) (hv : sc.names.lookup ("error" : PySem.Str) = some NameKind.local) (es : X.env.scope = sc) (gi : sc.names.lookup ("isinstance" : PySem.Str) = some NameKind.globalImplicit) (O : HxOk X.K X.mg xi names) (hz : Zc cls d oe) (hf : ∃ vs, oe.data = .fields vs) : ∀ {h : HX} {ex : Expr}, chkHX sc names h ex = true →
    PE (X.suite a ((a, oe) :: pn)) ex (tHX X.K xi names a cls d h)
  | .s z, ex, h => by
    unfold chkHX at h
    obtain ⟨j, p, rfl⟩ := asStrC_some (of_decide_eq_true h)
    refine PE.imp pe_str fun σ H Q q => ?_
    obtain ⟨x, F, as, st, t, A, e, p⟩ := q
    unfold evHX at e
    cases e
    exact A.post (.str _) p
  | .f n, ex, h => by
    unfold chkHX at h
    obtain ⟨p, q, rfl⟩ := asErrF_some (of_decide_eq_true h)
    exact pe_hxf hN (.inl (es ▸ hv)) O hz hf
  | .i c b1 b2, ex, h => by
    unfold chkHX at h
    split at h
    · rename_i d0 y z e1
      obtain ⟨p1, p2, p3, p4, p5, rfl⟩ := asIsX_some e1
      simp only [Bool.and_eq_true] at h
      obtain ⟨⟨⟨h1, h2⟩, h3⟩, h4⟩ := h
      have h1 := of_decide_eq_true h1
      subst h1
      obtain ⟨n1, n2, n3⟩ := nmG_ok h2
      obtain ⟨mc, _⟩ := O.cls c n3
      have pc : PE (X.suite a ((a, oe) :: pn)) (.Name c p3) (tC (.ref (xi.cA c))) := pe_ofGlob (show Gl (X.suite a ((a, oe) :: pn)) c from by show X.env.scope.names.lookup c = _; rw [es]; exact n1) mc n2
      have pi := pe_callB (X := X.suite a ((a, oe) :: pn)) (p := p1) (pos := p4) (call_isX O hz hf n3) (show Gl (X.suite a ((a, oe) :: pn)) ("isinstance" : PySem.Str) from by show X.env.scope.names.lookup _ = _; rw [es]; exact gi) O.isi PyProof.Rows.boot_isinstance
        (pa_cons (pe_err (X := X.suite a ((a, oe) :: pn)) (p := p2) hN (.inl (es ▸ hv))) (pa_cons pc pa_nil))
      refine PE.imp (pe_ifExp (pt_truth pi fun _ => rfl) (pe_hx hN hv es gi O hz hf h3) (pe_hx hN hv es gi O hz hf h4)) fun σ H Q q => ?_
      obtain ⟨x, F, as, st, t, A, e, p⟩ := q
      refine ⟨.ref a, A.slot, x, F, as, st, σ, rfl, A, decide (x.cls = c), rfl, ?_⟩
      unfold evHX at e
      show if decide (x.cls = c) = true then tHX X.K xi names a cls d b1 σ H Q else tHX X.K xi names a cls d b2 σ H Q
      by_cases hc : x.cls = c
      · rw [if_pos (decide_eq_true hc)]
        rw [if_pos hc] at e
        exact ⟨x, F, as, st, t, A, e, p⟩
      · rw [if_neg (by simpa using hc)]
        rw [if_neg hc] at e
        exact ⟨x, F, as, st, t, A, e, p⟩
    · cases h
  | .t l, ex, h => by
    unfold chkHX at h
    split at h
    · rename_i xs e1
      obtain ⟨k, p, rfl⟩ := asTup_some e1
      rw [Bool.and_eq_true] at h
      refine PE.imp (pe_tup (pa_hxs hN hv es gi O hz hf h.2 h.1)) fun σ H Q q => ?_
      obtain ⟨x, F, as, st, t, A, e, p⟩ := q
      unfold evHX at e
      split at e
      · rename_i hl
        obtain ⟨ts, e1, rfl⟩ := Option.map_eq_some_iff.mp e
        refine ⟨x, F, as, st, ts, A, e1, fun F' as' H' vs n s So r => ⟨?_, fun b hb => ?_⟩⟩
        · have := r.length
          rw [evHXs_len e1] at this
          rw [sizeLine_eq]; omega
        · have hz : vs.length ≤ sizeLine := by
            have := r.length
            rw [evHXs_len e1] at this
            rw [sizeLine_eq]; omega
          exact ((p.fr false).nxt n).tup s So r hz b hb
      · cases e
    · cases h
theorem pa_hxs (hN : X.N[2]? = some ("error" : PySem.Str)) (hv : sc.names.lookup ("error" : PySem.Str) = some NameKind.local) (es : X.env.scope = sc) (gi : sc.names.lookup ("isinstance" : PySem.Str) = some NameKind.globalImplicit) (O : HxOk X.K X.mg xi names) (hz : Zc cls d oe) (hf : ∃ vs, oe.data = .fields vs) : ∀ {l : List HX} {xs : List Expr}, chkHXs sc names l xs = true → xs.all notStar = true →
    PA (X.suite a ((a, oe) :: pn)) xs (tHXs X.K xi names a cls d l)
  | [], xs, h, _ => by
    cases xs with
    | cons y ys => unfold chkHXs at h; cases h
    | nil =>
      refine PA.imp pa_nil fun σ H Q q => ?_
      obtain ⟨x, F, as, st, ts, A, e, p⟩ := q
      unfold evHXs at e
      cases e
      exact p F as H [] (Nxt.refl _ _ _) A.sub A.sto .nil
  | h :: l, xs, e, q => by
    cases xs with
    | nil => unfold chkHXs at e; cases e
    | cons y ys =>
      unfold chkHXs at e
      rw [Bool.and_eq_true] at e
      rw [List.all_cons, Bool.and_eq_true] at q
      refine PA.imp (pa_cons (pe_hx hN hv es gi O hz hf e.1) (pa_hxs hN hv es gi O hz hf e.2 q.2) (star1 q.1)) fun σ H Q w => ?_
      obtain ⟨x, F, as, st, ts, A, ev, p⟩ := w
      unfold evHXs at ev
      split at ev
      · rename_i t0 ts0 e1 e2
        cases ev
        refine ⟨x, F, as, st, t0, A, e1, fun F1 as1 H1 v n s So r => ⟨x, F1, as1, st, ts0, A.nxt n s So, e2, fun F2 as2 H2 vs n2 s2 So2 r2 => ?_⟩⟩
        exact p F2 as2 H2 (v :: vs) (n.trans n2) s2 So2 (.cons (r.mono n2.ff n2.pre) r2)
      · cases ev
end
theorem isComp_hx {h : HX} {ex : Expr} (e : chkHX sc names h ex = true) : isCompE ex = false := by
  cases h with
  | s z => unfold chkHX at e; obtain ⟨j, p, rfl⟩ := asStrC_some (of_decide_eq_true e); rfl
  | f n => unfold chkHX at e; obtain ⟨p, q, rfl⟩ := asErrF_some (of_decide_eq_true e); rfl
  | i c b1 b2 =>
    unfold chkHX at e
    split at e
    · rename_i e1; obtain ⟨p1, p2, p3, p4, p5, rfl⟩ := asIsX_some e1; rfl
    · cases e
  | t l =>
    unfold chkHX at e
    split at e
    · rename_i e1; obtain ⟨k, p, rfl⟩ := asTup_some e1; rfl
    · cases e
/-- found = .. -/
def tFnd (K : PySem.W.Frag) (xi : XI) (names : List PySem.Str) (h : HX) : Addr → Value → Option Addr → TS := fun a cls d => tAsg (tHX K xi names a cls d h) (gName 1)
theorem ps_fnd (nd : X.N.Nodup) (hN1 : X.N[1]? = some ("found" : PySem.Str)) (hv1 : sc.names.lookup ("found" : PySem.Str) = some NameKind.local) (hN : X.N[2]? = some ("error" : PySem.Str)) (hv : sc.names.lookup ("error" : PySem.Str) = some NameKind.local) (es : X.env.scope = sc) (gi : sc.names.lookup ("isinstance" : PySem.Str) = some NameKind.globalImplicit) (O : HxOk X.K X.mg xi names) (hz : Zc cls d oe) (hf : ∃ vs, oe.data = .fields vs) {h : HX} {ex : Expr} {p q : Pos} (hc : chkHX sc names h ex = true) :
    PSs (X.suite a ((a, oe) :: pn)) [.Assign [.Name ("found" : PySem.Str) p] ex q] (tFnd X.K xi names h a cls d) :=
  pss_one (ps_set (X := X.suite a ((a, oe) :: pn)) (i := 1) nd hN1 (.inl (by show X.env.scope.names.lookup _ = _; rw [es]; exact hv1)) (pe_hx hN hv es gi O hz hf hc) (swaps_no (isComp_hx hc)) (.inr (by show X.env.scope.names.lookup _ = _; rw [es]; exact hv1)))
/-- the clauses -/
def claOf (K : PySem.W.Frag) (xi : XI) (names : List PySem.Str) (cl : HCl) : List Cla := cl.map fun c => (c.1.map fun x => .ref (xi.cA x), tFnd K xi names c.2)
theorem names_of {c : PySem.Str} (es : X.env.scope = sc) (O : HxOk X.K X.mg xi names) (h : nmG sc names c = true) (a : Addr) (pn : List (Addr × Obj)) : Names (X.suite a pn) c (.ref (xi.cA c)) := by
  obtain ⟨n1, n2, n3⟩ := nmG_ok h
  exact ⟨by show X.env.scope.names.lookup c = _; rw [es]; exact n1, n2, .inl (O.cls c n3).1⟩
theorem tst_of (es : X.env.scope = sc) (O : HxOk X.K X.mg xi names) {cs : List PySem.Str} {tx : Expr} (h : chkTst sc names cs tx = true) (a : Addr) (pn : List (Addr × Obj)) : Tst (X.suite a pn) tx (cs.map fun x => .ref (xi.cA x)) := by
  unfold chkTst at h
  split at h
  · simp only [Bool.and_eq_true, decide_eq_true_eq] at h
    obtain ⟨rfl, h1⟩ := h
    exact .one (names_of es O h1 a pn)
  · simp only [Bool.and_eq_true, decide_eq_true_eq] at h
    obtain ⟨⟨rfl, h1⟩, rfl, h2⟩ := h
    exact .two (names_of es O h1 a pn) (names_of es O h2 a pn)
  · simp only [Bool.and_eq_true, decide_eq_true_eq] at h
    obtain ⟨⟨⟨rfl, h1⟩, rfl, h2⟩, rfl, h3⟩ := h
    exact .three (names_of es O h1 a pn) (names_of es O h2 a pn) (names_of es O h3 a pn)
  · simp only [Bool.and_eq_true, decide_eq_true_eq] at h
    obtain ⟨⟨⟨⟨rfl, h1⟩, rfl, h2⟩, rfl, h3⟩, rfl, h4⟩ := h
    exact .four (names_of es O h1 a pn) (names_of es O h2 a pn) (names_of es O h3 a pn) (names_of es O h4 a pn)
  · cases h
theorem hds_of (nd : X.N.Nodup) (hN1 : X.N[1]? = some ("found" : PySem.Str)) (hv1 : sc.names.lookup ("found" : PySem.Str) = some NameKind.local) (hN : X.N[2]? = some ("error" : PySem.Str)) (hv : sc.names.lookup ("error" : PySem.Str) = some NameKind.local) (es : X.env.scope = sc) (gi : sc.names.lookup ("isinstance" : PySem.Str) = some NameKind.globalImplicit) (O : HxOk X.K X.mg xi names) :
    ∀ {cl : HCl} {hs : List ExceptHandler}, chkCl sc names cl hs = true → HdsAs X "error" hs (claOf X.K xi names cl)
  | [], [], h => .nil
  | [], _ :: _, h => by unfold chkCl at h; cases h
  | _ :: _, [], h => by unfold chkCl at h; cases h
  | (cs, x) :: cl, y :: hs, h => by
    unfold chkCl at h
    rw [Bool.and_eq_true] at h
    obtain ⟨h1, h5⟩ := h
    split at h1
    · rename_i tx ex e1
      obtain ⟨p, q, r, rfl⟩ := asCl_some e1
      rw [Bool.and_eq_true] at h1
      exact .cons (fun a pn => tst_of es O h1.1 a pn) (fun a oe cls d pn hz hf => ps_fnd nd hN1 hv1 hN hv es gi O hz hf h1.2) (hds_of nd hN1 hv1 hN hv es gi O h5)
    · cases h1
/-- an error that the clauses take: the wish of the clauses, by its meaning -/
theorem wall_of {K : PySem.W.Frag} {mg : PySem.Str → Option Value} (O : HxOk K mg xi names) {x : Exn} {F H : Hp} {as : List Addr} {st : Store} {σ : L2.St} {D : Ends} (hx : x.cls ∈ names) (sF : Sub F H) (So : Sto K F as st H) (r : XRep K xi.cA xi.fl F as H cls d x) (h2 : 2 < σ.length) :
    ∀ {cl : HCl} {t : T}, (∀ c ∈ cl, ∀ n ∈ c.1, n ∈ names) → evCl xi.fl x cl = some t → Post K F as H t st (fun v H' => ∀ a, D.nx (((σ.set 2 (some (.ref a))).set 1 (some v)).set 2 none) H') → wAll K (fun _ _ _ _ => False) D 2 (claOf K xi names cl) cls d σ H
  | [], t, _, e, _ => by cases e
  | (cs, h) :: cl, t, hm, e, p => by
    unfold evCl at e
    have ec : cls = .ref (xi.cA x.cls) := r.1
    refine ⟨decide (x.cls ∈ cs), by rw [ec]; exact O.any hx cs fun c hc => hm _ List.mem_cons_self c hc, fun q a na => ?_, fun q => ?_⟩
    · rw [if_pos (of_decide_eq_true q)] at e
      have A : AtX K xi names a cls d x F as st (σ.set 2 (some (.ref a))) H := ⟨by rw [List.getElem?_set_self h2], sF, So, r, hx⟩
      exact ⟨x, F, as, st, t, A, e, fun F' as' H' v n s So' r' => p F' as' H' v n s So' r' a⟩
    · rw [if_neg (of_decide_eq_false q)] at e
      exact wall_of O hx sF So r h2 (fun c hc => hm c (List.mem_cons_of_mem _ hc)) e p
end
end Q
end
/-! QLam -/
section
set_option linter.all false
set_option maxRecDepth 100000
set_option maxHeartbeats 4000000
namespace Q
open PySem PySem.Spec PyProof.Rows L2
/-! ### a lambda is made: what is told of the heap behind it -/
inductive Made (P : Addr) (q : PySem.Str) (H : Hp) (ps : Array Value) : Hp → Addr → Prop
  | old {c' : Addr} : Made P q H ps H c'
  | new {c' : Addr} {more : Array Value} : H c' = none → TriplesOk (ps ++ more).toList → (∀ pos cv, codeAmong pos (ps ++ more).toList = some cv → codeAmong pos ps.toList = some cv ∨ cv = .ref c') → Made P q H ps (upd (upd H P (.tbl (ps ++ more))) c' (LamX.CodeO c' q)) c'
/-- the table as the heap has it -/
structure TabN (P : Addr) (q : PySem.Str) (H : Hp) (ps : Array Value) : Prop where
  at_ : H P = some (.tbl ps)
  ok : TriplesOk ps.toList
  cod : ∀ (pos : Pos) (cv : Value), codeAmong pos ps.toList = some cv → ∃ c, cv = .ref c ∧ H c = some (LamX.CodeO c q)
section
variable {X : Cx} {pins : List (Addr × Obj)} {σ : L2.St} {H : Hp} {s : Shared}
theorem lam_made {c P : Addr} {ps : Array Value} {params : Arguments} {body : Expr} {scope : Scope} {pos : Pos} {E : Value → Shared → Prop} {Q : Value → Shared → Prop} (I : Inv X pins σ H s) (TB : LamX.TabB X.base X.mg c P) (hcode : X.env.code = .ref c) (TN : TabN P (X.env.qual ++ "<lambda>") H ps)
    (hdef : defaultsOf params X.env = ([], [])) (hfree : ∀ y ∈ scope.names, y.2 = .free → ∃ c, X.env.cells.lookup y.1 = some c)
    (h : ∀ (f c' : Addr) (pm ctv : Value) (H1 : Hp) (s' : Shared), Inv X pins σ H1 s' → Made P (X.env.qual ++ "<lambda>") H ps H1 c' → s'.heap.get? f = some (PySem.W.kla_obj "<lambda>" (X.env.qual ++ "<lambda>") params body scope (cloFrom X.env.cells scope.names []) pm c' ctv) → H1 f = none → f ∉ frs X.stack → H1 c' = some (LamX.CodeO c' (X.env.qual ++ "<lambda>")) → Q (.ref f) s') :
    wpAny (model X.prog X.w) X.A (eval (.Lambda params body scope pos) X.env) Q E s := by
  have bP : s.heap.BuiltinsAt X.mg P := TB.bm.keeps I.bk
  have hP2 : s.heap.get? P = some { cls := .none, data := .fields ps } := I.hok P _ TN.at_
  have out : ∀ f, s.heap.objs.size ≤ f → f ∉ frs X.stack := fun f hf z => by
    rcases List.mem_cons.mp (I.stkSub _ z) with e | e
    · exact absurd (e ▸ I.lt) (Nat.not_lt.mpr hf)
    · exact I.nofs hf e
  refine PySem.W.kla_eval hdef ?_
  cases hc : codeAmong pos ps.toList with
  | some cv =>
    obtain ⟨c', rfl, hco⟩ := TN.cod pos cv hc
    refine PySem.W.kla_makeFunctionHit (mg := X.mg) (c := c) (P := P) (ps := ps) (closure_ok hfree) I.ok.glob (I.mod.glob.keeps I.bk) hcode (TB.code.keeps I.bk) hP2 TN.ok hc bP fun ctv h' tk hx hsz => ?_
    exact h h'.objs.size c' _ ctv H _ (I.kept (t' := tk) fun b o e => Heap.get?_push_of_some _ (hx b o e)) .old (Heap.get?_push_size _ rfl) (I.hok.fresh hsz) (out _ hsz) hco
  | none =>
    refine PySem.W.kla_makeFunction (mg := X.mg) (c := c) (P := P) (ps := ps) (closure_ok hfree) I.ok.glob (I.mod.glob.keeps I.bk) hcode (TB.code.keeps I.bk) hP2 TN.ok hc TB.gP bP fun c' ctv h' tk hx hge hlt hrec htb => ?_
    obtain ⟨c2, oc, vs, t, e2, hoc, hd, hv⟩ := hrec
    cases e2
    have nC : H c' = none := I.hok.fresh hge
    have sz : s.heap.objs.size ≤ h'.objs.size := Nat.le_trans hge (Nat.le_of_lt hlt)
    have J := LamX.inv_table (t' := tk) (more := #[rawInt pos.line, rawInt pos.col, .ref c']) (h' := h'.push (PySem.W.kla_obj "<lambda>" (X.env.qual ++ "<lambda>") params body scope (cloFrom X.env.cells scope.names []) ((X.mg "__name__").getD .none) c' ctv)) I TN.at_ (fun b o hb e => Heap.get?_push_of_some _ (hx b o hb e)) (Heap.get?_push_of_some _ htb) hge ⟨oc, vs, t, Heap.get?_push_of_some _ hoc, hd, hv⟩
    have eL : (ps ++ #[rawInt pos.line, rawInt pos.col, .ref c']).toList = ps.toList ++ [rawInt pos.line, rawInt pos.col, .ref c'] := by simp
    refine h h'.objs.size c' _ ctv _ _ J (.new nC (by rw [eL]; exact PySem.TriplesOk_snoc _ _ _ _ TN.ok) fun p cv q => LamX.among_app _ TN.ok (by rw [← eL]; exact q)) (Heap.get?_push_size _ rfl) ?_ (out _ sz) upd_same
    rw [upd_ne (Nat.ne_of_gt hlt), upd_ne (Nat.ne_of_gt (Nat.lt_of_lt_of_le (Heap.lt_size hP2) sz))]
    exact I.hok.fresh sz
end
def tLamM (P : Addr) (q : PySem.Str) (TT : (XK → Hp → VK → Prop) → Hp → VK → Prop) (t : XK → TE) : TE := fun σ H Q => ∃ ps, TabN P q H ps ∧ ∀ H1 c', Made P q H ps H1 c' → H1 c' = some (LamX.CodeO c' q) → TT (fun E H2 Q2 => t E σ H2 Q2) H1 Q
section
variable {X : Cx}
/-- g(lambda: body) -/
theorem pe_lamM {TT : (XK → Hp → VK → Prop) → Hp → VK → Prop} {x a : PySem.Str} {g c P : Addr} {k : Nat} {pg : Arguments} {bg : List Stmt} {sg : Scope} {fd : FuncData} {Ng : List PySem.Str} {params : Arguments} {body : Expr} {scope : Scope} {t : XK → TE} {p lpos pos : Pos} (hg : Gl X x) (hm : X.mg x = some (.ref g))
    (FD : FunD X.K x x pg bg sg [] [] g fd) (hb : ∀ us : List Value, us.length = 1 → bindArgs fd ⟨us, []⟩ = pure ([a].zip us)) (Sg : FnScope Ng [a] sg) (hNg : Ng[0]? = some a) (hva : Vis sg a) (hG : ∀ cdg, LamX.GivesTo X Ng x sg g cdg bg a (X.env.qual ++ "<lambda>") TT)
    (TB : LamX.TabB X.base X.mg c P) (hcode : X.env.code = .ref c) (hr : Room (k + 2) X.A) (L : LamX.LamS X.env.scope scope) (hdef : defaultsOf params X.env = ([], []))
    (hbind : ∀ (q : PySem.Str) (cl : List (PySem.Str × Addr)) (pm cv ctv : Value), bindArgs (PySem.W.kla_fn "<lambda>" q params body scope cl pm cv ctv) ⟨[], []⟩ = pure [])
    (hbody : ∀ (A : Around) (outer : List PySem.Env) (s : Shared) (H : Hp) (E : XK) (f c' : Addr), Room k (A.deeper (LamX.lamEnv X scope s.heap.objs.size f c')) → PE (LamX.lamCx X A outer s H E scope f c') body (t E))
    (hdb : (x == ("__debug__" : PySem.Str)) = false) (hd : (a == ("__debug__" : PySem.Str)) = false) (hcd : (a == ("__classdict__" : PySem.Str)) = false) : PE X (.Call (.Name x p) [.Lambda params body scope lpos] [] pos) (tLamM P (X.env.qual ++ "<lambda>") TT t) := by
  obtain ⟨oc, od, dV, kV, doc, pm, an, cdv, ct, osl, rfl, lk, hcd2, _, _⟩ := FD.ex
  refine ⟨fun pins s σ H Q I h => ?_⟩
  obtain ⟨ps, TN, h⟩ := h
  refine wpAny_Call_Name_kw (ld_glob I hg hm (PySem.W.callWith_K (h₀ := X.base) I.ok.mod.kin FD.kp ?_ (by rfl) (by rfl)) hdb)
  show wpAny _ _ (spliced ((false, eval (.Lambda params body scope lpos) X.env) :: backTo pos (starEach [] X.env))) _ _ s
  refine Calls.spliced_cons (lam_made I TB hcode TN hdef (L.has I.ok) fun f c' pm' ctv H1 s' I1 md hf hfn hfr hco => Calls.spliced_nil ⟨I1.kIn, ?_⟩)
  have rc : codeAny (model X.prog X.w) X.A (.call (.ref g) ⟨[.ref f], []⟩) (CR C8.CX0 X.stack X.prog X.w H1 s' Q C8.E0) s' := by
    refine LamX.run_ofS (N := Ng) (ps := [a]) (us := [.ref f]) (vs := [.ref f]) lk hcd2 Sg hr I1.env0 (BindsTo.of_eq (hb [.ref f] rfl)) (.cons rfl .nil) rfl fun hr2 => ?_
    obtain ⟨t2, ht2, hq2⟩ := hG cdv f c' s' H1 Q (fun E H2 Q2 => t E σ H2 Q2) (fun W pn xe E p1 p2 tk hW => LamX.pe_act (i := 0) I1 L hf hfn hfr (hbind _ _ _ _ _) tk hW hr2 (fun A outer s H hr3 => hbody A outer s H E f c' hr3) hNg hva hd hcd) hco (h H1 c' md hco)
    exact ⟨t2, ht2.nox, hq2⟩
  refine wpAny_call (codeAny_mono rc fun r s2 hq => ?_)
  cases r with
  | error e => exact (show False from hq).elim
  | ok fl =>
    cases fl with
    | ret u => exact I1.after hq
    | next => exact False.elim hq
    | brk => exact False.elim hq
    | cont => exact False.elim hq
end
/-! ### the def that hears -/
abbrev dHeard (Q : VK) : Ends := { nx := fun σ H => tVar 1 σ H Q, rt := Q }
def eHeard (K : PySem.W.Frag) (xi : XI) (names : List PySem.Str) (cl : HCl) (Q : VK) : XK := fun cls d H => ∀ σ : L2.St, σ.length = 3 → wAll K (fun _ _ _ _ => False) (dHeard Q) 2 (claOf K xi names cl) cls d σ H
def qHeard (Q : VK) : VK := fun v H => [v].length ≤ sizeLine ∧ ∀ p, H p = none → Q (.ref p) (upd H p (.lst [v]))
def THeard (K : PySem.W.Frag) (xi : XI) (names : List PySem.Str) (cl : HCl) : (XK → Hp → VK → Prop) → Hp → VK → Prop := fun tl H Q => tl (eHeard K xi names cl Q) H (qHeard Q)
abbrev nHeard : List PySem.Str := ["ask", "found", "error"]
theorem takes_len {X : Cx} {W : WX} (tk : Takes X W) : Takes X (fun cls d σ H => σ.length = X.N.length → W cls d σ H) := fun u s' ⟨a, B, sI, pins, σ, H, cls, d, e, I, nb, up, sky, na, os, ag, w⟩ => tk u s' ⟨a, B, sI, pins, σ, H, cls, d, e, I, nb, up, sky, na, os, ag, w I.len⟩
theorem takes_non {X : Cx} : Takes X (fun _ _ _ _ => False) := fun _ _ ⟨_, _, _, _, _, _, _, _, _, _, _, _, _, _, _, _, w⟩ => w.elim
theorem chkHeard_some {sc : Scope} {names : List PySem.Str} {cl : HCl} {bg : List Stmt} (h : chkHeard sc names cl bg = true) : ∃ p1 j p2 p3 p4 p5 p6 p7 h0 hs p8 p9 p10, bg = [.Assign [.Name ("found" : PySem.Str) p1] (.Constant .none j p2) p3, .Try [.Return (some (.List [.Call (.Name ("ask" : PySem.Str) p4) [] [] p5] p6)) p7] (h0 :: hs) [] [] p8, .Return (some (.Name ("found" : PySem.Str) p9)) p10] ∧ chkCl sc names cl (h0 :: hs) = true := by
  unfold chkHeard at h
  split at h
  · simp only [Bool.and_eq_true, decide_eq_true_eq] at h
    obtain ⟨⟨⟨rfl, rfl⟩, rfl⟩, h4⟩ := h
    exact ⟨_, _, _, _, _, _, _, _, _, _, _, _, _, rfl, h4⟩
  · cases h
theorem heard_gives {X : Cx} {xi : XI} {names : List PySem.Str} {cl : HCl} {x q : PySem.Str} {sg : Scope} {g : Addr} {cdg : Value} {bg : List Stmt} (hc : chkHeard sg names cl bg = true) (h0 : sg.names.lookup ("ask" : PySem.Str) = some NameKind.local) (h1 : sg.names.lookup ("found" : PySem.Str) = some NameKind.local) (h2 : sg.names.lookup ("error" : PySem.Str) = some NameKind.local)
    (gi : sg.names.lookup ("isinstance" : PySem.Str) = some NameKind.globalImplicit) (O : HxOk X.K X.mg xi names) : LamX.GivesTo X nHeard x sg g cdg bg "ask" q (THeard X.K xi names cl) := by
  intro f c' s H Q tl act hco h
  obtain ⟨p1, j, p2, p3, p4, p5, p6, p7, hd0, hds, p8, p9, p10, rfl, hcl⟩ := chkHeard_some hc
  have nd : nHeard.Nodup := by decide +kernel
  let Y := (cxOf C8.CX0 X.prog X.w X.K X.mg X.base nHeard x sg g cdg X.A X.stack s H C8.E0).nox
  have hh : HdsAs Y "error" (hd0 :: hds) (claOf X.K xi names cl) := hds_of (X := Y) nd rfl h1 rfl h2 rfl gi O hcl
  refine ⟨_, pss_cons (ps_set (X := Y) (i := 1) nd rfl (.inl h1) pe_non rfl (.inr h1)) (pss_cons (ps_try_all (X := Y) (i := 2)
    (tb := fun W D σ H => ∃ Ech : XK, (∀ cls d σ' H', Ech cls d H' → σ'.length = 3 → W cls d σ' H') ∧ σ[0]? = some (some (.ref f)) ∧ H c' = some (LamX.CodeO c' q) ∧ tl Ech H (fun v H1 => [v].length ≤ sizeLine ∧ ∀ p, H1 p = none → D.rt (.ref p) (upd H1 p (.lst [v]))))
    rfl rfl nd rfl h2 takes_non (fun W pn xe tk _ => ?_) hh) (pss_one (ps_ret (pe_var (X := Y) (i := 1) rfl (.inl h1))))), ?_⟩
  · refine ⟨fun pins s' σ H' D I h' => ?_⟩
    obtain ⟨Ech, hW, k1, k2, k3⟩ := h'
    have tk2 := takes_len tk
    have hp := act (fun cls d σ H => σ.length = 3 → W cls d σ H) pn xe Ech p4 p5 tk2 (fun cls d σ' H2 e l => hW cls d σ' H2 e l)
    exact (pss_one (ps_ret (pos := p7) (pe_lst (pos := p6) (pa_cons hp pa_nil)))).run pins s' σ H' D I ⟨k1, k2, k3⟩
  · exact ⟨eHeard X.K xi names cl Q, fun cls d σ' H' e l => e σ' l, rfl, hco, h⟩
end Q
end
/-! QHear -/
section
set_option linter.all false
set_option maxRecDepth 100000
set_option maxHeartbeats 4000000
namespace Q
open PySem PySem.Spec PyProof.Rows L2
abbrev heardN : PySem.Str := "_law_heard"
def asHear : Expr → Option (Arguments × Expr × Scope)
  | .Call (.Name x _) [.Lambda params body scope _] [] _ => if x = heardN then some (params, body, scope) else none
  | _ => none
theorem asHear_some {e : Expr} {a : Arguments} {b : Expr} {s : Scope} (h : asHear e = some (a, b, s)) : ∃ p q r, e = .Call (.Name heardN p) [.Lambda a b s q] [] r := by
  unfold asHear at h
  split at h
  · split at h
    · rename_i z; cases h; rw [z]; exact ⟨_, _, _, rfl⟩
    · cases h
  · cases h
def noArgs : Arguments → Bool
  | ⟨[], [], none, [], [], none, []⟩ => true
  | _ => false
theorem noArgs_ok {a : Arguments} (h : noArgs a = true) : a = ⟨[], [], none, [], [], none, []⟩ := by
  unfold noArgs at h
  split at h
  · rfl
  · cases h
def lamK (Γ : Sc) (scope : Scope) : Bool :=
  decide (scope.kind = .function) && !scope.isCoroutine && !scope.isGenerator && scope.names.all fun y => !decide (y.2 = .local) && !decide (y.2 = .cell) && (!decide (y.2 = .free) || decide (Γ.kind y.1 = some .cell) || decide (Γ.kind y.1 = some .free))
def hsynL (Γ : Sc) (g : Nat) (ex : Expr) : Option (Sc × Expr) := match asHear ex with
  | some (params, body, scope) => if g = 0 ∧ noArgs params = true ∧ Γ.lam = true ∧ Γ.hr = true ∧ Γ.gl heardN = true ∧ lamK Γ scope = true then some (⟨Γ.N, fun x => scope.names.lookup x, true, false, false⟩, body) else none
  | none => none
theorem lamK_ok {Γ : Sc} {W : WX} {X : Cx} {scope : Scope} (G : XG Γ W X) (h : lamK Γ scope = true) : LamX.LamS X.env.scope scope := by
  unfold lamK at h
  simp only [Bool.and_eq_true, Bool.or_eq_true, Bool.not_eq_true', decide_eq_true_eq, decide_eq_false_iff_not, List.all_eq_true] at h
  obtain ⟨⟨⟨h1, h2⟩, h3⟩, h4⟩ := h
  refine ⟨h1, h2, h3, fun y hy => (h4 y hy).1, fun y hy e => ?_⟩
  have k : X.env.scope.names.lookup y.1 = Γ.kind y.1 := G.kd y.1
  rw [k]
  rcases (h4 y hy).2 with (z | z) | z
  · exact absurd e z
  · exact .inl z
  · exact .inr z
theorem same_ix {α : Type} : ∀ {l : List α} {i j : Nat} {x : α}, l.Nodup → l[i]? = some x → l[j]? = some x → i = j
  | [], _, _, _, _, h, _ => by simp at h
  | _ :: _, 0, 0, _, _, _, _ => rfl
  | a :: l, 0, j + 1, x, nd, h1, h2 => by
    have e : a = x := by simpa using h1
    subst e
    exact absurd (List.mem_of_getElem? (show l[j]? = some a by simpa using h2)) (List.nodup_cons.mp nd).1
  | a :: l, i + 1, 0, x, nd, h1, h2 => by
    have e : a = x := by simpa using h2
    subst e
    exact absurd (List.mem_of_getElem? (show l[i]? = some a by simpa using h1)) (List.nodup_cons.mp nd).1
  | a :: l, i + 1, j + 1, x, nd, h1, h2 => congrArg (· + 1) (same_ix (List.nodup_cons.mp nd).2 (by simpa using h1) (by simpa using h2))
/-- the store behind the making of a lambda -/
theorem made_nxt {K : PySem.W.Frag} {F H H1 : Hp} {as : List Addr} {st : Store} {P c' : Addr} {q : PySem.Str} {ps : Array Value} (sF : Sub F H) (So : Sto K F as st H) (h0 : as[0]? = some P) (ht : st[0]? = some (.tab P q)) (hP : H P = some (.tbl ps)) (hcod : ∀ (pos : Pos) (cv : Value), codeAmong pos ps.toList = some cv → ∃ c, cv = .ref c ∧ F c = some (LamX.CodeO c q)) (m : Made P q H ps H1 c') :
    ∃ F1, Nxt F as H F1 as H1 ∧ Sub F1 H1 ∧ Sto K F1 as st H1 := by
  cases m with
  | old => exact ⟨F, Nxt.refl _ _ _, sF, So⟩
  | @new _ more nC ok am =>
    have fC : F c' = none := sub_none sF nC
    have fP : F P = none := (So.at_ 0 P _ h0 ht).1
    have nPc : P ≠ c' := ne_of_none hP nC
    have at_ : ∀ b o, H b = some o → b ≠ P → upd (upd H P (.tbl (ps ++ more))) c' (LamX.CodeO c' q) b = some o := fun b o e nP => by rw [upd_ne (ne_of_none e nC), upd_ne nP]; exact e
    have atP : upd (upd H P (.tbl (ps ++ more))) c' (LamX.CodeO c' q) P = some (.tbl (ps ++ more)) := by rw [upd_ne nPc, upd_same]
    refine ⟨upd F c' (LamX.CodeO c' q), ⟨sub_upd fC, Pre.refl _, fun a o e nt _ => at_ a o e (fun z => ?_), fun a h => ?_, fun a h e => ?_, fun a h n => absurd h n⟩, fun b o e => ?_, ⟨So.len, So.nd, fun n a t ha hs => ?_⟩⟩
    · subst z
      rw [hP] at e
      exact nt ps (Option.some.inj e).symm
    · by_cases z : a = P
      · rw [z, atP]; exact fun w => nomatch w
      · cases e : H a with
        | none => exact absurd e h
        | some o => rw [at_ a o e z]; exact fun w => nomatch w
    · by_cases z : a = c'
      · rw [z]; exact nC
      · rw [upd_ne z] at h; exact absurd e h
    · by_cases z : b = c'
      · subst z; rw [upd_same] at e ⊢; exact e
      · rw [upd_ne z] at e
        exact at_ b o (sF b o e) fun w => by subst w; rw [fP] at e; cases e
    · obtain ⟨k1, k2⟩ := So.at_ n a t ha hs
      have nc : a ≠ c' := fun z => by subst z; exact k2.there nC
      refine ⟨by rw [upd_ne nc]; exact k1, ?_⟩
      by_cases z : a = P
      · subst z
        have n0 : n = 0 := same_ix So.nd ha h0
        subst n0
        rw [ht] at hs
        cases hs
        refine .inr ⟨q, rfl, ps ++ more, atP, ok, fun pos cv e => ?_⟩
        rcases am pos cv e with w | w
        · obtain ⟨c, w1, w2⟩ := hcod pos cv w
          exact ⟨c, w1, by rw [upd_ne (ne_of_none w2 fC)]; exact w2⟩
        · exact ⟨c', w, upd_same⟩
      · exact k2.mono (sub_upd fC) (Pre.refl _) fun o e => at_ a o e z
theorem hear_ok {Z : Ctx} {names : List PySem.Str} {cl : HCl} {g : Addr} {pg : Arguments} {bg : List Stmt} {sg : Scope} {fd : FuncData} (hD : Z.D.hsyn = hsynL) (hh : Z.hear = hearF names Z.xi.fl cl Z.tP Z.tq) (hcl : ∀ c ∈ cl, ∀ n ∈ c.1, n ∈ names) (hm : Z.mg heardN = some (.ref g)) (FD : FunD Z.K heardN heardN pg bg sg [] [] g fd)
    (hb : ∀ us : List Value, us.length = 1 → bindArgs fd ⟨us, []⟩ = pure ([("ask" : PySem.Str)].zip us)) (Sg : FnScope nHeard ["ask"] sg) (hc : chkHeard sg names cl bg = true) (h0 : sg.names.lookup ("ask" : PySem.Str) = some NameKind.local) (h1 : sg.names.lookup ("found" : PySem.Str) = some NameKind.local) (h2 : sg.names.lookup ("error" : PySem.Str) = some NameKind.local)
    (gi : sg.names.lookup ("isinstance" : PySem.Str) = some NameKind.globalImplicit) (O : HxOk Z.K Z.mg Z.xi names) : hearOk Z := by
  intro gn ex Γ Γ' body e W X A hs hrec
  rw [hD] at hs
  unfold hsynL at hs
  split at hs
  · rename_i params body' scope e1
    split at hs
    · rename_i hq
      obtain ⟨q1, q2, q3, q4, q5, q6⟩ := hq
      cases hs
      obtain ⟨p, lpos, pos, rfl⟩ := asHear_some e1
      refine ⟨rfl, ?_⟩
      obtain rfl := noArgs_ok q2
      subst q1
      obtain ⟨c, lc, TB, hq⟩ := A.lam q3
      have L := lamK_ok A.g q6
      have hr : Room (Z.kc + 4) X.A := by have := A.room; rwa [if_pos q4] at this
      have Kx := A.K
      have Mx := A.mg
      have main := pe_lamM (X := X) (TT := THeard X.K Z.xi names cl) (x := heardN) (a := "ask") (g := g) (c := c) (P := Z.tP) (k := Z.kc) (pg := pg) (bg := bg) (sg := sg) (fd := fd) (Ng := nHeard) (params := ⟨[], [], none, [], [], none, []⟩) (body := body) (scope := scope) (t := fun E => tE X.K Z.xi (fun cls d _ H => E cls d H) (evalE Z.call Z.hear e)) (p := p) (lpos := lpos) (pos := pos)
        (A.g.gl q5) (by rw [Mx]; exact hm) (by rw [Kx]; exact FD) hb Sg rfl (.inl h0) (fun cdg => heard_gives hc h0 h1 h2 gi (by rw [Kx, Mx]; exact O)) (by rw [A.base, Mx]; exact TB) lc (hr.mono (by omega)) L rfl (fun _ _ _ _ _ => rfl) (fun A' outer s H E f c' hr2 => ?_) (by decide) (by decide) (by decide)
      · rw [hq] at main
        refine PE.imp main fun σ H Q q => ?_
        obtain ⟨F, as, ρ, st, S, q⟩ := q
        have q : Out X.K Z.xi F as H σ W (Z.hear 0 st (evalE Z.call Z.hear e ρ st)) (fun t st' => Post X.K F as H t st' Q) := q
        rw [hh] at q
        cases hst : st with
        | nil => rw [hst] at q; exact q.elim
        | cons t0 st0 =>
          cases t0 with
          | tab P0 q0 =>
            have q : Out X.K Z.xi F as H σ W (if P0 = Z.tP ∧ q0 = Z.tq then (match evalE Z.call (hearF names Z.xi.fl cl Z.tP Z.tq) e ρ st with
              | .ok t st' => .ok (.lst [t]) st'
              | .ex x st' => if x.cls ∈ names then lift (evCl Z.xi.fl x cl) st' else .bad
              | .bad => .bad) else .bad) (fun t st' => Post X.K F as H t st' Q) := by rw [hst] at q ⊢; exact q
            by_cases hPq : P0 = Z.tP ∧ q0 = Z.tq
            · rw [if_pos hPq] at q
              obtain ⟨rfl, rfl⟩ := hPq
              have l0 : 0 < as.length := by rw [S.sto.len, hst]; exact Nat.succ_pos _
              have ha : as[0]? = some as[0] := List.getElem?_eq_getElem l0
              have hs0 : st[0]? = some (.tab Z.tP Z.tq) := by rw [hst]; rfl
              obtain ⟨k1, k2⟩ := S.sto.at_ 0 _ _ ha hs0
              rcases k2 with k2 | ⟨q', ee, ps, k3, k4, k5⟩
              · exact k2.elim
              · injection ee with ea eq
                subst eq
                rw [← ea] at ha k1 k3
                refine ⟨ps, ⟨k3, k4, fun pos cv w => by obtain ⟨c, w1, w2⟩ := k5 pos cv w; exact ⟨c, w1, S.sub _ _ w2⟩⟩, fun H1 c' md hc' => ?_⟩
                obtain ⟨F1, n1, s1, t1⟩ := made_nxt S.sub S.sto ha hs0 k3 k5 md
                refine ⟨F1, as, ρ, st, S.nxt n1 s1 t1, ?_⟩
                rw [hh]
                cases ev : evalE Z.call (hearF names Z.xi.fl cl Z.tP Z.tq) e ρ st with
                | bad => rw [ev] at q; exact q.elim
                | ok t st1 =>
                  rw [ev] at q
                  have q : Post X.K F as H (.lst [t]) st1 Q := q
                  intro F' as' H' v n s So r
                  have l1 : [v].length ≤ sizeLine := by rw [sizeLine_eq]; show 1 ≤ _; omega
                  refine ⟨l1, fun b hb => ?_⟩
                  have n2 := nxt_new (as := as') (o := .lst [v]) s hb
                  exact q _ _ _ _ ((n1.trans n).trans n2) (sub_upd2 s) (So.new s hb) (.lst upd_same l1 (.cons (r.mono n2.ff n2.pre) .nil))
                | ex x st1 =>
                  rw [ev] at q
                  intro F' as' H' cls d n s So r
                  have q : Out X.K Z.xi F as H σ W (if x.cls ∈ names then lift (evCl Z.xi.fl x cl) st1 else .bad) (fun t st' => Post X.K F as H t st' Q) := q
                  by_cases hx : x.cls ∈ names
                  · rw [if_pos hx] at q
                    cases ee : evCl Z.xi.fl x cl with
                    | none => rw [ee] at q; exact q.elim
                    | some t =>
                      rw [ee] at q
                      have q : Post X.K F as H t st1 Q := q
                      intro σ' l3
                      refine wall_of (K := X.K) (mg := X.mg) (by rw [Kx, Mx]; exact O) hx s So r (by omega) hcl ee fun F2 as2 H2 v n2 s2 So2 r2 a => ?_
                      refine ⟨v, ?_, q F2 as2 H2 v ((n1.trans n).trans n2) s2 So2 r2⟩
                      rw [List.getElem?_set_ne (by decide), List.getElem?_set_self (by rw [List.length_set]; omega)]
                  · rw [if_neg hx] at q; exact q.elim
            · rw [if_neg hPq] at q; exact q.elim
          | _ => rw [hst] at q; exact q.elim
      · have := hrec (fun cls d _ H => E cls d H) (LamX.lamCx X A' outer s H E scope f c') {
          g := {
            calm := rfl
            takes := takes_of rfl rfl rfl rfl
            nd := A.g.nd
            N := A.g.N
            kd := fun x => rfl
            units := by have := hr2.un; show (A'.deeper _).units + 70 < _; omega
            free := A.g.free
            fnc := fun h => by cases h
            fkind := L.kind }
          P := A.P
          w := A.w
          K := A.K
          mg := A.mg
          base := A.base
          room := hr2
          po := fun h => by cases h
          lam := fun h => by cases h }
        exact this
    · cases hs
  · cases hs
end Q
end
/-! QRse -/
section
set_option linter.all false
set_option maxRecDepth 100000
set_option maxHeartbeats 4000000
namespace Q
open PySem PySem.Spec PyProof.Rows L2
/-! ### own exceptions over any built-in base -/
def mroOn (l : List Addr) (bmB : List Value) : List Value := l.map Value.ref ++ bmB
theorem mroOn_has (bmB : List Value) (x : String) : ∀ l : List Addr, (mroOn l bmB).contains (.type x) = bmB.contains (.type x)
  | [] => rfl
  | a :: l => by
    show List.contains (Value.ref a :: mroOn l bmB) (.type x) = _
    rw [List.contains_cons, mroOn_has bmB x l]
    rfl
theorem mroOn_pass {B sa ow : String} {bmB : List Value} (SF : StoreFacts B bmB sa ow) (self : Value) : ∀ l : List Addr, refuseLoop self "__setattr__" (mroOn l bmB) = pure ()
  | [] => SF.passes self
  | a :: l => (refuseLoop_ref self _ a (mroOn l bmB)).trans (mroOn_pass SF self l)
section
open PySem.W Builtin Builtin.ObjectAttr
variable {prog : Program} {w : World} {A : Around} {R : Result → Shared → Prop} {hp : Heap} {g : Array GenState} {d : Drawn} {t : Nat} {os : OsState}
/-- the first field of a new exception -/
theorem osa_on {B : String} {bmB : List Value} {K : Frag} {fld : PySem.Str} {tk : Tok} {v : Value} {x C : Addr} {fv : Array Value} {cd : ClassData} {l : List Addr} (SF : StoreFacts B bmB "object.__setattr__" "object")
    (kin : K.In hp) (hx : hp.get? x = some { cls := .ref C, data := .fields fv }) (hcd : clsIn K C = some cd) (hm : cd.mro = .ref C :: mroOn l bmB) (hdct : cd.hasDict = true) (ha : findIn K (.ref C) fld = some none)
    (hq : ∀ h2 tk2 dx, (∀ b o, b ≠ x → hp.get? b = some o → h2.get? b = some o) → hp.objs.size ≤ dx → dx ≠ x → h2.get? x = some { cls := .ref C, dict := some dx, data := .fields fv } → h2.Ns1 dx (fun y => if y = fld then some v else none) → R (.ok (.ret .none)) ⟨h2, g, d, tk2, os⟩) :
    codeAny (model prog w) A (.call (.builtin "object.__setattr__") ⟨[.ref x, .str fld tk, v], []⟩) R ⟨hp, g, d, t, os⟩ := by
  have inst : InstAt hp x { cls := .ref C, data := .fields fv } C none := ⟨hx, rfl, rfl, trivial⟩
  have SO := F.store_object
  have obj : mroIn K C (.type "object") = some true := by
    unfold mroIn
    rw [hcd, Option.bind_some, hm, if_neg (fun z => by cases z), List.contains_cons, mroOn_has, SF.hasOwner, Bool.or_true]
  have neq : x ≠ hp.objs.size := Nat.ne_of_lt (Heap.lt_size hx)
  have isO : Looks (model prog w) hp (isInstance (.ref x) (.type "object")) true := inst.type.andThen (looks_mroIn kin obj)
  refine codeAny_call_builtin SO.slot.plain SO.entry (check_slot (s := ⟨hp, g, d, t, os⟩) (i := "object.__setattr__") (owner := "object") (n := "__setattr__") (self := .ref x) (rest := [.str fld tk, v]) (kw := []) SO.kind SO.split isO (SO.args (.ref x) (.str fld tk) v) ?_)
  have lm : Looks (model prog w) hp (mroOf (.ref C)) cd.mro := (looks_clsIn kin hcd).andThen .now
  have lt : Looks (model prog w) hp (storeTaker? none) none := .now
  have lc : Looks (model prog w) hp (classData C) cd := looks_clsIn kin hcd
  have ps : refuseLoop (.ref x) "__setattr__" cd.mro = pure () := by rw [hm, refuseLoop_ref]; exact mroOn_pass SF _ l
  rw [osa_eq, refuse_eq]
  refine wpAny_bind (wpAny_bind (inst.type.at (wpAny_bind (lm.at ?_))))
  rw [ps]
  refine wpAny_pure (wpAny_bind (inst.type.at (wpAny_bind ((looks_findIn kin ha).at (wpAny_bind (lt.at ?_))))))
  show wpAny _ _ (storeInOwnDict (.ref x) (.ref C) (.str fld tk) fld v false) _ _ _
  obtain ⟨c1, c2, c3, c4, c5, c6, c7, c8, c9, c10, c11⟩ := cd
  dsimp only at hdct
  subst hdct
  unfold storeInOwnDict ownDictForStores
  repeat (first | with_reducible refine PySem.HandSPX.store_in_new ?_ ?_ | with_reducible refine wpAny_loadPart_at hx ?_ | with_reducible refine lc.at ?_ | wp_step)
  · exact ⟨_, #[], _, (Heap.get?_update_ne _ _ _ _ neq.symm).trans (Heap.get?_push_at rfl rfl), rfl, fun e he => absurd he (by simp), fun _ => rfl⟩
  · intro h2 tk2 ns2 same
    have hx2 : (hp.push { cls := .type "dict", data := .dict #[] }).get? x = some { cls := .ref C, data := .fields fv } := Heap.get?_push_of_some _ hx
    refine hq h2 tk2 hp.objs.size (fun b o nb ho => (same.2 b (Nat.ne_of_lt (Heap.lt_size ho))).trans ((Heap.get?_update_ne _ _ _ _ nb).trans (Heap.get?_push_of_some _ ho))) (Nat.le_refl _) neq.symm ((same.2 x neq).trans (Heap.get?_update_self _ hx2 rfl)) ns2
end
/-- what is known of an own exception class with an __init__ of its own: __init__(self, p): self.f = p -/
structure ExI (K : PySem.W.Frag) (bmB : List Value) (newId : String) (C fI : Addr) (fld prm qi : PySem.Str) : Prop where
  cls : ∃ nm q N bs l sn sub ab col dd k0 k1 k2 k3 k5, K.lookup C = some (excClassObj nm q C N bs (mroOn l bmB) true sn sub ab col dd k0 k1 k2 k3 k5 newId)
  sa : PySem.W.findIn K (.ref C) "__setattr__" = some (some (.builtin "object.__setattr__"))
  noN : PySem.W.findIn K (.ref C) fld = some none
  iC : PySem.W.findIn K (.ref C) "__init__" = some (some (.ref fI))
  tI : PySem.W.typeIn K (.ref fI) = some (.type "function")
  kC : PySem.W.keepIn K (.ref C) = true
  exC : PySem.W.subIn K (.ref C) (.type "BaseException") = some true
  tyC : PySem.W.typeIn K (.ref C) = some (.type "type")
  fn : ∃ (params : Arguments) (scope : Scope) (fd : FuncData) (q1 q2 q3 q4 : Pos), FunD K "__init__" qi params [.Assign [.Attribute (.Name "self" q1) fld q2] (.Name prm q3) q4] scope [] [] fI fd ∧
    scope.kind = .function ∧ scope.isCoroutine = false ∧ scope.isGenerator = false ∧ scope.names = [(("self" : PySem.Str), NameKind.local), (prm, NameKind.local)] ∧ ∀ us : List Value, us.length = 2 → bindArgs fd ⟨us, []⟩ = pure ([("self" : PySem.Str), prm].zip us)
  np : prm ≠ "self"
  nd : (prm == ("__debug__" : PySem.Str)) = false
/-- an exception that was made with its field -/
structure ExM (h h2 : Heap) (e C d : Addr) (fld : PySem.Str) (v : Value) : Prop where
  keep : ∀ b o, h.get? b = some o → h2.get? b = some o
  new : h.objs.size ≤ e
  obj : ∃ oe vs, h2.get? e = some oe ∧ oe.cls = .ref C ∧ oe.dict = some d ∧ oe.data = .fields vs ∧ vs[1]? = some .none
  dbig : h.objs.size ≤ d
  dne : d ≠ e
  ns : h2.Ns1 d (fun y => if y = fld then some v else none)
section
open PySem.W PySem.Calls PySem.HandSPX
variable {prog : Program} {w : World} {A : Around} {R : Result → Shared → Prop} {s : Shared} {K : Frag} {C fI : Addr} {bmB : List Value} {newId : String} {fld prm qi : PySem.Str}
theorem ld_loc {M : Model} {E : Value → Shared → Prop} {nm : PySem.Str} {scope : Scope} {L a : Addr} {cd : Value} {m : PySem.Str → Option Value} {x : PySem.Str} {pos : Pos} {v : Value} {Q : Value → Shared → Prop} (hn : s.heap.Ns L m) (hv : m x = some v) (h : Q v s)
    (hk : scope.kind = .function) (hl : (envOfC nm scope L a cd).kindOf x = some .local) (hd : (x == ("__debug__" : PySem.Str)) = false) : wpAny M A (eval (.Name x pos) (envOfC nm scope L a cd)) Q E s := wpAny_Name (wpAny_loadName_local hk hl hn hv h) hd
theorem exi_init {B : String} (SF : StoreFacts B bmB "object.__setattr__" "object") (T : ExI K bmB newId C fI fld prm qi) {x t0 : Addr} {v : Value} (kin : K.In s.heap) (lim : s.heap.NoLimit) (hx : s.heap.get? x = some (excO C t0)) (room : A.depth < recursionLimit)
    (hq : ∀ h2 tk dx, (∀ b o, b ≠ x → s.heap.get? b = some o → h2.get? b = some o) → h2.get? x = some { cls := .ref C, dict := some dx, data := .fields #[.ref t0, .none, .none, .none, .bool false, .none] } → s.heap.objs.size ≤ dx → dx ≠ x → h2.Ns1 dx (fun y => if y = fld then some v else none) → R (.ok (.ret .none)) { s with heap := h2, toks := tk }) :
    codeAny (model prog w) A (.call (.ref fI) ⟨[.ref x, v], []⟩) R s := by
  obtain ⟨params, scope, fd, q1, q2, q3, q4, FD, sk, sc, sg, sn, hb⟩ := T.fn
  obtain ⟨oc, od, dV, kV, doc, pm, an, cdv, ct, osl, rfl, lk, hcd, _, _⟩ := FD.ex
  obtain ⟨nm, q, N, bs, l, sn', sub, ab, col, dd, k0, k1, k2, k3, k5, hC⟩ := T.cls
  have hcl : clsIn K C = some { name := nm, bases := bs, mro := .ref C :: mroOn l bmB, ns := N, qualname := q, hasDict := true, slotNames := sn', subclasses := sub, abstract := ab, collection := col, hasDel := false } := by unfold clsIn; rw [hC] <;> rfl
  have hks : scope.names.lookup ("self" : PySem.Str) = some NameKind.local := by rw [sn]; rfl
  have hkp : scope.names.lookup prm = some NameKind.local := by
    rw [sn, List.lookup_cons, show (prm == ("self" : PySem.Str)) = false from by simpa using T.np, List.lookup_cons, beq_self_eq_true]
  refine Att.call_fn (binds := [(("self" : PySem.Str), Value.ref x), (prm, v)]) kin lim lk hcd room (BindsTo.of_eq (hb [.ref x, v] rfl)) ?_ (fun s₁ IC => ?_) sc sg sk
  · simp [hks, hkp]
  obtain ⟨h₁, tk₁, rfl⟩ := IC.toInCall.same
  have kp := IC.toInCall.keep
  have hn := IC.toInCall.ns
  have kin₁ : K.In h₁ := kin.keeps kp
  have hx₁ := kp _ _ hx
  have kS : (envOfC qi scope s.heap.objs.size fI cdv).kindOf "self" = some .local := hks
  have kP : (envOfC qi scope s.heap.objs.size fI cdv).kindOf prm = some .local := hkp
  refine wpAny_execs_cons (plainObj_wpAny_Assign_Attribute (ld_loc (v := v) hn ?_ (ld_loc (v := .ref x) hn ?_ (set_plain kin₁ (ox := excO C t0) (od := none) ⟨hx₁, rfl, rfl, trivial⟩ T.sa (osa_on SF kin₁ hx₁ hcl rfl rfl T.noN fun h₃ tk₃ dx k₃ dn dne hx₃ hn₃ => ?_)) sk kS (by decide)) sk kP T.nd) (by rfl))
  · show bindL _ _ _ prm = _
    simp [bindL, kS, kP]
  · show bindL _ _ _ "self" = _
    simp [bindL, kS, kP, T.np, Ne.symm T.np]
  · exact wpAny_execs_nil (hq h₃ tk₃ dx (fun b o hb e => k₃ b o hb (kp b o e)) hx₃ (Nat.le_of_lt (Nat.lt_of_lt_of_le hn.lt dn)) dne hn₃)
theorem exi_made {B initId : String} (EB : ExcBaseFacts B newId initId bmB) (SF : StoreFacts B bmB "object.__setattr__" "object") (T : ExI K bmB newId C fI fld prm qi) {v : Value} (kin : K.In s.heap) (lim : s.heap.NoLimit) (room : A.depth + 1 < recursionLimit)
    (hq : ∀ h2 tk e d, ExM s.heap h2 e C d fld v → R (.ok (.ret (.ref e))) { s with heap := h2, toks := tk }) : codeAny (model prog w) A (.call (.ref C) ⟨[v], []⟩) R s := by
  obtain ⟨nm, q, N, bs, l, sn', sub, ab, col, dd, k0, k1, k2, k3, k5, hC⟩ := T.cls
  obtain ⟨hp, g, dr, tk, os⟩ := s
  have kp : ∀ b o, hp.get? b = some o → ((hp.push (kdv_tup [v])).push (excO C hp.objs.size)).get? b = some o := fun b o e => Heap.get?_push_of_some _ (Heap.get?_push_of_some _ e)
  have got : ((hp.push (kdv_tup [v])).push (excO C hp.objs.size)).get? (hp.objs.size + 1) = some (excO C hp.objs.size) := by heap_get
  refine call_own EB (fun x => mroOn_has bmB x l) (kin _ _ hC) (looks_findIn kin T.iC) (fun self => bind_fn kin self T.tI) (by show 1 ≤ sizeLine; rw [sizeLine_eq]; omega) ?_
  refine exi_init (s := ⟨(hp.push (kdv_tup [v])).push (excO C hp.objs.size), g, dr, tk, os⟩) SF T (kin.keeps kp) (lim.keeps kp) got room fun h2 tk2 dx k2 hx dn dne hns => ?_
  have big : hp.objs.size + 1 + 1 ≤ dx := by have q := dn; rw [Heap.size_push, Heap.size_push] at q; exact q
  exact ⟨rfl, hq h2 tk2 (hp.objs.size + 1) dx ⟨fun b o e => k2 b o (Nat.ne_of_lt (Nat.lt_succ_of_lt (Heap.lt_size e))) (kp b o e), Nat.le_succ _, ⟨_, _, hx, rfl, rfl, rfl, rfl⟩, Nat.le_trans (Nat.le_add_right _ 2) big, dne, hns⟩⟩
end
theorem relO_one {fld : PySem.Str} {v : V} {u : Value} (r : RelV v u) (f : PySem.Str) : RelO (List.lookup f [(fld, v)]) (if f = fld then some u else none) := by
  by_cases h : f = fld
  · rw [if_pos h, h, List.lookup_cons, beq_self_eq_true]; exact r
  · rw [if_neg h, List.lookup_cons, show (f == fld) = false from by simpa using h]; trivial
section
variable {X : Cx} {C fI : Addr} {bmB : List Value} {newId : String} {fld prm qi : PySem.Str}
/-- C(e) -/
def tMkI (C : Addr) (fld : PySem.Str) (ta : TA) : L2.St → Hp → XK → Prop := fun σ H Q => ta σ H fun vs H1 => ∃ v, vs = [v] ∧ ∀ d, H1 d = none → Q (.ref C) (some d) (upd H1 d (.xd [(fld, v)]))
theorem pmk_i {B initId : String} {x : PySem.Str} {a : Expr} {ta : TA} {p pos : Pos} {k : Nat} (EB : ExcBaseFacts B newId initId bmB) (SF : StoreFacts B bmB "object.__setattr__" "object") (T : ExI X.K bmB newId C fI fld prm qi) (gC : X.mg x = some (.ref C)) (hr : Room (k + 1) X.A) (ha : PA X [a] ta) (hg : Gl X x)
    (hd : (x == ("__debug__" : PySem.Str)) = false) (hs : notStar a = true) : PMk X (.Call (.Name x p) [a] [] pos) (tMkI C fld ta) := by
  intro pins s σ H Q I h
  refine wpAny_Call_Name_kw (ld_glob I hg gC ?_ hd)
  refine PySem.W.callWith_K (h₀ := X.base) I.ok.mod.kin T.kC (thn (ha.run pos pins s σ H _ I h) fun us s1 hh => ?_) (star1 hs) (by rfl)
  obtain ⟨vs, H1, I1, r1, v, rfl, q1⟩ := hh
  refine ⟨I1.kIn, ?_⟩
  cases r1 with
  | cons rv rn =>
    rename_i u us2
    cases rn
    show wpAny _ _ (call (.ref C) [u]) _ _ _
    obtain ⟨hp, g, dr, tk, os⟩ := s1
    refine wpAny_call (exi_made (s := ⟨hp, g, dr, tk, os⟩) EB SF T I1.kIn I1.nolimit (by have := hr.dp; omega) fun h2 tk2 e d M => ?_)
    show MkP X pins σ Q (.ref e) ⟨h2, g, dr, tk2, os⟩
    obtain ⟨oe, fv, hoe, hc, hdd, hdat, hv1⟩ := M.obj
    have hns := M.ns
    obtain ⟨G, g1, g2⟩ := restrict h2 fun b => decide (b ≠ e)
    have gk : ∀ b, b ≠ e → G.get? b = h2.get? b := fun b hb => g1 b (decide_eq_true hb)
    have ge : G.get? e = none := g2 e (by simp)
    have J : Inv X pins σ (upd H1 d (.xd [(fld, v)])) ⟨G, g, dr, tk2, os⟩ := I1.laid (t' := tk2) (fun b o q => (gk b (Nat.ne_of_lt (Nat.lt_of_lt_of_le (Heap.lt_size q) M.new))).trans (M.keep b o q)) M.dbig ⟨_, hns.at (fun o q => (gk d M.dne).trans q), fun f => relO_one rv f⟩
    refine ⟨e, oe, fv, ⟨G, g, dr, tk2, os⟩, _, .ref C, some d, rfl, J, fun b o q => ?_, ge, hoe, ⟨hc, hdd⟩, hdat, hv1, (upd_ne (Ne.symm M.dne)).trans (I1.hok.fresh M.new), rfl, I1.bare, raises_own T.exC T.tyC, q1 d (I1.hok.fresh M.dbig)⟩
    by_cases hb : b = e
    · have q' : G.get? b = some o := q
      rw [hb, ge] at q'; cases q'
    · exact (gk b hb).symm.trans q
/-- C(), without an __init__ of its own -/
theorem pmk_0 {B initId : String} {x : PySem.Str} {p pos : Pos} (EB : ExcBaseFacts B newId initId bmB) (q : PySem.W.excIn X.K C bmB newId = true) (gC : X.mg x = some (.ref C)) (kC : PySem.W.keepIn X.K (.ref C) = true) (r : Raises X (.ref C)) (hg : Gl X x) (hd : (x == ("__debug__" : PySem.Str)) = false) :
    PMk X (.Call (.Name x p) [] [] pos) (fun _ H Q => Q (.ref C) none H) := by
  intro pins s σ H Q I h
  refine wpAny_Call_Name_kw (ld_glob I hg gC (PySem.W.callWith_K0 I.kIn kC ?_) hd)
  obtain ⟨bm, N, nm, qn, bs, hdct, sn, sub, ab, col, dd, k0, k1, k2, k3, k5, mN, hC, hN, hni, T⟩ := exc_obj I.kIn q
  exact wpAny_call_exc_subT EB T hC hN hni (fun h' e hm => mk_of I hm r h (I.hok.gone hm.new)) (Nat.zero_le _)
end
end Q
end
/-! QRse2 -/
section
set_option linter.all false
set_option maxRecDepth 100000
set_option maxHeartbeats 4000000
namespace Q
open PySem PySem.Spec PyProof.Rows L2
/-- raise C(..): the classes that may be raised so, with how many fields -/
def rsynL (ks : List (PySem.Str × Nat)) : Sc → PySem.Str → Stmt → Option (List Expr) := fun Γ c s => match s with
  | .Raise (some (.Call (.Name n _) xs [] _)) none _ => if Γ.hr = true ∧ n = c ∧ Γ.gl n = true ∧ okNm n = true ∧ xs.all notStar = true ∧ (c, xs.length) ∈ ks then some xs else none
  | _ => none
theorem rsynL_some {ks : List (PySem.Str × Nat)} {Γ : Sc} {c : PySem.Str} {s : Stmt} {xs : List Expr} (h : rsynL ks Γ c s = some xs) : ∃ p q r, s = .Raise (some (.Call (.Name c p) xs [] q)) none r ∧ Γ.hr = true ∧ Γ.gl c = true ∧ okNm c = true ∧ xs.all notStar = true ∧ (c, xs.length) ∈ ks := by
  unfold rsynL at h
  split at h
  · split at h
    · rename_i z
      obtain ⟨z0, rfl, z2, z3, z4, z5⟩ := z
      cases h
      exact ⟨_, _, _, rfl, z0, z2, z3, z4, z5⟩
    · cases h
  · cases h
/-- what is known of a class that is raised -/
inductive RsC (K : PySem.W.Frag) (mg : PySem.Str → Option Value) (xi : XI) (c : PySem.Str) : Nat → Prop
  | zero {B newId initId : String} {bmB : List Value} : ExcBaseFacts B newId initId bmB → PySem.W.excIn K (xi.cA c) bmB newId = true → mg c = some (.ref (xi.cA c)) → PySem.W.keepIn K (.ref (xi.cA c)) = true → PySem.W.subIn K (.ref (xi.cA c)) (.type "BaseException") = some true → PySem.W.typeIn K (.ref (xi.cA c)) = some (.type "type") → xi.fl c = [] → RsC K mg xi c 0
  | one {B newId initId : String} {bmB : List Value} {fI : Addr} {fld prm qi : PySem.Str} : ExcBaseFacts B newId initId bmB → StoreFacts B bmB "object.__setattr__" "object" → ExI K bmB newId (xi.cA c) fI fld prm qi → mg c = some (.ref (xi.cA c)) → xi.fl c = [fld] → RsC K mg xi c 1
theorem raise_ok {Z : Ctx} {Wn : Nat} {D : WdS} {ks : List (PySem.Str × Nat)} (hD : D.rsyn = rsynL ks) (hO : ∀ p ∈ ks, RsC Z.K Z.mg Z.xi p.1 p.2) : raiseOk Z Wn D := by
  intro Γ W X c s xs es A hs sn
  rw [hD] at hs
  obtain ⟨p, q, r, rfl, h4, hg, ho, hst, hm⟩ := rsynL_some hs
  have hd : (c == ("__debug__" : PySem.Str)) = false := by
    unfold okNm at ho
    rw [Bool.and_eq_true] at ho
    exact beq_iff_eq.mp ho.1
  have hr : Room (3 + 1) X.A := by
    have := A.room
    rw [if_pos h4] at this
    exact this.mono (by omega)
  have Kx := A.K
  have Mx := A.mg
  have o := hO _ hm
  have o : RsC Z.K Z.mg Z.xi c xs.length := o
  cases xs with
  | nil =>
    cases sn
    cases o with
    | zero EB e1 e2 e3 e4 e5 e6 =>
      refine PS.imp (ps_raise A.g.calm A.g.takes (pmk_0 EB (by rw [Kx]; exact e1) (by rw [Mx]; exact e2) (by rw [Kx]; exact e3) (raises_own (by rw [Kx]; exact e4) (by rw [Kx]; exact e5)) (A.g.gl hg) hd)) fun D' σ H h => ?_
      obtain ⟨N, F, as, ρ, st, S, h⟩ := h
      exact h F as H σ _ none S.nx S.sim.sub S.sim.sto ⟨rfl, .inl ⟨e6, rfl, rfl⟩⟩
  | cons x xs =>
    cases xs with
    | cons y ys => exact absurd o (by intro z; cases z)
    | nil =>
      cases sn with
      | @cons _ e _ _ s1 s2 =>
        cases s2
        cases o with
        | @one B newId initId bmB fI fld prm qi EB SF T e2 e6 =>
          rw [List.all_cons, Bool.and_eq_true] at hst
          refine PS.imp (ps_raise A.g.calm A.g.takes (pmk_i EB SF (by rw [Kx]; exact T) (by rw [Mx]; exact e2) hr (pa_cons s1.sf.se pa_nil (star1 hst.1)) (A.g.gl hg) hd hst.1)) fun D' σ H h => ?_
          obtain ⟨N, F, as, ρ, st, S, h⟩ := h
          have h : OutS X.K Z.xi W N D' ((evalE Z.call Z.hear e ρ st).then fun t st' => .ex ⟨c, [t]⟩ st') := by
            have h : OutS X.K Z.xi W N D' (((evalE Z.call Z.hear e ρ st).bind fun t st' => O.ok [t] st').then fun ts st' => .ex ⟨c, ts⟩ st') := h
            cases ev : evalE Z.call Z.hear e ρ st with
            | ok t st1 => rw [ev] at h; exact h
            | ex y st1 => rw [ev] at h; exact h
            | bad => rw [ev] at h; exact h
          refine toE (k := fun t st' => .ex ⟨c, [t]⟩ st') S h fun t st' F' as' H' v h2 n S' rr => ⟨v, rfl, fun d hd2 => ?_⟩
          have n2 := nxt_own (F := F') (as := as') (o := HO.xd [(fld, v)]) hd2
          exact h2 F' as' _ σ _ (some d) (S'.nx.trans n2) (sub_updR S'.sim.sub (sub_none S'.sim.sub hd2)) (S'.sim.sto.newOwn hd2) ⟨rfl, .inr ⟨d, [v], rfl, by rw [upd_same]; show some (HO.xd [(fld, v)]) = some (HO.xd ((Z.xi.fl c).zip [v])); rw [e6]; rfl, by show (Z.xi.fl c).length = 1; rw [e6]; rfl, .cons rr .nil⟩⟩
end Q
end
/-! C_k02 -/
section
set_option linter.all false
set_option maxRecDepth 100000
set_option maxHeartbeats 0
namespace C
open PySem L2 Q
def top (i : Nat) : Stmt := PySem.Challenge.pw_swapguards_k02_whole_great_heaps_gone_th.main.body.getD i (.Pass ⟨0, 0, 0, 0⟩)
def ksR : List (PySem.Str × Nat) := [("InvalidHeap", 0), ("NoObject", 1)]
def D : WdS := ⟨⟨conL, ckL, hsynL⟩, rsynL ksR⟩
theorem chk_is_between : chkSs D (scOf n_is_between (defScope (top 25))) b_is_between (defBody (top 25)) = true := by decide +kernel
theorem chk_is_held : chkSs D (scOf n_is_held (defScope (top 26))) b_is_held (defBody (top 26)) = true := by decide +kernel
theorem chk_is_heap : chkSs D (scOf n_is_heap (defScope (top 27))) b_is_heap (defBody (top 27)) = true := by decide +kernel
theorem chk_is_registers : chkSs D (scOf n_is_registers (defScope (top 28))) b_is_registers (defBody (top 28)) = true := by decide +kernel
theorem chk_padded : chkSs D (scOf n_padded (defScope (top 29))) b_padded (defBody (top 29)) = true := by decide +kernel
theorem chk_make_heap : chkSs D (scOf n_make_heap (defScope (top 30))) b_make_heap (defBody (top 30)) = true := by decide +kernel
theorem chk_reach_from : chkSs D (scOf n_reach_from (defScope (top 32))) b_reach_from (defBody (top 32)) = true := by decide +kernel
theorem chk_reachable : chkSs D (scOf n_reachable (defScope (top 33))) b_reachable (defBody (top 33)) = true := by decide +kernel
theorem chk_unreachable : chkSs D (scOf n_unreachable (defScope (top 34))) b_unreachable (defBody (top 34)) = true := by decide +kernel
theorem chk_path_to : chkSs D (scOf n_path_to (defScope (top 35))) b_path_to (defBody (top 35)) = true := by decide +kernel
theorem chk__law_pen : chkSs D (scOf n__law_pen (defScope (top 37))) b__law_pen (defBody (top 37)) = true := by decide +kernel
theorem chk__law_pick : chkSs D (scOf n__law_pick (defScope (top 38))) b__law_pick (defBody (top 38)) = true := by decide +kernel
theorem chk__law_mixed : chkSs D (scOf n__law_mixed (defScope (top 39))) b__law_mixed (defBody (top 39)) = true := by decide +kernel
theorem chk__law_reach : chkSs D (scOf n__law_reach (defScope (top 40))) b__law_reach (defBody (top 40)) = true := by decide +kernel
theorem chk__law_rows : chkSs D (scOf n__law_rows (defScope (top 41))) b__law_rows (defBody (top 41)) = true := by decide +kernel
theorem chk__law_world : chkSs D (scOf n__law_world (defScope (top 42))) b__law_world (defBody (top 42)) = true := by decide +kernel
theorem chk__law_draw : chkSs D (scOf n__law_draw (defScope (top 44))) b__law_draw (defBody (top 44)) = true := by decide +kernel
theorem chk__law_far : chkSs D (scOf n__law_far (defScope (top 45))) b__law_far (defBody (top 45)) = true := by decide +kernel
theorem chk_law : chkSs D { scOf n_law (defScope (top 46)) with lam := true } b_law (defBody (top 46)) = true := by decide +kernel
end C
end
/-! QBk -/
section
set_option linter.all false
set_option maxRecDepth 100000
set_option maxHeartbeats 4000000
namespace Q
open PySem PySem.Spec PyProof.Rows L2
/-- a binding that ends by making the tuple of what is left over; defaults of keyword-only parameters are looked up ahead of that -/
inductive BForm (K : PySem.W.Frag) (rest : List Value) (r : Value → List (PySem.Str × Value)) : Sem (List (PySem.Str × Value)) → Prop
  | tup {m : Sem (List (PySem.Str × Value))} : m = (newTuple rest >>= fun t => pure (r t)) → BForm K rest r m
  | dfl {m : Sem (List (PySem.Str × Value))} {D : Addr} {q : PySem.Str} {v : Value} {β γ : Type} {k1 : Option Value → Sem β} {k2 : β → Sem γ} {k3 : γ → Sem (List (PySem.Str × Value))} {a : β} : m = (((nsGet D q >>= k1) >>= k2) >>= k3) → PySem.W.nsIn K D q = some (some v) → k1 (some v) = pure a → BForm K rest r (k2 a >>= k3) → BForm K rest r m
theorem BForm.run {K : PySem.W.Frag} {rest : List Value} {r : Value → List (PySem.Str × Value)} {m : Sem (List (PySem.Str × Value))} (h : BForm K rest r m) {M : Model} {A : Around} {E : Value → Shared → Prop} {Q : List (PySem.Str × Value) → Shared → Prop} {s : Shared} (kin : K.In s.heap) (hz : rest.length ≤ sizeLine)
    (hq : Q (r (.ref s.heap.objs.size)) { s with heap := s.heap.push { cls := .type "tuple", data := .seq rest.toArray } }) : wpAny M A m Q E s := by
  induction h with
  | tup e => rw [e]; exact wpAny_bind (wpAny_newTuple (wpAny_pure hq) hz)
  | dfl e hv hk _ ih =>
    rw [e, bind_assoc]
    exact wpAny_bind (((PySem.W.looks_nsIn kin hv).andThen (PySem.W.Looks.of_pure hk)).here ih)
theorem bk_rest {Z : Ctx} {ck : CK} {fd : FuncData} {ps : List PySem.Str} {m : Nat} {pre : List Value → List Value → List Value} (hnp : ck.np ≤ 1000)
    (hb : ∀ us ws : List Value, ck.np ≤ us.length → (ck.open_ = false → us.length = ck.np) → ws.length = ck.ks.length → BForm Z.K (us.drop m) (fun t => ps.zip (pre us ws ++ [t])) (bindArgs fd ⟨us, ck.ks.zip ws⟩))
    (hrel : ∀ (F : Hp) (as : List Addr) (us ws : List Value) (vs zs : List V) (ts uts xs : List T), Vals vs us → Vals zs ws → Reps Z.K F as vs ts → Reps Z.K F as zs uts → ck.np ≤ ts.length → uts.length = ck.ks.length → arrange ts uts ck.arr = some xs → ∃ vp tp, xs = tp ++ [.tup (ts.drop m)] ∧ Vals vp (pre us ws) ∧ Reps Z.K F as vp tp ∧ tp.length + 1 = ps.length) : Bk Z ck fd ps := by
  intro A outer s H E us ws vs zs F as ts uts st xs e0 r rz sF So rt ru hl hz e A' Ex Q h
  have hlu : us.length = ts.length := by rw [← r.length, rt.length]
  have h1 : ck.np ≤ ts.length := by rcases hl with q | ⟨_, q, _⟩ <;> omega
  have h2 : ts.length ≤ sizeLine := by
    rcases hl with q | ⟨_, _, q⟩
    · rw [q, sizeLine_eq]; omega
    · exact q
  obtain ⟨vp, tp, rfl, k1, k2, k3⟩ := hrel F as us ws vs zs ts uts xs r rz rt ru h1 hz e
  have kin : Z.K.In s.heap := e0.mod.kin.keeps fun b o e => (e0.bs b o e).1
  have hdl : (us.drop m).length ≤ sizeLine := by rw [List.length_drop]; omega
  have lw : ws.length = ck.ks.length := by rw [← rz.length, ru.length]; exact hz
  refine (hb us ws (by rw [hlu]; exact h1) (fun q => ?_) lw).run kin hdl ?_
  · rcases hl with z | ⟨z, _⟩
    · rw [hlu]; exact z
    · rw [z] at q; cases q
  have hn : H s.heap.objs.size = Option.none := e0.hok.fresh (Nat.le_refl _)
  have rd : Vals (vs.drop m) (us.drop m) := r.drop m
  have hdv : (vs.drop m).length ≤ sizeLine := by rw [rd.length]; exact hdl
  have new : ObjOk Z.P Z.w (upd H s.heap.objs.size (.tup (vs.drop m))) (s.heap.push ({ cls := .type "tuple", data := .seq (us.drop m).toArray } : Obj)) s.heap.objs.size (.tup (vs.drop m)) := ⟨hdv, _, rd, ⟨_, Heap.get?_push_size _ rfl, rfl, _, rfl⟩⟩
  have un := StX.un_laid (fs := frs outer) (s := s) (o := ({ cls := .type "tuple", data := .seq (us.drop m).toArray } : Obj)) (u := .tup (vs.drop m)) hn
  have n2 := nxt_new (as := as) (o := .tup (vs.drop m)) sF hn
  refine h _ (upd H s.heap.objs.size (.tup (vs.drop m))) (vp ++ [V.ref s.heap.objs.size]) (pre us ws ++ [Value.ref s.heap.objs.size]) (StX.env0_laid e0 new) un rfl (fun e s' => StX.cxUp outer s H _ _ E e s' un (fun b o q => Heap.get?_push_of_some _ q) rfl) (k1.append (.cons rfl .nil)) ?_ ⟨upd F s.heap.objs.size (.tup (vs.drop m)), n2, sub_upd2 sF, So.new sF hn, (k2.mono n2.ff n2.pre).append (.cons (.tup (SqT.of upd_same) hdv ((rt.drop m).mono n2.ff n2.pre)) .nil)⟩
  rw [List.length_append, k2.length]
  exact k3
end Q
end
/-! QLaw -/
section
set_option linter.all false
set_option maxRecDepth 100000
set_option maxHeartbeats 4000000
namespace Q
open PySem PySem.Spec PyProof.Rows L2
/-- the law's scope: lambdas may be heard in it -/
def scL (N : List PySem.Str) (scope : Scope) : Sc := { scOf N scope with lam := true }
theorem at_lawT {Z : Ctx} {N ps : List PySem.Str} {qual : PySem.Str} {scope : Scope} {f c : Addr} {A : Around} {outer : List PySem.Env} {s : Shared} {H : Hp} {E : XK} (hfree : ∀ x ∈ blts, Z.mg x = none) (S : FnScope N ps scope) (hr : Room (Z.kc + 4) (A.deeper (envOfC qual scope s.heap.objs.size f (.ref c)))) (TB : LamX.TabB Z.base Z.mg c Z.tP) (hq : (qual ++ ".<locals>." : PySem.Str) ++ "<lambda>" = Z.tq) :
    At Z (scL N scope) W0 (cxOf L2.CX0 Z.P Z.w Z.K Z.mg Z.base N qual scope f (.ref c) A outer s H E) := by
  have B := at_law (Z := Z) (cd := .ref c) (outer := outer) (H := H) (E := E) hfree S hr
  exact { g := ⟨B.g.calm, B.g.takes, B.g.nd, B.g.N, B.g.kd, B.g.units, B.g.free, B.g.fnc, B.g.fkind⟩, P := B.P, w := B.w, K := B.K, mg := B.mg, base := B.base, room := B.room, po := B.po, lam := fun _ => ⟨c, rfl, TB, hq⟩ }
def spLawT (K : PySem.W.Frag) (P : Addr) : Sp := fun vs H Q _ => ∃ (a : Addr) (ns : List Int), vs = [.ref a] ∧ H P = some (.tbl #[]) ∧ SqL K H a (ns.map V.int) ∧ ns.length ≤ 63 ∧ ∀ H', Q (.bl true) H'
theorem law_okT {Y : PCtx} (O : PrgOk Y) {n : Nat} {x qual : PySem.Str} {params : Arguments} {body : List Stmt} {scope : Scope} {dvs : List V} {kws : List (PySem.Str × V)} {f c : Addr} {fd : FuncData} {N : List PySem.Str} {fn : Fn}
    (Fd : FunD Y.K x qual params body scope dvs kws f fd) (S : FnScope N ["script"] scope) (h2 : fn.ns = N.length) (hc : chkSs Y.D (scL N scope) fn.body body = true) (hcode : fd.code = .ref c) (TB : LamX.TabB Y.base Y.mg c Y.tP) (hq : (qual ++ ".<locals>." : PySem.Str) ++ "<lambda>" = Y.tq)
    (hlaw : ∀ ns : List Int, ns.length ≤ 63 → ∃ st, finish (evalSs (Y.p.viaK (Y.p.callN n)) Y.p.hear Y.p.W fn.body (Slot.val (.scr (ns.map T.int)) :: List.replicate (fn.ns - 1) Slot.no) [.tab Y.tP Y.tq]) = .ok (.bl true) st) :
    FnOk Y.P Y.w Y.K Y.mg Y.base L2.CX0 (5 * n + 5) f fd ["script"] (spLawT Y.K Y.tP) := by
  obtain ⟨oc, od, dV, kV, doc, pm, an, cdv, ct, osl, rfl, lk, hcd, _, _⟩ := Fd.ex
  have hcode : cdv = .ref c := hcode
  subst hcode
  refine fn_of lk hcd S (fun vs H Q E h => by obtain ⟨a, ns, rfl, _⟩ := h; rfl) fun A outer s H vs Q E hr h => ?_
  obtain ⟨a, ns, rfl, hP, hS, hn, hQ⟩ := h
  have A2 := at_lawT (Z := Y.at n) (outer := outer) (s := s) (H := H) (E := E) O.free S hr TB hq
  let F : Hp := fun b => if b = a ∧ b ≠ Y.tP then H b else none
  have hz : (ns.map V.int).length ≤ sizeLine := by rw [List.length_map, sizeLine_eq]; omega
  have sF : Sub F H := fun b o e => by
    have e : (if b = a ∧ b ≠ Y.tP then H b else none) = some o := e
    split at e
    · exact e
    · cases e
  have fP : F Y.tP = none := if_neg fun z => z.2 rfl
  have sS : SqL Y.K F a (ns.map V.int) := by
    rcases hS with h | h
    · refine .inl ?_
      have na : a ≠ Y.tP := fun z => by
        rcases h with h | ⟨o, h⟩
        · rw [z, hP] at h; cases h
        · rw [z, hP] at h; cases h
      have e : F a = H a := if_pos ⟨rfl, na⟩
      unfold Rd at h ⊢
      rw [e]; exact h
    · exact .inr h
  refine ⟨_, snd_Ss (facts_n O n) rfl hc A2, ⟨F, [Y.tP], H⟩, F, [Y.tP], _, [.tab Y.tP Y.tq], start_sim (xs := [.scr (ns.map T.int)]) sF ⟨rfl, by simp, fun i b t e1 e2 => ?_⟩ (.cons (.scr sS hz (Reps.ofInts ns)) .nil) ?_, ?_⟩
  · cases i with
    | zero =>
      have e1 : Y.tP = b := by simpa using e1
      have e2 : T.tab Y.tP Y.tq = t := by simpa using e2
      subst e1 e2
      exact ⟨fP, .inr ⟨Y.tq, rfl, #[], hP, trivial, fun pos cv z => by have z : codeAmong pos [] = some cv := z; simp [codeAmong] at z⟩⟩
    | succ i => simp at e1
  · have := congrArg List.length S.pre
    rw [List.length_take] at this
    simp at this ⊢
    omega
  · obtain ⟨st, e⟩ := hlaw ns hn
    rw [h2] at e
    have e : finish (evalSs (Y.at n).call (Y.at n).hear Y.p.W fn.body ([T.scr (ns.map T.int)].map Slot.val ++ List.replicate (N.length - [T.scr (ns.map T.int)].length) Slot.no) [.tab Y.tP Y.tq]) = .ok (.bl true) st := e
    show OutS Y.K Y.xi W0 ⟨F, [Y.tP], H⟩ _ (evalSs (Y.at n).call (Y.at n).hear Y.p.W fn.body ([T.scr (ns.map T.int)].map Slot.val ++ List.replicate (N.length - [T.scr (ns.map T.int)].length) Slot.no) [.tab Y.tP Y.tq])
    cases eb : evalSs (Y.at n).call (Y.at n).hear Y.p.W fn.body ([T.scr (ns.map T.int)].map Slot.val ++ List.replicate (N.length - [T.scr (ns.map T.int)].length) Slot.no) [.tab Y.tP Y.tq] with
    | rt t st' =>
      rw [eb] at e
      injection e with e1 e2
      subst e1
      intro F' as' H' v _ _ _ r
      cases r
      exact hQ H'
    | nx ρ st' => rw [eb] at e; injection e with e1 _; cases e1
    | ex x st' => rw [eb] at e; cases e
    | bk ρ st' => rw [eb] at e; cases e
    | ct ρ st' => rw [eb] at e; cases e
    | bad => rw [eb] at e; cases e
/-! ### the head: what the top has written, with any looks at it, and the law's table -/
def lawAt (g : Addr → Option Obj) (n : Nat) (x : PySem.Str) : Addr × Addr := match g (He.ga (He.frG g (He.asD g n)) x) with
  | some ⟨_, _, .func fd, _⟩ => (match fd.code with
    | .ref c => (match g c with
      | some ⟨_, _, .fields vs, _⟩ => (match (vs[11]? : Option Value) with
        | some (.ref P) => (c, P)
        | _ => (0, 0))
      | _ => (0, 0))
    | _ => (0, 0))
  | _ => (0, 0)
def cutK (g : Addr → Option Obj) (n : Nat) (P : Addr) : PySem.W.Frag := He.frG g ((He.asD g n).filter fun a => !(a == P))
def tabE (o : Option Obj) : Bool := match o with
  | some ⟨.none, none, .fields vs, sl⟩ => vs.size == 0 && sl.size == 0
  | _ => false
theorem tabE_ok {o : Option Obj} (h : tabE o = true) : o = some { cls := .none, data := .fields #[] } := by
  unfold tabE at h
  split at h
  · rename_i vs sl
    simp only [Bool.and_eq_true, beq_iff_eq] at h
    rw [Array.eq_empty_of_size_eq_zero h.1, Array.eq_empty_of_size_eq_zero h.2]
  · cases h
def refIs : Value → Addr → Bool
  | .ref d, c => d == c
  | _, _ => false
theorem refIs_ok {v : Value} {c : Addr} (h : refIs v c = true) : v = .ref c := by
  cases v <;> first | (cases h; done) | (rw [beq_iff_eq.mp (show (_ == c) = true from h)])
def codeB (K : PySem.W.Frag) (x : PySem.Str) (c : Addr) : Bool := match K.lookup (He.ga K x) with
  | some ⟨_, _, .func fd, _⟩ => refIs fd.code c
  | _ => false
theorem codeB_ok {K : PySem.W.Frag} {x nm qual : PySem.Str} {c : Addr} {params : Arguments} {body : List Stmt} {scope : Scope} {dvs : List V} {kws : List (PySem.Str × V)} {fd : FuncData} (h : codeB K x c = true) (F : FunD K nm qual params body scope dvs kws (He.ga K x) fd) : fd.code = .ref c := by
  obtain ⟨oc, od, dV, kV, doc, pm, an, cdv, ct, osl, e, lk, _⟩ := F.ex
  unfold codeB at h
  rw [lk] at h
  exact refIs_ok h
structure SaysX (fa : List He.Fa) (fn : List He.DefD) (bx : PySem.W.Frag → Bool) (x : PySem.Str) (K : PySem.W.Frag) (c P : Addr) (h : Heap) : Prop where
  kin : K.In h
  d : He.SaysD fa fn K
  b : bx K = true
  no : K.lookup P = none
  hd : PySem.W.codeHdIn K c P = true
  cd : codeB K x c = true
  tab : h.get? P = some { cls := .none, data := .fields #[] }
def tabX (bx : PySem.W.Frag → Bool) (x : PySem.Str) (g : Addr → Option Obj) (K : PySem.W.Frag) (c P : Addr) : Bool := bx K && ((K.lookup P).isNone && (PySem.W.codeHdIn K c P && (codeB K x c && tabE (g P))))
def obsX (n : Nat) (fa : List He.Fa) (fn : List He.DefD) (bx : PySem.W.Frag → Bool) (x : PySem.Str) (g : Addr → Option Obj) : He.AlD × Bool :=
  match lawAt g n x with
  | (c, P) => (He.obsD fa fn (cutK g n P), tabX bx x g (cutK g n P) c P)
def hookX (n : Nat) (fa : List He.Fa) (fn : List He.DefD) (bx : PySem.W.Frag → Bool) (x : PySem.Str) : PySem.W.Hook where
  α := He.AlD × Bool
  obs := fun s => obsX n fa fn bx x s.heap.get?
  val := fun _ => (He.valD fn, true)
  says := fun _ h => ∃ (K : PySem.W.Frag) (c P : Addr), SaysX fa fn bx x K c P h
  of := fun _ s e => by
    unfold obsX at e
    obtain ⟨c, P⟩ : Addr × Addr := lawAt s.heap.get? n x
    generalize lawAt s.heap.get? n x = cp at e
    obtain ⟨c, P⟩ := cp
    have e1 : He.obsD fa fn (cutK s.heap.get? n P) = He.valD fn := congrArg Prod.fst e
    have e2 : tabX bx x s.heap.get? (cutK s.heap.get? n P) c P = true := congrArg Prod.snd e
    unfold tabX at e2
    simp only [Bool.and_eq_true] at e2
    obtain ⟨k1, k2, k3, k4, k5⟩ := e2
    exact ⟨cutK s.heap.get? n P, c, P, He.frG_in, e1, k1, Option.isNone_iff_eq_none.mp k2, k3, k4, tabE_ok k5⟩
  keeps := fun _ _ _ ⟨K, c, P, S⟩ k => ⟨K, c, P, PySem.W.Frag.In.keeps S.kin k, S.d, S.b, S.no, S.hd, S.cd, k _ _ S.tab⟩
theorem obsX_eq {n : Nat} {fa : List He.Fa} {fn : List He.DefD} {bx : PySem.W.Frag → Bool} {x : PySem.Str} {g : Addr → Option Obj} {s : Shared} (h : ∀ a, g a = s.heap.get? a) : obsX n fa fn bx x g = (hookX n fa fn bx x).obs s := by
  have e : g = s.heap.get? := funext h
  rw [e] <;> rfl
/-- the law's end, over such a head -/
theorem walk_X {l : PySem.W.OpenLaw} {k : Nat} {q : Program} {loose : List PySem.Str} {XP : (PySem.Str → Option Value) → Heap → Prop} {YP : World → Heap → Prop} {d : DefRec}
    (hn : l.most = some 63) (hdf : d.params.defaults = []) (hr : Room k callerA)
    (F : ∀ (w : World) (mg : PySem.Str → Option Value) (fa : Addr) (h : Heap), YP w h → h.Ns mainGlobals mg → mg d.name = some (.ref fa) →
      ∃ (K : PySem.W.Frag) (c P : Addr) (fd : FuncData), K.In h ∧ h.get? P = some { cls := .none, data := .fields #[] } ∧ K.lookup P = none ∧ PySem.W.CodeHd h c P ∧ (∀ (s : Shared) (u : Value), BindsTo s fd ⟨[u], []⟩ [("script", u)]) ∧
        ∀ base : Heap, K.In base → base.Ns mainGlobals mg → LamX.TabB base mg c P → FnOk l.prog w K mg base L2.CX0 k fa fd ["script"] (spLawT K P)) : PySem.W.WalkO q loose XP YP l.row.toRowW d [] (fun f vs => PySem.call f vs) := by
  refine Att.attach_callB hn hdf fun w s₀ s₁ mg mb fa o pm cd doc a vs ns G Y ho hd hcd hmg hobj hints hlen hbits hg => ?_
  obtain ⟨K, c, P, fd, KX, hT, nT, C, hb, hF⟩ := F w mg fa _ Y G.T.g hmg
  refine LamX.law_callTs (cs := [(c, P)]) (x := "script") (sp := spLawT K P) KX G.T.g G.T.b G.T.builtins G.T.nolimit hg (fun p hp => ?_) (fun p hp => ?_) (fun p hp => ?_) G.T.bmain hobj hints (Nat.le_trans hlen (by rw [sizeLine_eq]; omega)) hr (fun base kb nb tb => hF base kb nb (tb (c, P) List.mem_cons_self)) hb (fun H hH hS => ⟨a, ns, rfl, hH (c, P) List.mem_cons_self, hS, hlen, fun _ => rfl⟩) fun H e s' z => z
  · obtain rfl := List.mem_singleton.mp hp; exact hT
  · obtain rfl := List.mem_singleton.mp hp; exact nT
  · obtain rfl := List.mem_singleton.mp hp; exact C
end Q
end
/-! QFacts -/
section
set_option linter.all false
set_option maxRecDepth 100000
set_option maxHeartbeats 4000000
namespace Q
open PySem PySem.Spec PyProof.Rows L2
/-! ### what the head must tell of the exceptions' classes, as looks -/
def mroB (bmB : List Value) : List Value → Bool
  | .ref a :: r => mroB bmB r
  | l => l == bmB
theorem mroB_ok {bmB : List Value} : ∀ {bm : List Value}, mroB bmB bm = true → ∃ l, bm = mroOn l bmB := by
  intro bm
  induction bm with
  | nil => intro h; exact ⟨[], beq_iff_eq.mp h⟩
  | cons v r ih =>
    intro h
    cases v with
    | ref a =>
      obtain ⟨l, e⟩ := ih h
      exact ⟨a :: l, by rw [e]; rfl⟩
    | _ => exact ⟨[], beq_iff_eq.mp h⟩
def clsIB (K : PySem.W.Frag) (C : Addr) (bmB : List Value) (newId : String) : Bool := match K.lookup C with
  | some ⟨.type t, _, .cls cd, sl⟩ => decide (t = "type") && (match cd.mro, sl.toList with
    | .ref C' :: bm, [_, _, _, _, some (.builtin n), _] => C' == C && decide (n = newId) && !cd.hasDel && cd.hasDict && mroB bmB bm
    | _, _ => false)
  | _ => false
theorem clsIB_ok {K : PySem.W.Frag} {C : Addr} {bmB : List Value} {newId : String} (h : clsIB K C bmB newId = true) : ∃ nm q N bs l sn sub ab col dd k0 k1 k2 k3 k5, K.lookup C = some (excClassObj nm q C N bs (mroOn l bmB) true sn sub ab col dd k0 k1 k2 k3 k5 newId) := by
  unfold clsIB at h
  split at h
  · rename_i t dd cd sl ho
    rw [Bool.and_eq_true] at h
    obtain ⟨ht, h⟩ := h
    have ht := of_decide_eq_true ht
    subst ht
    split at h
    · rename_i C' bm k0 k1 k2 k3 n k5 hm hs
      simp only [Bool.and_eq_true, beq_iff_eq, Bool.not_eq_true', decide_eq_true_eq] at h
      obtain ⟨⟨⟨⟨rfl, rfl⟩, hdel⟩, hd⟩, hmr⟩ := h
      obtain ⟨l, rfl⟩ := mroB_ok hmr
      obtain ⟨nm, bs, mro, ns, qn, hd', sn, sub, ab, col, del⟩ := cd
      dsimp only at hm hdel hd
      subst hm hdel hd
      have e : sl = #[k0, k1, k2, k3, some (.builtin n), k5] := by
        obtain ⟨z⟩ := sl
        simp only at hs
        rw [hs]
      subst e
      exact ⟨nm, qn, ns, bs, l, sn, sub, ab, col, dd, k0, k1, k2, k3, k5, ho⟩
    · cases h
  · cases h
abbrev cA (K : PySem.W.Frag) : PySem.Str → Addr := fun x => He.ga K x
/-- the clauses' classes -/
def hxB (K : PySem.W.Frag) (fl : PySem.Str → List PySem.Str) (names : List PySem.Str) : Bool :=
  decide (PySem.W.specialIn K (.builtin "object.__class__") "__get__" = some (some (.builtin "getset_descriptor.__get__"))) && (decide (PySem.W.takesIn K (.builtin "object.__class__") = some true) &&
    names.all fun x => decide (PySem.W.nsIn K mainGlobals x = some (some (.ref (cA K x)))) && (xfB K (cA K x) && (((fl x).all fun n => decide (PySem.W.findIn K (.ref (cA K x)) n = some none)) && ((PySem.W.clsIn K (cA K x)).isSome && (decide (PySem.W.findIn K (.ref (cA K x)) "__class__" = some (some (.builtin "object.__class__"))) && (decide (PySem.W.mroIn K (cA K x) (.type "object") = some true) &&
      (names.all fun c => decide (PySem.W.kitOne K (.ref (cA K x)) (.ref (cA K c)) = some (decide (x = c))) && decide (PySem.W.exmOne K (.ref (cA K x)) (.ref (cA K c)) = some (decide (x = c))))))))))
theorem hxB_ok {K : PySem.W.Frag} {h : Heap} {mg : PySem.Str → Option Value} {fl : PySem.Str → List PySem.Str} {names : List PySem.Str} (X : K.In h) (G : h.Ns mainGlobals mg) (hi : mg "isinstance" = none) (hb : hxB K fl names = true) : HxOk K mg ⟨cA K, fl⟩ names := by
  unfold hxB at hb
  simp only [Bool.and_eq_true, decide_eq_true_eq, List.all_eq_true] at hb
  obtain ⟨h1, h2, h3⟩ := hb
  exact ⟨hi, fun x hx => by
    obtain ⟨k1, k2, k3, k4, k5, k6, _⟩ := h3 x hx
    exact ⟨PySem.W.mg_of X G k1, xfB_ok k2, k3, k4, k5, k6⟩, h1, h2, fun x hx c hc => by
    obtain ⟨_, _, _, _, _, _, k7⟩ := h3 x hx
    exact (k7 c hc).1, fun x hx c hc => by
    obtain ⟨_, _, _, _, _, _, k7⟩ := h3 x hx
    exact (k7 c hc).2⟩
def veB : List Value := [.type "ValueError", .type "Exception", .type "BaseException", .type "object"]
def ieB : List Value := [.type "IndexError", .type "LookupError", .type "Exception", .type "BaseException", .type "object"]
/-- a class over ValueError without an __init__ of its own -/
def rs0B (K : PySem.W.Frag) (c : PySem.Str) : Bool :=
  PySem.W.excIn K (cA K c) veB "ValueError.__new__" && (decide (PySem.W.nsIn K mainGlobals c = some (some (.ref (cA K c)))) && (PySem.W.keepIn K (.ref (cA K c)) && (decide (PySem.W.subIn K (.ref (cA K c)) (.type "BaseException") = some true) && decide (PySem.W.typeIn K (.ref (cA K c)) = some (.type "type")))))
theorem rs0B_ok {K : PySem.W.Frag} {h : Heap} {mg : PySem.Str → Option Value} {fl : PySem.Str → List PySem.Str} {c : PySem.Str} (X : K.In h) (G : h.Ns mainGlobals mg) (hf : fl c = []) (hb : rs0B K c = true) : RsC K mg ⟨cA K, fl⟩ c 0 := by
  unfold rs0B at hb
  simp only [Bool.and_eq_true, decide_eq_true_eq] at hb
  obtain ⟨h1, h2, h3, h4, h5⟩ := hb
  exact .zero PySem.F.excBase_ValueError h1 (PySem.W.mg_of X G h2) h3 h4 h5 hf
/-- a class with an __init__ of its own that stores one field -/
def rs1B (K : PySem.W.Frag) (c fld : PySem.Str) (bmB : List Value) (newId : String) : Bool :=
  clsIB K (cA K c) bmB newId && (decide (PySem.W.findIn K (.ref (cA K c)) "__setattr__" = some (some (.builtin "object.__setattr__"))) && (decide (PySem.W.findIn K (.ref (cA K c)) fld = some none) && (decide (PySem.W.findIn K (.ref (cA K c)) "__init__" = some (some (.ref (He.ma K (cA K c) "__init__")))) && (decide (PySem.W.typeIn K (.ref (He.ma K (cA K c) "__init__")) = some (.type "function")) &&
    (decide (PySem.W.nsIn K mainGlobals c = some (some (.ref (cA K c)))) && (PySem.W.keepIn K (.ref (cA K c)) && (decide (PySem.W.subIn K (.ref (cA K c)) (.type "BaseException") = some true) && decide (PySem.W.typeIn K (.ref (cA K c)) = some (.type "type")))))))))
theorem rs1B_ok {K : PySem.W.Frag} {h : Heap} {mg : PySem.Str → Option Value} {fl : PySem.Str → List PySem.Str} {c fld prm qi : PySem.Str} {bmB : List Value} {B newId initId : String} (X : K.In h) (G : h.Ns mainGlobals mg) (hf : fl c = [fld]) (EB : ExcBaseFacts B newId initId bmB) (SF : StoreFacts B bmB "object.__setattr__" "object") (hb : rs1B K c fld bmB newId = true) (np : prm ≠ "self") (nd : (prm == ("__debug__" : PySem.Str)) = false)
    (fn : ∃ (params : Arguments) (scope : Scope) (fd : FuncData) (q1 q2 q3 q4 : Pos), FunD K "__init__" qi params [.Assign [.Attribute (.Name "self" q1) fld q2] (.Name prm q3) q4] scope [] [] (He.ma K (cA K c) "__init__") fd ∧ scope.kind = .function ∧ scope.isCoroutine = false ∧ scope.isGenerator = false ∧ scope.names = [(("self" : PySem.Str), NameKind.local), (prm, NameKind.local)] ∧ ∀ us : List Value, us.length = 2 → bindArgs fd ⟨us, []⟩ = pure ([("self" : PySem.Str), prm].zip us)) : RsC K mg ⟨cA K, fl⟩ c 1 := by
  unfold rs1B at hb
  simp only [Bool.and_eq_true, decide_eq_true_eq] at hb
  obtain ⟨h1, h2, h3, h4, h5, h6, h7, h8, h9⟩ := hb
  exact .one EB SF ⟨clsIB_ok h1, h2, h3, h4, h5, h7, h8, h9, fn, np, nd⟩ (PySem.W.mg_of X G h6) hf
/-- a plain def's binding -/
theorem FunD.plainB {K : PySem.W.Frag} {x qual : PySem.Str} {params : Arguments} {body : List Stmt} {scope : Scope} {kws : List (PySem.Str × V)} {f : Addr} {fd : FuncData} {ps : List PySem.Str} (F : FunD K x qual params body scope [] kws f fd)
    (h : ∀ (kV doc pm : Value) (an : Option Addr) (cdv ct : Value) (us : List Value), us.length = ps.length → bindArgs (PySem.W.fnOf x qual params body scope .none kV doc pm an cdv ct) ⟨us, []⟩ = pure (ps.zip us)) (us : List Value) (hl : us.length = ps.length) : bindArgs fd ⟨us, []⟩ = pure (ps.zip us) := by
  obtain ⟨oc, od, dV, kV, doc, pm, an, cdv, ct, osl, rfl, lk, hcd, hD, hK⟩ := F.ex
  rcases hD with ⟨_, rfl⟩ | ⟨e, _⟩
  · exact h kV doc pm an cdv ct us hl
  · exact absurd rfl e
end Q
end
/-! KH_k02 -/
section
set_option Elab.async false
set_option linter.all false
set_option maxRecDepth 100000
set_option maxHeartbeats 0
namespace C
open PySem PySem.Spec PyProof.Rows L2 Q
def topM (i j : Nat) : Stmt := (C8.clsBody (top i)).getD j (.Pass ⟨0, 0, 0, 0⟩)
def fn : List He.DefD := [⟨("is_between", none), "is_between", "is_between", defArgs (top 25), defBody (top 25), defScope (top 25), [], []⟩,
  ⟨("is_held", none), "is_held", "is_held", defArgs (top 26), defBody (top 26), defScope (top 26), [], []⟩,
  ⟨("is_heap", none), "is_heap", "is_heap", defArgs (top 27), defBody (top 27), defScope (top 27), [], []⟩,
  ⟨("is_registers", none), "is_registers", "is_registers", defArgs (top 28), defBody (top 28), defScope (top 28), [], []⟩,
  ⟨("padded", none), "padded", "padded", defArgs (top 29), defBody (top 29), defScope (top 29), [], []⟩,
  ⟨("make_heap", none), "make_heap", "make_heap", defArgs (top 30), defBody (top 30), defScope (top 30), [], [("width", .non)]⟩,
  ⟨("reach_from", none), "reach_from", "reach_from", defArgs (top 32), defBody (top 32), defScope (top 32), [], []⟩,
  ⟨("reachable", none), "reachable", "reachable", defArgs (top 33), defBody (top 33), defScope (top 33), [], []⟩,
  ⟨("unreachable", none), "unreachable", "unreachable", defArgs (top 34), defBody (top 34), defScope (top 34), [], []⟩,
  ⟨("path_to", none), "path_to", "path_to", defArgs (top 35), defBody (top 35), defScope (top 35), [], []⟩,
  ⟨("_law_pen", none), "_law_pen", "_law_pen", defArgs (top 37), defBody (top 37), defScope (top 37), [], []⟩,
  ⟨("_law_pick", none), "_law_pick", "_law_pick", defArgs (top 38), defBody (top 38), defScope (top 38), [], []⟩,
  ⟨("_law_mixed", none), "_law_mixed", "_law_mixed", defArgs (top 39), defBody (top 39), defScope (top 39), [], []⟩,
  ⟨("_law_reach", none), "_law_reach", "_law_reach", defArgs (top 40), defBody (top 40), defScope (top 40), [], []⟩,
  ⟨("_law_rows", none), "_law_rows", "_law_rows", defArgs (top 41), defBody (top 41), defScope (top 41), [], []⟩,
  ⟨("_law_world", none), "_law_world", "_law_world", defArgs (top 42), defBody (top 42), defScope (top 42), [], []⟩,
  ⟨("_law_heard", none), "_law_heard", "_law_heard", defArgs (top 43), defBody (top 43), defScope (top 43), [], []⟩,
  ⟨("_law_draw", none), "_law_draw", "_law_draw", defArgs (top 44), defBody (top 44), defScope (top 44), [], []⟩,
  ⟨("_law_far", none), "_law_far", "_law_far", defArgs (top 45), defBody (top 45), defScope (top 45), [], []⟩,
  ⟨("law", none), "law", "law", defArgs (top 46), defBody (top 46), defScope (top 46), [], []⟩,
  ⟨("NoObject", some "__init__"), "__init__", "NoObject.__init__", defArgs (topM 16 0), defBody (topM 16 0), defScope (topM 16 0), [], []⟩]
def fa : List He.Fa := [.glo "is_between", .glo "is_held", .glo "is_heap", .glo "is_registers", .glo "padded", .glo "make_heap", .glo "reach_from", .glo "reachable", .glo "unreachable", .glo "path_to", .glo "_law_pen", .glo "_law_pick", .glo "_law_mixed", .glo "_law_reach", .glo "_law_rows", .glo "_law_world", .glo "_law_heard", .glo "_law_draw", .glo "_law_far", .glo "law", .int "LEAST_WIDTH" 1, .int "MOST_WIDTH" 4, .int "MOST_OBJECTS" 40, .int "MOST_REGISTERS" 6, .free "len", .free "tuple", .free "list", .free "sorted", .free "abs", .free "int", .free "min", .free "max", .free "all", .free "any", .free "isinstance", .free "range", .free "enumerate", .free "zip", .free "set", .free "sum", .free "bool", .free "str", .free "dict", .free "repr"]
def bx (K : PySem.W.Frag) : Bool := hxB K flF nmH && (rs0B K "InvalidHeap" && rs1B K "NoObject" "index" ieB "IndexError.__new__")
def loose0 : List PySem.Str := ["ShadeError", "InvalidEntry", "InvalidFresh", "InvalidRoots", "InvalidHeap", "InvalidRegisters", "InvalidState", "InvalidStep", "InvalidCertificate", "InvalidChange", "InvalidGoal", "ParseError", "UnknownCommand", "Started", "Mismatch", "NoObject", "NoInvariant", "NothingToUndo", "TooMany", "LEAST_WIDTH", "MOST_WIDTH", "MOST_OBJECTS", "MOST_REGISTERS", "is_between", "is_held"]
def loose1 : List PySem.Str := ["is_heap", "is_registers", "padded", "make_heap", "reach_from", "reachable", "unreachable", "path_to", "_law_pen", "_law_pick", "_law_mixed", "_law_reach", "_law_rows", "_law_world", "_law_heard", "_law_draw", "_law_far"]
def loose : List PySem.Str := loose0 ++ loose1
abbrev RowL : PySem.W.OpenRow := PySem.W.OpenLaw.row PySem.Challenge.rw_swapguards_k02_whole_great_heaps_gone_th
abbrev hk : PySem.W.Hook := hookX 5 fa fn bx "law"
def ob (s : PySem.W.SharedT) : He.AlD × Bool := obsX 5 fa fn bx "law" (HandSHeadRun.getT s)
theorem ob_eq (s : PySem.W.SharedT) : ob s = hk.obs s.abs := obsX_eq (HandSHeadRun.getT_eq s)
theorem run (w : World) : HandSHeadRun.RunEq RowL (PySem.W.view RowL.prog [46]) hk ob 6000 loose w := by
  intro os
  kernel_rfl
end C
end
/-! KF_k02 -/
section
set_option Elab.async false
set_option linter.all false
set_option maxRecDepth 100000
set_option maxHeartbeats 4000000
namespace C
open PySem PySem.Spec PyProof.Rows L2 Q
def xiK (K : PySem.W.Frag) : XI := ⟨cA K, flF⟩
abbrev theP : Program := PySem.Challenge.pw_swapguards_k02_whole_great_heaps_gone_th
def pctx (w : World) (K : PySem.W.Frag) (mg : PySem.Str → Option Value) (base : Heap) (tP : Addr) : PCtx := ⟨theP, w, K, mg, base, xiK K, D, prg tP, tP, tqL⟩
theorem arr1 : ∀ (ts xs : List T), ts.length = 1 → arrange ts [] [.at 0] = some xs → xs = ts
  | [a], xs, _, h => by simpa [arrange] using h.symm
theorem arr2 : ∀ (ts xs : List T), ts.length = 2 → arrange ts [] [.at 0, .at 1] = some xs → xs = ts
  | [a, b], xs, _, h => by simpa [arrange] using h.symm
theorem arr3 : ∀ (ts xs : List T), ts.length = 3 → arrange ts [] [.at 0, .at 1, .at 2] = some xs → xs = ts
  | [a, b, c], xs, _, h => by simpa [arrange] using h.symm
section
variable {w : World} {K : PySem.W.Frag} {mg : PySem.Str → Option Value} {base h : Heap} {tP : Addr}
variable (X : K.In h) (G : h.Ns mainGlobals mg) (S : He.SaysD fa fn K)
include X G S
theorem d_0 : DefOk (pctx w K mg base tP) "is_between" (ckL.getD 0 ("", ⟨0, 0, false, [], []⟩)).2 := by
  obtain ⟨fd, F⟩ := S.def_ 0 rfl
  have e : mg "is_between" = some (.ref (He.ga K "is_between")) := He.glo_ok X G (S.fact 0 (f := .glo "is_between") rfl)
  refine ⟨_, _, _, _, _, _, _, _, fd, n_is_between, ["thing", "least", "most"], fn_is_between, e, F, C8.fnScope_by (by decide +kernel), rfl, rfl, rfl, chk_is_between, fun m => ?_⟩
  exact bk_plain rfl rfl rfl (FunD.plainB F fun _ _ _ _ _ _ us hl => match us, hl with | [_, _, _], _ => rfl) arr3
theorem d_1 : DefOk (pctx w K mg base tP) "is_held" (ckL.getD 1 ("", ⟨0, 0, false, [], []⟩)).2 := by
  obtain ⟨fd, F⟩ := S.def_ 1 rfl
  have e : mg "is_held" = some (.ref (He.ga K "is_held")) := He.glo_ok X G (S.fact 1 (f := .glo "is_held") rfl)
  refine ⟨_, _, _, _, _, _, _, _, fd, n_is_held, ["thing", "many"], fn_is_held, e, F, C8.fnScope_by (by decide +kernel), rfl, rfl, rfl, chk_is_held, fun m => ?_⟩
  exact bk_plain rfl rfl rfl (FunD.plainB F fun _ _ _ _ _ _ us hl => match us, hl with | [_, _], _ => rfl) arr2
theorem d_2 : DefOk (pctx w K mg base tP) "padded" (ckL.getD 2 ("", ⟨0, 0, false, [], []⟩)).2 := by
  obtain ⟨fd, F⟩ := S.def_ 4 rfl
  have e : mg "padded" = some (.ref (He.ga K "padded")) := He.glo_ok X G (S.fact 4 (f := .glo "padded") rfl)
  refine ⟨_, _, _, _, _, _, _, _, fd, n_padded, ["fields", "width"], fn_padded, e, F, C8.fnScope_by (by decide +kernel), rfl, rfl, rfl, chk_padded, fun m => ?_⟩
  exact bk_plain rfl rfl rfl (FunD.plainB F fun _ _ _ _ _ _ us hl => match us, hl with | [_, _], _ => rfl) arr2
theorem d_3 : DefOk (pctx w K mg base tP) "is_heap" (ckL.getD 3 ("", ⟨0, 0, false, [], []⟩)).2 := by
  obtain ⟨fd, F⟩ := S.def_ 2 rfl
  have e : mg "is_heap" = some (.ref (He.ga K "is_heap")) := He.glo_ok X G (S.fact 2 (f := .glo "is_heap") rfl)
  refine ⟨_, _, _, _, _, _, _, _, fd, n_is_heap, ["thing"], fn_is_heap, e, F, C8.fnScope_by (by decide +kernel), rfl, rfl, rfl, chk_is_heap, fun m => ?_⟩
  exact bk_plain rfl rfl rfl (FunD.plainB F fun _ _ _ _ _ _ us hl => match us, hl with | [_], _ => rfl) arr1
theorem d_4 : DefOk (pctx w K mg base tP) "reach_from" (ckL.getD 4 ("", ⟨0, 0, false, [], []⟩)).2 := by
  obtain ⟨fd, F⟩ := S.def_ 6 rfl
  have e : mg "reach_from" = some (.ref (He.ga K "reach_from")) := He.glo_ok X G (S.fact 6 (f := .glo "reach_from") rfl)
  refine ⟨_, _, _, _, _, _, _, _, fd, n_reach_from, ["heap", "objects"], fn_reach_from, e, F, C8.fnScope_by (by decide +kernel), rfl, rfl, rfl, chk_reach_from, fun m => ?_⟩
  refine bk_rest (m := 1) (pre := fun us _ => us.take 1) (by decide) (fun us ws h1 h2 h3 => ?_) (fun F' as us ws vs zs ts uts xs r rz rt ru h1 hz e => ?_)
  · cases us with
    | nil => exact absurd h1 (by decide)
    | cons u us =>
      obtain ⟨oc, od, dV, kV, doc, pm, an, cdv, ct, osl, rfl, lk, hcd, hD, hK⟩ := F.ex
      rcases hD with ⟨_, rfl⟩ | ⟨e, _⟩
      · refine .tup ?_
        cases us with
        | nil => rfl
        | cons u2 us => rfl
      · exact absurd rfl e
  · cases r with
    | nil => cases rt; exact absurd h1 (by decide)
    | cons r1 r2 =>
      cases rt with
      | cons t1 t2 =>
        refine ⟨[_], [_], ?_, .cons r1 .nil, .cons t1 .nil, rfl⟩
        exact (Option.some.inj e).symm
theorem d_5 : DefOk (pctx w K mg base tP) "reachable" (ckL.getD 5 ("", ⟨0, 0, false, [], []⟩)).2 := by
  obtain ⟨fd, F⟩ := S.def_ 7 rfl
  have e : mg "reachable" = some (.ref (He.ga K "reachable")) := He.glo_ok X G (S.fact 7 (f := .glo "reachable") rfl)
  refine ⟨_, _, _, _, _, _, _, _, fd, n_reachable, ["heap", "registers"], fn_reachable, e, F, C8.fnScope_by (by decide +kernel), rfl, rfl, rfl, chk_reachable, fun m => ?_⟩
  exact bk_plain rfl rfl rfl (FunD.plainB F fun _ _ _ _ _ _ us hl => match us, hl with | [_, _], _ => rfl) arr2
theorem d_6 : DefOk (pctx w K mg base tP) "_law_draw" (ckL.getD 6 ("", ⟨0, 0, false, [], []⟩)).2 := by
  obtain ⟨fd, F⟩ := S.def_ 17 rfl
  have e : mg "_law_draw" = some (.ref (He.ga K "_law_draw")) := He.glo_ok X G (S.fact 17 (f := .glo "_law_draw") rfl)
  refine ⟨_, _, _, _, _, _, _, _, fd, n__law_draw, ["pen", "many"], fn__law_draw, e, F, C8.fnScope_by (by decide +kernel), rfl, rfl, rfl, chk__law_draw, fun m => ?_⟩
  exact bk_plain rfl rfl rfl (FunD.plainB F fun _ _ _ _ _ _ us hl => match us, hl with | [_, _], _ => rfl) arr2
theorem d_7 : DefOk (pctx w K mg base tP) "_law_pick" (ckL.getD 7 ("", ⟨0, 0, false, [], []⟩)).2 := by
  obtain ⟨fd, F⟩ := S.def_ 11 rfl
  have e : mg "_law_pick" = some (.ref (He.ga K "_law_pick")) := He.glo_ok X G (S.fact 11 (f := .glo "_law_pick") rfl)
  refine ⟨_, _, _, _, _, _, _, _, fd, n__law_pick, ["pen", "some"], fn__law_pick, e, F, C8.fnScope_by (by decide +kernel), rfl, rfl, rfl, chk__law_pick, fun m => ?_⟩
  exact bk_plain rfl rfl rfl (FunD.plainB F fun _ _ _ _ _ _ us hl => match us, hl with | [_, _], _ => rfl) arr2
theorem d_8 : DefOk (pctx w K mg base tP) "_law_rows" (ckL.getD 8 ("", ⟨0, 0, false, [], []⟩)).2 := by
  obtain ⟨fd, F⟩ := S.def_ 14 rfl
  have e : mg "_law_rows" = some (.ref (He.ga K "_law_rows")) := He.glo_ok X G (S.fact 14 (f := .glo "_law_rows") rfl)
  refine ⟨_, _, _, _, _, _, _, _, fd, n__law_rows, ["pen", "wide", "many"], fn__law_rows, e, F, C8.fnScope_by (by decide +kernel), rfl, rfl, rfl, chk__law_rows, fun m => ?_⟩
  exact bk_plain rfl rfl rfl (FunD.plainB F fun _ _ _ _ _ _ us hl => match us, hl with | [_, _, _], _ => rfl) arr3
theorem d_9 : DefOk (pctx w K mg base tP) "_law_pen" (ckL.getD 9 ("", ⟨0, 0, false, [], []⟩)).2 := by
  obtain ⟨fd, F⟩ := S.def_ 10 rfl
  have e : mg "_law_pen" = some (.ref (He.ga K "_law_pen")) := He.glo_ok X G (S.fact 10 (f := .glo "_law_pen") rfl)
  refine ⟨_, _, _, _, _, _, _, _, fd, n__law_pen, ["script"], fn__law_pen, e, F, C8.fnScope_by (by decide +kernel), rfl, rfl, rfl, chk__law_pen, fun m => ?_⟩
  exact bk_plain rfl rfl rfl (FunD.plainB F fun _ _ _ _ _ _ us hl => match us, hl with | [_], _ => rfl) arr1
theorem d_10 : DefOk (pctx w K mg base tP) "_law_world" (ckL.getD 10 ("", ⟨0, 0, false, [], []⟩)).2 := by
  obtain ⟨fd, F⟩ := S.def_ 15 rfl
  have e : mg "_law_world" = some (.ref (He.ga K "_law_world")) := He.glo_ok X G (S.fact 15 (f := .glo "_law_world") rfl)
  refine ⟨_, _, _, _, _, _, _, _, fd, n__law_world, ["pen", "most"], fn__law_world, e, F, C8.fnScope_by (by decide +kernel), rfl, rfl, rfl, chk__law_world, fun m => ?_⟩
  exact bk_plain rfl rfl rfl (FunD.plainB F fun _ _ _ _ _ _ us hl => match us, hl with | [_, _], _ => rfl) arr2
theorem d_11 : DefOk (pctx w K mg base tP) "_law_reach" (ckL.getD 11 ("", ⟨0, 0, false, [], []⟩)).2 := by
  obtain ⟨fd, F⟩ := S.def_ 13 rfl
  have e : mg "_law_reach" = some (.ref (He.ga K "_law_reach")) := He.glo_ok X G (S.fact 13 (f := .glo "_law_reach") rfl)
  refine ⟨_, _, _, _, _, _, _, _, fd, n__law_reach, ["rows", "some"], fn__law_reach, e, F, C8.fnScope_by (by decide +kernel), rfl, rfl, rfl, chk__law_reach, fun m => ?_⟩
  exact bk_plain rfl rfl rfl (FunD.plainB F fun _ _ _ _ _ _ us hl => match us, hl with | [_, _], _ => rfl) arr2
theorem d_12 : DefOk (pctx w K mg base tP) "_law_far" (ckL.getD 12 ("", ⟨0, 0, false, [], []⟩)).2 := by
  obtain ⟨fd, F⟩ := S.def_ 18 rfl
  have e : mg "_law_far" = some (.ref (He.ga K "_law_far")) := He.glo_ok X G (S.fact 18 (f := .glo "_law_far") rfl)
  refine ⟨_, _, _, _, _, _, _, _, fd, n__law_far, ["rows", "held"], fn__law_far, e, F, C8.fnScope_by (by decide +kernel), rfl, rfl, rfl, chk__law_far, fun m => ?_⟩
  exact bk_plain rfl rfl rfl (FunD.plainB F fun _ _ _ _ _ _ us hl => match us, hl with | [_, _], _ => rfl) arr2
theorem d_13 : DefOk (pctx w K mg base tP) "unreachable" (ckL.getD 13 ("", ⟨0, 0, false, [], []⟩)).2 := by
  obtain ⟨fd, F⟩ := S.def_ 8 rfl
  have e : mg "unreachable" = some (.ref (He.ga K "unreachable")) := He.glo_ok X G (S.fact 8 (f := .glo "unreachable") rfl)
  refine ⟨_, _, _, _, _, _, _, _, fd, n_unreachable, ["heap", "registers"], fn_unreachable, e, F, C8.fnScope_by (by decide +kernel), rfl, rfl, rfl, chk_unreachable, fun m => ?_⟩
  exact bk_plain rfl rfl rfl (FunD.plainB F fun _ _ _ _ _ _ us hl => match us, hl with | [_, _], _ => rfl) arr2
theorem d_14 : DefOk (pctx w K mg base tP) "is_registers" (ckL.getD 14 ("", ⟨0, 0, false, [], []⟩)).2 := by
  obtain ⟨fd, F⟩ := S.def_ 3 rfl
  have e : mg "is_registers" = some (.ref (He.ga K "is_registers")) := He.glo_ok X G (S.fact 3 (f := .glo "is_registers") rfl)
  refine ⟨_, _, _, _, _, _, _, _, fd, n_is_registers, ["heap", "thing"], fn_is_registers, e, F, C8.fnScope_by (by decide +kernel), rfl, rfl, rfl, chk_is_registers, fun m => ?_⟩
  exact bk_plain rfl rfl rfl (FunD.plainB F fun _ _ _ _ _ _ us hl => match us, hl with | [_, _], _ => rfl) arr2
theorem d_15 : DefOk (pctx w K mg base tP) "reach_from" (ckL.getD 15 ("", ⟨0, 0, false, [], []⟩)).2 := by
  obtain ⟨fd, F⟩ := S.def_ 6 rfl
  have e : mg "reach_from" = some (.ref (He.ga K "reach_from")) := He.glo_ok X G (S.fact 6 (f := .glo "reach_from") rfl)
  refine ⟨_, _, _, _, _, _, _, _, fd, n_reach_from, ["heap", "objects"], fn_reach_from, e, F, C8.fnScope_by (by decide +kernel), rfl, rfl, rfl, chk_reach_from, fun m => ?_⟩
  refine bk_rest (m := 1) (pre := fun us _ => us.take 1) (by decide) (fun us ws h1 h2 h3 => ?_) (fun F' as us ws vs zs ts uts xs r rz rt ru h1 hz e => ?_)
  · cases us with
    | nil => exact absurd h1 (by decide)
    | cons u us =>
      obtain ⟨oc, od, dV, kV, doc, pm, an, cdv, ct, osl, rfl, lk, hcd, hD, hK⟩ := F.ex
      rcases hD with ⟨_, rfl⟩ | ⟨e, _⟩
      · refine .tup ?_
        cases us with
        | nil => rfl
        | cons u2 us => rfl
      · exact absurd rfl e
  · cases r with
    | nil => cases rt; exact absurd h1 (by decide)
    | cons r1 r2 =>
      cases rt with
      | cons t1 t2 =>
        refine ⟨[_], [_], ?_, .cons r1 .nil, .cons t1 .nil, rfl⟩
        exact (Option.some.inj e).symm
theorem d_16 : DefOk (pctx w K mg base tP) "reach_from" (ckL.getD 16 ("", ⟨0, 0, false, [], []⟩)).2 := by
  obtain ⟨fd, F⟩ := S.def_ 6 rfl
  have e : mg "reach_from" = some (.ref (He.ga K "reach_from")) := He.glo_ok X G (S.fact 6 (f := .glo "reach_from") rfl)
  refine ⟨_, _, _, _, _, _, _, _, fd, n_reach_from, ["heap", "objects"], fn_reach_from, e, F, C8.fnScope_by (by decide +kernel), rfl, rfl, rfl, chk_reach_from, fun m => ?_⟩
  refine bk_rest (m := 1) (pre := fun us _ => us.take 1) (by decide) (fun us ws h1 h2 h3 => ?_) (fun F' as us ws vs zs ts uts xs r rz rt ru h1 hz e => ?_)
  · cases us with
    | nil => exact absurd h1 (by decide)
    | cons u us =>
      obtain ⟨oc, od, dV, kV, doc, pm, an, cdv, ct, osl, rfl, lk, hcd, hD, hK⟩ := F.ex
      rcases hD with ⟨_, rfl⟩ | ⟨e, _⟩
      · refine .tup ?_
        cases us with
        | nil => rfl
        | cons u2 us => rfl
      · exact absurd rfl e
  · cases r with
    | nil => cases rt; exact absurd h1 (by decide)
    | cons r1 r2 =>
      cases rt with
      | cons t1 t2 =>
        refine ⟨[_], [_], ?_, .cons r1 .nil, .cons t1 .nil, rfl⟩
        exact (Option.some.inj e).symm
theorem d_17 : DefOk (pctx w K mg base tP) "reach_from" (ckL.getD 17 ("", ⟨0, 0, false, [], []⟩)).2 := by
  obtain ⟨fd, F⟩ := S.def_ 6 rfl
  have e : mg "reach_from" = some (.ref (He.ga K "reach_from")) := He.glo_ok X G (S.fact 6 (f := .glo "reach_from") rfl)
  refine ⟨_, _, _, _, _, _, _, _, fd, n_reach_from, ["heap", "objects"], fn_reach_from, e, F, C8.fnScope_by (by decide +kernel), rfl, rfl, rfl, chk_reach_from, fun m => ?_⟩
  refine bk_rest (m := 1) (pre := fun us _ => us.take 1) (by decide) (fun us ws h1 h2 h3 => ?_) (fun F' as us ws vs zs ts uts xs r rz rt ru h1 hz e => ?_)
  · cases us with
    | nil => exact absurd h1 (by decide)
    | cons u us =>
      obtain ⟨oc, od, dV, kV, doc, pm, an, cdv, ct, osl, rfl, lk, hcd, hD, hK⟩ := F.ex
      rcases hD with ⟨_, rfl⟩ | ⟨e, _⟩
      · refine .tup ?_
        cases us with
        | nil => rfl
        | cons u2 us => rfl
      · exact absurd rfl e
  · cases r with
    | nil => cases rt; exact absurd h1 (by decide)
    | cons r1 r2 =>
      cases rt with
      | cons t1 t2 =>
        refine ⟨[_], [_], ?_, .cons r1 .nil, .cons t1 .nil, rfl⟩
        exact (Option.some.inj e).symm
theorem d_18 : DefOk (pctx w K mg base tP) "reach_from" (ckL.getD 18 ("", ⟨0, 0, false, [], []⟩)).2 := by
  obtain ⟨fd, F⟩ := S.def_ 6 rfl
  have e : mg "reach_from" = some (.ref (He.ga K "reach_from")) := He.glo_ok X G (S.fact 6 (f := .glo "reach_from") rfl)
  refine ⟨_, _, _, _, _, _, _, _, fd, n_reach_from, ["heap", "objects"], fn_reach_from, e, F, C8.fnScope_by (by decide +kernel), rfl, rfl, rfl, chk_reach_from, fun m => ?_⟩
  refine bk_rest (m := 1) (pre := fun us _ => us.take 1) (by decide) (fun us ws h1 h2 h3 => ?_) (fun F' as us ws vs zs ts uts xs r rz rt ru h1 hz e => ?_)
  · cases us with
    | nil => exact absurd h1 (by decide)
    | cons u us =>
      obtain ⟨oc, od, dV, kV, doc, pm, an, cdv, ct, osl, rfl, lk, hcd, hD, hK⟩ := F.ex
      rcases hD with ⟨_, rfl⟩ | ⟨e, _⟩
      · refine .tup ?_
        cases us with
        | nil => rfl
        | cons u2 us => rfl
      · exact absurd rfl e
  · cases r with
    | nil => cases rt; exact absurd h1 (by decide)
    | cons r1 r2 =>
      cases rt with
      | cons t1 t2 =>
        refine ⟨[_], [_], ?_, .cons r1 .nil, .cons t1 .nil, rfl⟩
        exact (Option.some.inj e).symm
theorem d_19 : DefOk (pctx w K mg base tP) "path_to" (ckL.getD 19 ("", ⟨0, 0, false, [], []⟩)).2 := by
  obtain ⟨fd, F⟩ := S.def_ 9 rfl
  have e : mg "path_to" = some (.ref (He.ga K "path_to")) := He.glo_ok X G (S.fact 9 (f := .glo "path_to") rfl)
  refine ⟨_, _, _, _, _, _, _, _, fd, n_path_to, ["heap", "registers", "x"], fn_path_to, e, F, C8.fnScope_by (by decide +kernel), rfl, rfl, rfl, chk_path_to, fun m => ?_⟩
  exact bk_plain rfl rfl rfl (FunD.plainB F fun _ _ _ _ _ _ us hl => match us, hl with | [_, _, _], _ => rfl) arr3
theorem d_20 : DefOk (pctx w K mg base tP) "_law_mixed" (ckL.getD 20 ("", ⟨0, 0, false, [], []⟩)).2 := by
  obtain ⟨fd, F⟩ := S.def_ 12 rfl
  have e : mg "_law_mixed" = some (.ref (He.ga K "_law_mixed")) := He.glo_ok X G (S.fact 12 (f := .glo "_law_mixed") rfl)
  refine ⟨_, _, _, _, _, _, _, _, fd, n__law_mixed, ["pen", "some"], fn__law_mixed, e, F, C8.fnScope_by (by decide +kernel), rfl, rfl, rfl, chk__law_mixed, fun m => ?_⟩
  exact bk_plain rfl rfl rfl (FunD.plainB F fun _ _ _ _ _ _ us hl => match us, hl with | [_, _], _ => rfl) arr2
theorem d_21 : DefOk (pctx w K mg base tP) "make_heap" (ckL.getD 21 ("", ⟨0, 0, false, [], []⟩)).2 := by
  obtain ⟨fd, F⟩ := S.def_ 5 rfl
  have e : mg "make_heap" = some (.ref (He.ga K "make_heap")) := He.glo_ok X G (S.fact 5 (f := .glo "make_heap") rfl)
  refine ⟨_, _, _, _, _, _, _, _, fd, n_make_heap, ["width", "objects"], fn_make_heap, e, F, C8.fnScope_by (by decide +kernel), rfl, rfl, rfl, chk_make_heap, fun m => ?_⟩
  refine bk_rest (m := 0) (pre := fun _ ws => ws.take 1) (by decide) (fun us ws h1 h2 h3 => ?_) (fun F' as us ws vs zs ts uts xs r rz rt ru h1 hz e => ?_)
  · obtain ⟨oc, od, dV, kV, doc, pm, an, cdv, ct, osl, rfl, lk, hcd, hD, hK⟩ := F.ex
    rcases hD with ⟨_, rfl⟩ | ⟨e, _⟩
    · have h2 := h2 rfl
      refine .tup ?_
      match us, h2, ws, h3 with
      | [u0, u1, u2, u3], _, [v], _ => rfl
    · exact absurd rfl e
  · cases rz with
    | nil => cases ru; exact absurd hz (by decide)
    | cons r1 r2 =>
      cases ru with
      | cons t1 t2 =>
        refine ⟨[_], [_], ?_, .cons r1 .nil, .cons t1 .nil, rfl⟩
        exact (Option.some.inj e).symm
theorem d_22 : DefOk (pctx w K mg base tP) "make_heap" (ckL.getD 22 ("", ⟨0, 0, false, [], []⟩)).2 := by
  obtain ⟨fd, F⟩ := S.def_ 5 rfl
  have e : mg "make_heap" = some (.ref (He.ga K "make_heap")) := He.glo_ok X G (S.fact 5 (f := .glo "make_heap") rfl)
  refine ⟨_, _, _, _, _, _, _, _, fd, n_make_heap, ["width", "objects"], fn_make_heap, e, F, C8.fnScope_by (by decide +kernel), rfl, rfl, rfl, chk_make_heap, fun m => ?_⟩
  obtain ⟨oc, od, dV, kV, doc, pm, an, cdv, ct, osl, rfl, lk, hcd, hD, hK⟩ := F.ex
  rcases hK with e0 | ⟨D', rfl, hq⟩
  · cases e0
  obtain ⟨u, q1, q2⟩ := hq ("width", .non) List.mem_cons_self
  have q2 : u = Value.none := q2
  subst q2
  refine bk_rest (m := 0) (pre := fun _ _ => [Value.none]) (by decide) (fun us ws h1 h2 h3 => ?_) (fun F' as us ws vs zs ts uts xs r rz rt ru h1 hz e => ?_)
  · rcases hD with ⟨_, rfl⟩ | ⟨e, _⟩
    · have h2 := h2 rfl
      match us, h2, ws, h3 with
      | [u0, u1, u2, u3], _, [], _ => exact .dfl rfl q1 rfl (.tup rfl)
    · exact absurd rfl e
  · refine ⟨[V.non], [T.non], ?_, .cons rfl .nil, .cons .non .nil, rfl⟩
    exact (Option.some.inj e).symm
theorem d_23 : DefOk (pctx w K mg base tP) "make_heap" (ckL.getD 23 ("", ⟨0, 0, false, [], []⟩)).2 := by
  obtain ⟨fd, F⟩ := S.def_ 5 rfl
  have e : mg "make_heap" = some (.ref (He.ga K "make_heap")) := He.glo_ok X G (S.fact 5 (f := .glo "make_heap") rfl)
  refine ⟨_, _, _, _, _, _, _, _, fd, n_make_heap, ["width", "objects"], fn_make_heap, e, F, C8.fnScope_by (by decide +kernel), rfl, rfl, rfl, chk_make_heap, fun m => ?_⟩
  refine bk_rest (m := 0) (pre := fun _ ws => ws.take 1) (by decide) (fun us ws h1 h2 h3 => ?_) (fun F' as us ws vs zs ts uts xs r rz rt ru h1 hz e => ?_)
  · obtain ⟨oc, od, dV, kV, doc, pm, an, cdv, ct, osl, rfl, lk, hcd, hD, hK⟩ := F.ex
    rcases hD with ⟨_, rfl⟩ | ⟨e, _⟩
    · have h2 := h2 rfl
      refine .tup ?_
      match us, h2, ws, h3 with
      | [], _, [v], _ => rfl
    · exact absurd rfl e
  · cases rz with
    | nil => cases ru; exact absurd hz (by decide)
    | cons r1 r2 =>
      cases ru with
      | cons t1 t2 =>
        refine ⟨[_], [_], ?_, .cons r1 .nil, .cons t1 .nil, rfl⟩
        exact (Option.some.inj e).symm
theorem d_24 : DefOk (pctx w K mg base tP) "make_heap" (ckL.getD 24 ("", ⟨0, 0, false, [], []⟩)).2 := by
  obtain ⟨fd, F⟩ := S.def_ 5 rfl
  have e : mg "make_heap" = some (.ref (He.ga K "make_heap")) := He.glo_ok X G (S.fact 5 (f := .glo "make_heap") rfl)
  refine ⟨_, _, _, _, _, _, _, _, fd, n_make_heap, ["width", "objects"], fn_make_heap, e, F, C8.fnScope_by (by decide +kernel), rfl, rfl, rfl, chk_make_heap, fun m => ?_⟩
  obtain ⟨oc, od, dV, kV, doc, pm, an, cdv, ct, osl, rfl, lk, hcd, hD, hK⟩ := F.ex
  rcases hK with e0 | ⟨D', rfl, hq⟩
  · cases e0
  obtain ⟨u, q1, q2⟩ := hq ("width", .non) List.mem_cons_self
  have q2 : u = Value.none := q2
  subst q2
  refine bk_rest (m := 0) (pre := fun _ _ => [Value.none]) (by decide) (fun us ws h1 h2 h3 => ?_) (fun F' as us ws vs zs ts uts xs r rz rt ru h1 hz e => ?_)
  · rcases hD with ⟨_, rfl⟩ | ⟨e, _⟩
    · have h2 := h2 rfl
      match us, h2, ws, h3 with
      | [], _, [], _ => exact .dfl rfl q1 rfl (.tup rfl)
    · exact absurd rfl e
  · refine ⟨[V.non], [T.non], ?_, .cons rfl .nil, .cons .non .nil, rfl⟩
    exact (Option.some.inj e).symm
theorem d_25 : DefOk (pctx w K mg base tP) "make_heap" (ckL.getD 25 ("", ⟨0, 0, false, [], []⟩)).2 := by
  obtain ⟨fd, F⟩ := S.def_ 5 rfl
  have e : mg "make_heap" = some (.ref (He.ga K "make_heap")) := He.glo_ok X G (S.fact 5 (f := .glo "make_heap") rfl)
  refine ⟨_, _, _, _, _, _, _, _, fd, n_make_heap, ["width", "objects"], fn_make_heap, e, F, C8.fnScope_by (by decide +kernel), rfl, rfl, rfl, chk_make_heap, fun m => ?_⟩
  obtain ⟨oc, od, dV, kV, doc, pm, an, cdv, ct, osl, rfl, lk, hcd, hD, hK⟩ := F.ex
  rcases hK with e0 | ⟨D', rfl, hq⟩
  · cases e0
  obtain ⟨u, q1, q2⟩ := hq ("width", .non) List.mem_cons_self
  have q2 : u = Value.none := q2
  subst q2
  refine bk_rest (m := 0) (pre := fun _ _ => [Value.none]) (by decide) (fun us ws h1 h2 h3 => ?_) (fun F' as us ws vs zs ts uts xs r rz rt ru h1 hz e => ?_)
  · rcases hD with ⟨_, rfl⟩ | ⟨e, _⟩
    · have h2 := h2 rfl
      match us, h2, ws, h3 with
      | [u0, u1, u2], _, [], _ => exact .dfl rfl q1 rfl (.tup rfl)
    · exact absurd rfl e
  · refine ⟨[V.non], [T.non], ?_, .cons rfl .nil, .cons .non .nil, rfl⟩
    exact (Option.some.inj e).symm
theorem defs_ : ∀ (c : Nat) (nm : PySem.Str) (ck : CK), ckL[c]? = some (nm, ck) → DefOk (pctx w K mg base tP) nm ck
  | 0, nm, ck, e => by cases e; exact d_0 X G S
  | 1, nm, ck, e => by cases e; exact d_1 X G S
  | 2, nm, ck, e => by cases e; exact d_2 X G S
  | 3, nm, ck, e => by cases e; exact d_3 X G S
  | 4, nm, ck, e => by cases e; exact d_4 X G S
  | 5, nm, ck, e => by cases e; exact d_5 X G S
  | 6, nm, ck, e => by cases e; exact d_6 X G S
  | 7, nm, ck, e => by cases e; exact d_7 X G S
  | 8, nm, ck, e => by cases e; exact d_8 X G S
  | 9, nm, ck, e => by cases e; exact d_9 X G S
  | 10, nm, ck, e => by cases e; exact d_10 X G S
  | 11, nm, ck, e => by cases e; exact d_11 X G S
  | 12, nm, ck, e => by cases e; exact d_12 X G S
  | 13, nm, ck, e => by cases e; exact d_13 X G S
  | 14, nm, ck, e => by cases e; exact d_14 X G S
  | 15, nm, ck, e => by cases e; exact d_15 X G S
  | 16, nm, ck, e => by cases e; exact d_16 X G S
  | 17, nm, ck, e => by cases e; exact d_17 X G S
  | 18, nm, ck, e => by cases e; exact d_18 X G S
  | 19, nm, ck, e => by cases e; exact d_19 X G S
  | 20, nm, ck, e => by cases e; exact d_20 X G S
  | 21, nm, ck, e => by cases e; exact d_21 X G S
  | 22, nm, ck, e => by cases e; exact d_22 X G S
  | 23, nm, ck, e => by cases e; exact d_23 X G S
  | 24, nm, ck, e => by cases e; exact d_24 X G S
  | 25, nm, ck, e => by cases e; exact d_25 X G S
  | c + 26, nm, ck, e => by cases e
omit X G S in
theorem frees_ (X : K.In h) (G : h.Ns mainGlobals mg) (S : He.SaysD fa fn K) : ∀ x ∈ blts, mg x = none := by
  have key : ∀ x ∈ blts, He.Fa.free x ∈ fa := by
    intro x hx
    have : blts.all (fun x => fa.any fun f => match f with | .free y => decide (y = x) | _ => false) = true := by decide +kernel
    have := List.all_eq_true.mp this x hx
    obtain ⟨f, hf, q⟩ := List.any_eq_true.mp this
    cases f <;> first | (cases q; done) | skip
    rw [← of_decide_eq_true q]
    exact hf
  intro x hx
  obtain ⟨i, hi, e⟩ := List.getElem_of_mem (key x hx)
  exact He.free_ok X G (S.fact i (f := .free x) (by rw [List.getElem?_eq_getElem hi, e]))
theorem con_ : ∀ (x : PySem.Str) (t : T), conL.lookup x = some t → ∃ v u, mg x = some u ∧ RelV v u ∧ ∀ F as, Rep K F as v t := by
  intro x t e
  have key : ∀ (l : List (PySem.Str × T)), l.lookup x = some t → (x, t) ∈ l := by
    intro l
    induction l with
    | nil => intro h; cases h
    | cons p l ih =>
      intro h
      obtain ⟨a, b⟩ := p
      rw [List.lookup_cons] at h
      cases q : x == a with
      | true => rw [q] at h; cases h; rw [beq_iff_eq.mp q]; exact List.mem_cons_self
      | false => rw [q] at h; exact List.mem_cons_of_mem _ (ih h)
  have m := key conL e
  simp only [conL, List.mem_cons, List.not_mem_nil, or_false, Prod.mk.injEq] at m
  rcases m with ⟨rfl, rfl⟩ | ⟨rfl, rfl⟩ | ⟨rfl, rfl⟩ | ⟨rfl, rfl⟩
  · obtain ⟨k, q⟩ := He.int_ok X G (S.fact 20 (f := .int "LEAST_WIDTH" 1) rfl)
    exact ⟨.int 1, _, q, ⟨k, rfl⟩, fun _ _ => .int _⟩
  · obtain ⟨k, q⟩ := He.int_ok X G (S.fact 21 (f := .int "MOST_WIDTH" 4) rfl)
    exact ⟨.int 4, _, q, ⟨k, rfl⟩, fun _ _ => .int _⟩
  · obtain ⟨k, q⟩ := He.int_ok X G (S.fact 22 (f := .int "MOST_OBJECTS" 40) rfl)
    exact ⟨.int 40, _, q, ⟨k, rfl⟩, fun _ _ => .int _⟩
  · obtain ⟨k, q⟩ := He.int_ok X G (S.fact 23 (f := .int "MOST_REGISTERS" 6) rfl)
    exact ⟨.int 6, _, q, ⟨k, rfl⟩, fun _ _ => .int _⟩
theorem hx_ (hb : bx K = true) : HxOk K mg (xiK K) nmH := by
  unfold bx at hb
  rw [Bool.and_eq_true] at hb
  exact hxB_ok X G (frees_ X G S "isinstance" (by decide)) hb.1
theorem rs_ (hb : bx K = true) : ∀ p ∈ ksR, RsC K mg (xiK K) p.1 p.2 := by
  unfold bx at hb
  rw [Bool.and_eq_true, Bool.and_eq_true] at hb
  obtain ⟨_, h1, h2⟩ := hb
  intro p hp
  simp only [ksR, List.mem_cons, List.not_mem_nil, or_false] at hp
  rcases hp with rfl | rfl
  · exact rs0B_ok X G (by decide +kernel) h1
  · obtain ⟨fd, F⟩ := S.def_ 20 rfl
    refine rs1B_ok (prm := "index") (qi := "NoObject.__init__") X G (by decide +kernel) PySem.F.excBase_IndexError PySem.F.store_IndexError h2 (by decide) (by decide) ⟨_, _, fd, _, _, _, _, F, rfl, rfl, rfl, rfl, fun us hl => FunD.plainB F (fun _ _ _ _ _ _ us hl => match us, hl with | [_, _], _ => rfl) us hl⟩
theorem prgOk (hb : bx K = true) : PrgOk (pctx w K mg base tP) where
  free := frees_ X G S
  con := con_ X G S
  cks := rfl
  defs := defs_ X G S
  hea := fun n => by
    obtain ⟨fd, F⟩ := S.def_ 16 rfl
    have e : mg heardN = some (.ref (He.ga K heardN)) := He.glo_ok X G (S.fact 16 (f := .glo "_law_heard") rfl)
    exact hear_ok (Z := (pctx w K mg base tP).at n) (names := nmH) (cl := clH) rfl rfl (by decide +kernel) e F (fun us hl => FunD.plainB F (fun _ _ _ _ _ _ us hl => match us, hl with | [_], _ => rfl) us hl) (C8.fnScope_by (by decide +kernel)) (by decide +kernel) (by decide +kernel) (by decide +kernel) (by decide +kernel) (by decide +kernel) (hx_ X G S hb)
  rse := fun n => raise_ok (ks := ksR) rfl (rs_ X G S hb)
end
/-- what is left: the law's meaning says True at every script -/
def Math : Prop := ∀ (P : Addr) (ns : List Int), ns.length ≤ 63 → ∃ st, finish (evalSs ((prg P).viaK ((prg P).callN 8)) (prg P).hear WN b_law (Slot.val (.scr (ns.map T.int)) :: List.replicate (fn_law.ns - 1) Slot.no) [.tab P tqL]) = .ok (.bl true) st
theorem holds_of (hm : Math) : PySem.Challenge.rw_swapguards_k02_whole_great_heaps_gone_th.Holds := by
  w_on; o_law
  refine HandSHeadRun.head_any (r := PySem.W.OpenLaw.row PySem.Challenge.rw_swapguards_k02_whole_great_heaps_gone_th) (q := PySem.W.view (PySem.W.OpenLaw.row PySem.Challenge.rw_swapguards_k02_whole_great_heaps_gone_th).prog [46]) (H := hk) (ob := ob) (M := 6000) (loose := loose) (d := HandSHeadRun.topDef (PySem.W.OpenLaw.row PySem.Challenge.rw_swapguards_k02_whole_great_heaps_gone_th).prog 46) (kwd := []) ob_eq
    (by kernel_rfl) (fun s => by kernel_rfl) run (by kernel_rfl) (by kernel_rfl) (by kernel_rfl) (by rfl) (by first | assumption | decide +kernel) (by decide +kernel) ⟨rfl, rfl, rfl, rfl, rfl, by decide +kernel⟩ ?hw ?hc
  case hw => w_witness2
  case hc =>
    refine walk_X (l := PySem.Challenge.rw_swapguards_k02_whole_great_heaps_gone_th) (k := 5 * 8 + 5) rfl (by kernel_rfl) ⟨rfl, by decide, by decide⟩ ?F
    intro w mg fa' h' Y G hmg0
    obtain ⟨K, c, P, S⟩ := Y
    have hmg : mg ("law" : PySem.Str) = some (.ref fa') := by
      have e : (HandSHeadRun.topDef (PySem.W.OpenLaw.row PySem.Challenge.rw_swapguards_k02_whole_great_heaps_gone_th).prog 46).name = ("law" : PySem.Str) := by kernel_rfl
      rw [← e]
      exact hmg0
    obtain ⟨fd, F⟩ := S.d.def_ 19 rfl
    have e := hmg.symm.trans (He.glo_ok S.kin G (S.d.fact 19 (f := .glo "law") rfl))
    cases e
    have b := FunD.bindsA (ps := ["script"]) F fun _ _ _ _ _ _ us hl => match us, hl with | [_], _ => rfl
    have hcode : fd.code = .ref c := codeB_ok S.cd F
    refine ⟨K, c, P, fd, S.kin, S.tab, S.no, PySem.W.codeHd_of_K S.kin S.hd, fun s v => b s [v] rfl, fun base kb nb TB => ?_⟩
    exact law_okT (Y := pctx w K mg base P) (prgOk S.kin G S.d S.b) (n := 8) (fn := fn_law) (N := n_law) F (C8.fnScope_by (by decide +kernel)) rfl chk_law hcode TB rfl (fun ns hn => hm P ns hn)
end C
end
/-! M1 -/
section
set_option linter.all false
set_option maxRecDepth 100000
set_option maxHeartbeats 1000000
namespace M
open Q C
/-! ### rules of the evaluator, for simp -/
theorem nr {α : Sort _} {a b : α} (h : a = b) : a = b := h
@[simp high] theorem bind_ok' {α β : Type} (a : α) (st : Store) (f : α → Store → O β) : (O.ok a st).bind f = f a st := nr rfl
@[simp high] theorem bind_ex' {α β : Type} (x : Exn) (st : Store) (f : α → Store → O β) : (O.ex x st : O α).bind f = .ex x st := nr rfl
@[simp high] theorem then_ok' {α : Type} (a : α) (st : Store) (f : α → Store → R) : (O.ok a st).then f = f a st := nr rfl
@[simp high] theorem then_ex' {α : Type} (x : Exn) (st : Store) (f : α → Store → R) : (O.ex x st : O α).then f = .ex x st := nr rfl
def seqR (r : R) (k : Env → Store → R) : R := match r with
  | .nx ρ st => k ρ st
  | r => r
@[simp] theorem seqR_nx (ρ : Env) (st : Store) (k : Env → Store → R) : seqR (.nx ρ st) k = k ρ st := nr rfl
@[simp] theorem seqR_rt (t : T) (st : Store) (k : Env → Store → R) : seqR (.rt t st) k = .rt t st := nr rfl
@[simp] theorem seqR_ex (t : Exn) (st : Store) (k : Env → Store → R) : seqR (.ex t st) k = .ex t st := nr rfl
def tstR (o : Option Bool) (a b : R) : R := match o with
  | some true => a
  | some false => b
  | none => .bad
@[simp] theorem tstR_t (a b : R) : tstR (some true) a b = a := nr rfl
@[simp] theorem tstR_f (a b : R) : tstR (some false) a b = b := nr rfl
theorem tstR_b (c : Bool) (a b : R) : tstR (some c) a b = if c then a else b := by cases c <;> rfl
def tstO (o : Option Bool) (a b : O T) : O T := match o with
  | some true => a
  | some false => b
  | none => .bad
@[simp] theorem tstO_t (a b : O T) : tstO (some true) a b = a := nr rfl
@[simp] theorem tstO_f (a b : O T) : tstO (some false) a b = b := nr rfl
theorem tstO_b (c : Bool) (a b : O T) : tstO (some c) a b = if c then a else b := by cases c <;> rfl
def chnO (o : Option T) (a : O T) (st : Store) : O T := match o with
  | some (.bl true) => a
  | some (.bl false) => .ok (.bl false) st
  | _ => .bad
@[simp] theorem chnO_t (a : O T) (st : Store) : chnO (some (.bl true)) a st = a := nr rfl
@[simp] theorem chnO_f (a : O T) (st : Store) : chnO (some (.bl false)) a st = .ok (.bl false) st := nr rfl
theorem chnO_b (c : Bool) (a : O T) (st : Store) : chnO (some (.bl c)) a st = if c then a else .ok (.bl false) st := by cases c <;> rfl
def asgR (o : Option Env) (k : Env → R) : R := match o with
  | some ρ => k ρ
  | none => .bad
@[simp] theorem asgR_s (ρ : Env) (k : Env → R) : asgR (some ρ) k = k ρ := nr rfl
def itR (o : Option (List T)) (k : List T → R) : R := match o with
  | some ρ => k ρ
  | none => .bad
@[simp] theorem itR_s (ρ : List T) (k : List T → R) : itR (some ρ) k = k ρ := nr rfl
def itO {α : Type} (o : Option α) (k : α → O T) : O T := match o with
  | some ρ => k ρ
  | none => .bad
@[simp] theorem itO_s {α : Type} (ρ : α) (k : α → O T) : itO (some ρ) k = k ρ := nr rfl
@[simp] theorem orB_s (t : T) (st : Store) (k : O T) : orB (some t) st k = .ok t st := nr rfl
@[simp] theorem orB_n (st : Store) (k : O T) : orB none st k = k := nr rfl
@[simp] theorem lift_s (t : T) (st : Store) : lift (some t) st = .ok t st := nr rfl
@[simp] theorem finish_nx (ρ : Env) (st : Store) : finish (.nx ρ st) = .ok .non st := nr rfl
@[simp] theorem finish_rt (t : T) (st : Store) : finish (.rt t st) = .ok t st := nr rfl
@[simp] theorem finish_ex (t : Exn) (st : Store) : finish (.ex t st) = .ex t st := nr rfl
@[simp] theorem noex_ok {α : Type} (a : α) (st : Store) : noex (.ok a st) = .ok a st := nr rfl
theorem bind_congr {α β : Type} {o : O α} {f g : α → Store → O β} (h : ∀ a st, f a st = g a st) : o.bind f = o.bind g := by
  have e : f = g := by funext a st; exact h a st
  rw [e]
/-- the element of a comprehension -/
def elO (call : Nat → List T → List T → Store → O T) (hear : Nat → Store → O T → O T) (cs : List E) (elt : E) (o : Option Env) (s : Store) : O (Option T) := match o with
  | some ρ' => (condsL (evalFs call hear cs ρ') s).bind fun c s' => if c then (evalE call hear elt ρ' s').bind fun y s'' => .ok (some y) s'' else .ok none s'
  | none => .bad
def cmpE (call : Nat → List T → List T → Store → O T) (hear : Nat → Store → O T → O T) (tg : Tg) (cs : List E) (elt : E) (ρ : Env) (xs : List T) (st : Store) : O (List T) := compL (fun x s => elO call hear cs elt (assign tg x ρ) s) xs st
def forE (call : Nat → List T → List T → Store → O T) (hear : Nat → Store → O T → O T) (W : Nat) (tg : Tg) (body : List S) (xs : List T) (ρ : Env) (st : Store) : R := forL (fun x ρ s => asgR (assign tg x ρ) fun ρ' => evalSs call hear W body ρ' s) xs ρ st
def whlE (call : Nat → List T → List T → Store → O T) (hear : Nat → Store → O T → O T) (W : Nat) (c : E) (body : List S) (ρ : Env) (st : Store) : R := whlL (fun ρ st => orB (ownVar c ρ) st (evalE call hear c ρ st)) (evalSs call hear W body) W ρ st
section
variable {call : Nat → List T → List T → Store → O T} {hear : Nat → Store → O T → O T} {W : Nat} (ρ : Env) (st : Store)
@[simp] theorem elO_s (cs : List E) (elt : E) (ρ' : Env) (s : Store) : elO call hear cs elt (some ρ') s = (condsL (evalFs call hear cs ρ') s).bind fun c s' => if c then (evalE call hear elt ρ' s').bind fun y s'' => .ok (some y) s'' else .ok none s' := nr rfl
@[simp] theorem ss_nil : evalSs call hear W [] ρ st = .nx ρ st := by unfold evalSs; rfl
@[simp] theorem ss_cons (s : S) (ss : List S) : evalSs call hear W (s :: ss) ρ st = seqR (evalS call hear W s ρ st) (evalSs call hear W ss) := by
  rw [evalSs]
  cases evalS call hear W s ρ st <;> rfl
@[simp] theorem es_nil : evalEs call hear [] ρ st = .ok [] st := by rw [evalEs]
@[simp] theorem es_cons (e : E) (es : List E) : evalEs call hear (e :: es) ρ st = (evalE call hear e ρ st).bind fun t st' => (evalEs call hear es ρ st').bind fun ts st'' => .ok (t :: ts) st'' := by rw [evalEs]
@[simp] theorem bs_nil : evalBs call hear [] ρ st = .ok [] st := by rw [evalBs]
@[simp] theorem bs_cons (e : E) (es : List E) : evalBs call hear (e :: es) ρ st = (orB (ownVar e ρ) st (evalE call hear e ρ st)).bind fun t st' => (evalBs call hear es ρ st').bind fun ts st'' => .ok (t :: ts) st'' := by rw [evalBs]
@[simp] theorem fs_nil : evalFs call hear [] ρ = [] := by rw [evalFs]
@[simp] theorem fs_cons (e : E) (es : List E) : evalFs call hear (e :: es) ρ = (fun st => evalE call hear e ρ st) :: evalFs call hear es ρ := by rw [evalFs]
@[simp] theorem e_var (i : Nat) : evalE call hear (.var i) ρ st = lift (slotV ρ i) st := by rw [evalE]
@[simp] theorem e_con (t : T) : evalE call hear (.con t) ρ st = .ok t st := by rw [evalE]
@[simp] theorem e_op (o : Op) (es : List E) : evalE call hear (.op o es) ρ st = (evalBs call hear es ρ st).bind fun ts st' => lift (opEval st' o ts) st' := by rw [evalE]
@[simp] theorem e_band (es : List E) : evalE call hear (.band es) ρ st = bopL false (evalFs call hear es ρ) st := by rw [evalE]
@[simp] theorem e_bor (es : List E) : evalE call hear (.bor es) ρ st = bopL true (evalFs call hear es ρ) st := by rw [evalE]
@[simp] theorem e_not (e : E) : evalE call hear (.not e) ρ st = (orB (ownVar e ρ) st (evalE call hear e ρ st)).bind fun t st' => itO (truth st' t) fun b => .ok (.bl (!b)) st' := by
  rw [evalE]; exact bind_congr fun t st' => by cases truth st' t <;> rfl
@[simp] theorem e_ite (c a b : E) : evalE call hear (.ite c a b) ρ st = (orB (ownVar c ρ) st (evalE call hear c ρ st)).bind fun t st' => tstO (truth st' t) (evalE call hear a ρ st') (evalE call hear b ρ st') := by
  rw [evalE]; rfl
@[simp] theorem e_tup (es : List E) : evalE call hear (.tup es) ρ st = (evalEs call hear es ρ st).bind fun ts st' => .ok (.tup ts) st' := by rw [evalE]
@[simp] theorem e_lst (es : List E) : evalE call hear (.lst es) ρ st = (evalEs call hear es ρ st).bind fun ts st' => .ok (.lst ts) st' := by rw [evalE]
@[simp] theorem e_dic0 : evalE call hear .dic0 ρ st = .ok (.dic []) st := by rw [evalE]
@[simp] theorem e_slc (a : E) (lo hi : List E) : evalE call hear (.slc a lo hi) ρ st = (orB (ownVar a ρ) st (evalE call hear a ρ st)).bind fun t st1 => (evalBs call hear lo ρ st1).bind fun ls st2 => itO (partOf ls) fun l => (evalBs call hear hi ρ st2).bind fun hs st3 => itO (partOf hs) fun h => lift (slice st3 t l h) st3 := by
  rw [evalE]; exact bind_congr fun t st1 => bind_congr fun ls st2 => by
    cases partOf ls with
    | none => rfl
    | some l => exact bind_congr fun hs st3 => by cases partOf hs <;> rfl
@[simp] theorem e_chn (o1 o2 : Op) (a b c : E) : evalE call hear (.chn o1 o2 a b c) ρ st = (evalE call hear a ρ st).bind fun x st1 => (evalE call hear b ρ st1).bind fun y st2 => chnO (opEval st2 o1 [x, y]) ((evalE call hear c ρ st2).bind fun z st3 => lift (opEval st3 o2 [y, z]) st3) st2 := by
  rw [evalE]; rfl
@[simp] theorem e_call (c : Nat) (es sa ks : List E) : evalE call hear (.call c es sa ks) ρ st = (evalEs call hear es ρ st).bind fun ts st1 => (evalBs call hear sa ρ st1).bind fun ss st2 => itO (flatS st2 ss) fun xs => (evalEs call hear ks ρ st2).bind fun zs st3 => call c (ts ++ xs) zs st3 := by
  rw [evalE]; exact bind_congr fun ts st1 => bind_congr fun ss st2 => by cases flatS st2 ss <;> rfl
@[simp] theorem e_comp (tg : Tg) (k : ItK) (src cs : List E) (elt : E) : evalE call hear (.comp tg k src cs elt) ρ st = (evalBs call hear src ρ st).bind fun ts st' => itO (itEval k ts) fun xs => (cmpE call hear tg cs elt ρ xs st').bind fun ys st'' => .ok (.lst ys) st'' := by
  rw [evalE]; exact bind_congr fun ts st' => by
    cases itEval k ts with
    | none => rfl
    | some xs =>
      show (compL _ xs st').bind _ = (compL _ xs st').bind _
      congr 1
@[simp] theorem e_heard (g : Nat) (e : E) : evalE call hear (.heard g e) ρ st = hear g st (evalE call hear e ρ st) := by rw [evalE]
@[simp] theorem s_ass (i : Nat) (e : E) : evalS call hear W (.ass i e) ρ st = (evalE call hear e ρ st).then fun t st' => setS ρ i (.val t) st' := by rw [evalS]
@[simp] theorem s_own (i : Nat) (e : E) : evalS call hear W (.own i e) ρ st = if freshE e then (evalE call hear e ρ st).then fun t st' => if isMut t then setS ρ i (.own t) st' else .bad else .bad := by rw [evalS]
@[simp] theorem s_tas (tg : Tg) (e : E) : evalS call hear W (.tas tg e) ρ st = (evalE call hear e ρ st).then fun t st' => asgR (assign tg t ρ) fun ρ' => .nx ρ' st' := by rw [evalS]; rfl
@[simp] theorem s_par (is : List (Nat × Bool)) (es : List E) : evalS call hear W (.par is es) ρ st = (evalEs call hear es ρ st).then fun ts st' => asgR (parSet is ts ρ) fun ρ' => .nx ρ' st' := by rw [evalS]; rfl
@[simp] theorem s_ret (e : E) : evalS call hear W (.ret e) ρ st = (evalE call hear e ρ st).then fun t st' => .rt t st' := by rw [evalS]
@[simp] theorem s_retB (e : E) : evalS call hear W (.retB e) ρ st = if freshE e then (evalE call hear e ρ st).then fun t st' => if isMut t then .rt (.ref st'.length) (st' ++ [t]) else .bad else .bad := by rw [evalS]
@[simp] theorem s_iff (c : E) (a b : List S) : evalS call hear W (.iff c a b) ρ st = (orB (ownVar c ρ) st (evalE call hear c ρ st)).then fun t st' => tstR (truth st' t) (evalSs call hear W a ρ st') (evalSs call hear W b ρ st') := by rw [evalS]; rfl
@[simp] theorem s_for (tg : Tg) (k : ItK) (src : List E) (body : List S) : evalS call hear W (.for tg k src body) ρ st = (evalEs call hear src ρ st).then fun ts st' => itR (itEval k ts) fun xs => forE call hear W tg body xs ρ st' := by rw [evalS]; rfl
@[simp] theorem s_whl (c : E) (body : List S) : evalS call hear W (.whl c body) ρ st = whlE call hear W c body ρ st := by rw [evalS]; rfl
def lstR (o : Option T) (k : List T → R) : R := match o with
  | some (.lst xs) => k xs
  | _ => .bad
@[simp] theorem lstR_s (xs : List T) (k : List T → R) : lstR (some (.lst xs)) k = k xs := nr rfl
def someR (o : Option T) (k : T → R) : R := match o with
  | some t => k t
  | none => .bad
@[simp] theorem someR_s (x : T) (k : T → R) : someR (some x) k = k x := nr rfl
def natR (o : Option Nat) (k : Nat → R) : R := match o with
  | some t => k t
  | none => .bad
@[simp] theorem natR_s (x : Nat) (k : Nat → R) : natR (some x) k = k x := nr rfl
@[simp] theorem s_app (i : Nat) (e : E) : evalS call hear W (.app i e) ρ st = lstR (slotO ρ i) fun xs => (evalE call hear e ρ st).then fun t st' => if xs.length < PySem.sizeLine then setS ρ i (.own (.lst (xs ++ [t]))) st' else .bad := by rw [evalS]; rfl
@[simp] theorem s_ext (i : Nat) (e : E) : evalS call hear W (.ext i e) ρ st = lstR (slotO ρ i) fun xs => (orB (ownVar e ρ) st (evalE call hear e ρ st)).then fun t st' => lstR (some t) fun ys => if xs.length + ys.length ≤ PySem.sizeLine then setS ρ i (.own (.lst (xs ++ ys))) st' else .bad := by
  rw [evalS]
  unfold lstR
  cases slotO ρ i with
  | none => rfl
  | some t => cases t <;> first | rfl | (dsimp only; congr 1; funext t st'; cases t <;> rfl)
@[simp] theorem s_pop (i : Nat) (es : List E) (tg : Nat) : evalS call hear W (.pop i es tg) ρ st = lstR (slotO ρ i) fun xs => (evalBs call hear es ρ st).then fun ks st' => natR (popIx xs ks) fun n => someR xs[n]? fun t => if tg < ρ.length ∧ tg ≠ i then .nx ((ρ.set i (.own (.lst (xs.eraseIdx n)))).set tg (.val t)) st' else .bad := by rw [evalS]; rfl
@[simp] theorem s_appPop (i j : Nat) (es : List E) : evalS call hear W (.appPop i j es) ρ st = lstR (slotO ρ i) fun xs => lstR (slotO ρ j) fun ys => (evalBs call hear es ρ st).then fun ks st' => natR (popIx ys ks) fun n => someR ys[n]? fun t => if xs.length < PySem.sizeLine ∧ i ≠ j then .nx ((ρ.set j (.own (.lst (ys.eraseIdx n)))).set i (.own (.lst (xs ++ [t])))) st' else .bad := by
  rw [evalS]
  unfold lstR
  cases slotO ρ i with
  | none => rfl
  | some t =>
    cases slotO ρ j with
    | none => cases t <;> rfl
    | some u => cases t <;> cases u <;> rfl
@[simp] theorem s_seti (i : Nat) (k e : E) : evalS call hear W (.seti i k e) ρ st = someR (slotO ρ i) fun o => (evalE call hear e ρ st).then fun v st1 => (orB (ownVar k ρ) st1 (evalE call hear k ρ st1)).then fun k st2 => someR (putAt o k v) fun o' => setS ρ i (.own o') st2 := by rw [evalS]; rfl
@[simp] theorem s_setr (o k e : E) : evalS call hear W (.setr o k e) ρ st = (evalE call hear e ρ st).then fun v st1 => (evalE call hear o ρ st1).then fun o st2 => (orB (ownVar k ρ) st2 (evalE call hear k ρ st2)).then fun k st3 => match o with
    | .ref n => someR st3[n]? fun c => someR (putAt c k v) fun c' => .nx ρ (st3.set n c')
    | _ => .bad := by rw [evalS]; rfl
@[simp] theorem s_frz (i : Nat) : evalS call hear W (.frz i) ρ st = someR (slotO ρ i) fun t => setS ρ i (.val t) st := by rw [evalS]; rfl
@[simp] theorem s_rse (c : PySem.Str) (es : List E) : evalS call hear W (.rse c es) ρ st = (evalEs call hear es ρ st).then fun ts st' => .ex ⟨c, ts⟩ st' := by rw [evalS]
@[simp] theorem s_headTail (tg : Tg) (i : Nat) : evalS call hear W (.headTail tg i) ρ st = match slotO ρ i with
    | some (.lst (x :: xs)) => asgR (assign tg x ρ) fun ρ' => setS ρ' i (.own (.lst xs)) st
    | _ => .bad := by rw [evalS]; rfl
@[simp] theorem bop_nil (stop : Bool) : bopL stop [] st = .bad := nr rfl
@[simp] theorem bop_one (stop : Bool) (f : Store → O T) : bopL stop [f] st = f st := nr rfl
def bopK (stop : Bool) (o : Option Bool) (t : T) (st : Store) (k : O T) : O T := match o with
  | some b => if b = stop then .ok t st else k
  | none => .bad
@[simp] theorem bopK_s (stop b : Bool) (t : T) (k : O T) : bopK stop (some b) t st k = if b = stop then .ok t st else k := nr rfl
@[simp] theorem bop_two (stop : Bool) (f g : Store → O T) (fs : List (Store → O T)) : bopL stop (f :: g :: fs) st = (f st).bind fun t st' => bopK stop (truth st' t) t st' (bopL stop (g :: fs) st') := nr rfl
@[simp] theorem cds_nil : condsL [] st = .ok true st := nr rfl
def cdsK (o : Option Bool) (st : Store) (k : O Bool) : O Bool := match o with
  | some true => k
  | some false => .ok false st
  | none => .bad
@[simp] theorem cdsK_t (k : O Bool) : cdsK (some true) st k = k := nr rfl
@[simp] theorem cdsK_f (k : O Bool) : cdsK (some false) st k = .ok false st := nr rfl
theorem cdsK_b (b : Bool) (k : O Bool) : cdsK (some b) st k = if b then k else .ok false st := by cases b <;> rfl
@[simp] theorem cds_cons (f : Store → O T) (fs : List (Store → O T)) : condsL (f :: fs) st = (f st).bind fun t st' => cdsK (truth st' t) st' (condsL fs st') := nr rfl
@[simp] theorem own_var (i : Nat) : ownVar (.var i) ρ = slotO ρ i := nr rfl
@[simp] theorem own_con (t : T) : ownVar (.con t) ρ = none := nr rfl
@[simp] theorem own_op (o : Op) (es : List E) : ownVar (.op o es) ρ = none := nr rfl
@[simp] theorem own_band (es : List E) : ownVar (.band es) ρ = none := nr rfl
@[simp] theorem own_bor (es : List E) : ownVar (.bor es) ρ = none := nr rfl
@[simp] theorem own_not (e : E) : ownVar (.not e) ρ = none := nr rfl
@[simp] theorem own_ite (a b c : E) : ownVar (.ite a b c) ρ = none := nr rfl
@[simp] theorem own_tup (es : List E) : ownVar (.tup es) ρ = none := nr rfl
@[simp] theorem own_lst (es : List E) : ownVar (.lst es) ρ = none := nr rfl
@[simp] theorem own_slc (a : E) (l h : List E) : ownVar (.slc a l h) ρ = none := nr rfl
@[simp] theorem own_chn (o p : Op) (a b c : E) : ownVar (.chn o p a b c) ρ = none := nr rfl
@[simp] theorem own_call (c : Nat) (a b d : List E) : ownVar (.call c a b d) ρ = none := nr rfl
@[simp] theorem own_comp (tg : Tg) (k : ItK) (a b : List E) (e : E) : ownVar (.comp tg k a b e) ρ = none := nr rfl
@[simp] theorem own_heard (g : Nat) (e : E) : ownVar (.heard g e) ρ = none := nr rfl
@[simp] theorem own_dic0 : ownVar .dic0 ρ = none := nr rfl
end
/-! only what comes first is looked at -/
section
variable {α β : Type}
theorem cg_bind {o o' : O α} {f : α → Store → O β} (h : o = o') : o.bind f = o'.bind f := by rw [h]
theorem cg_then {o o' : O α} {f : α → Store → R} (h : o = o') : o.then f = o'.then f := by rw [h]
theorem cg_seqR {r r' : R} {k : Env → Store → R} (h : r = r') : seqR r k = seqR r' k := by rw [h]
theorem cg_tstR {o o' : Option Bool} {a b : R} (h : o = o') : tstR o a b = tstR o' a b := by rw [h]
theorem cg_tstO {o o' : Option Bool} {a b : O T} (h : o = o') : tstO o a b = tstO o' a b := by rw [h]
theorem cg_chnO {o o' : Option T} {a : O T} {st : Store} (h : o = o') : chnO o a st = chnO o' a st := by rw [h]
theorem cg_itO {o o' : Option α} {k : α → O T} (h : o = o') : itO o k = itO o' k := by rw [h]
theorem cg_itR {o o' : Option (List T)} {k : List T → R} (h : o = o') : itR o k = itR o' k := by rw [h]
theorem cg_asgR {o o' : Option Env} {k : Env → R} (h : o = o') : asgR o k = asgR o' k := by rw [h]
theorem cg_bopK {s : Bool} {o o' : Option Bool} {t : T} {st : Store} {k : O T} (h : o = o') : bopK s o t st k = bopK s o' t st k := by rw [h]
theorem cg_cdsK {o o' : Option Bool} {st : Store} {k : O Bool} (h : o = o') : cdsK o st k = cdsK o' st k := by rw [h]
theorem cg_orB {o o' : Option T} {st : Store} {k : O T} (h : o = o') : orB o st k = orB o' st k := by rw [h]
theorem cg_lstR {o o' : Option T} {k : List T → R} (h : o = o') : lstR o k = lstR o' k := by rw [h]
theorem cg_someR {o o' : Option T} {k : T → R} (h : o = o') : someR o k = someR o' k := by rw [h]
theorem cg_natR {o o' : Option Nat} {k : Nat → R} (h : o = o') : natR o k = natR o' k := by rw [h]
theorem cg_fin {r r' : R} (h : r = r') : finish r = finish r' := by rw [h]
end
/-! slots -/
@[simp] theorem slotV_z (t : T) (ρ : Env) : slotV (.val t :: ρ) 0 = some t := nr rfl
@[simp] theorem slotV_o (t : T) (ρ : Env) : slotV (.own t :: ρ) 0 = none := nr rfl
@[simp] theorem slotV_n (ρ : Env) : slotV (.no :: ρ) 0 = none := nr rfl
@[simp] theorem slotV_s (s : Slot) (ρ : Env) (i : Nat) : slotV (s :: ρ) (i + 1) = slotV ρ i := nr rfl
@[simp] theorem slotO_z (t : T) (ρ : Env) : slotO (.own t :: ρ) 0 = some t := nr rfl
@[simp] theorem slotO_v (t : T) (ρ : Env) : slotO (.val t :: ρ) 0 = none := nr rfl
@[simp] theorem slotO_n (ρ : Env) : slotO (.no :: ρ) 0 = none := nr rfl
@[simp] theorem slotO_s (s : Slot) (ρ : Env) (i : Nat) : slotO (s :: ρ) (i + 1) = slotO ρ i := nr rfl
@[simp] theorem as_nm (i : Nat) (t : T) (ρ : Env) : assign (.nm i) t ρ = if i < ρ.length then some (ρ.set i (.val t)) else none := by unfold assign; rfl
@[simp] theorem as_tp (ts : List Tg) (xs : List T) (ρ : Env) : assign (.tp ts) (.tup xs) ρ = assigns ts xs ρ := by unfold assign; rfl
@[simp] theorem ass_nil (ρ : Env) : assigns [] [] ρ = some ρ := by unfold assigns; rfl
@[simp] theorem ass_cons (t : Tg) (ts : List Tg) (x : T) (xs : List T) (ρ : Env) : assigns (t :: ts) (x :: xs) ρ = (assign t x ρ).bind (assigns ts xs) := by
  rw [assigns]
  cases assign t x ρ <;> rfl
@[simp] theorem flatS_nil (st : Store) : flatS st [] = some [] := nr rfl
/-! calls -/
abbrev HR (P : Nat) := (prg P).hear
abbrev CL (P n : Nat) := (prg P).viaK ((prg P).callN n)
theorem cl0 (P n : Nat) (a b c : T) (st : Store) : CL P (n + 1) 0 [a, b, c] [] st = finish (evalSs (CL P n) (HR P) WN b_is_between [.val a, .val b, .val c] st) := rfl
theorem cl1 (P n : Nat) (a b : T) (st : Store) : CL P (n + 1) 1 [a, b] [] st = finish (evalSs (CL P n) (HR P) WN b_is_held [.val a, .val b] st) := rfl
theorem cl6 (P n : Nat) (a b : T) (st : Store) : CL P (n + 1) 6 [a, b] [] st = finish (evalSs (CL P n) (HR P) WN b__law_draw [.val a, .val b, .no, .no, .no, .no, .no] st) := rfl
/-! is_between -/
@[simp] theorem tr_bl (st : Store) (b : Bool) : truth st (.bl b) = some b := nr rfl
theorem between_int (P n : Nat) (i l m : Int) (st : Store) : CL P (n + 1) 0 [.int i, .int l, .int m] [] st = .ok (.bl (decide (l ≤ i) && decide (i ≤ m))) st := by
  rw [cl0]
  simp [b_is_between, opEval, tyOf, isK, isK1, cmpI, chnO_b]
  by_cases h : l ≤ i <;> simp [h]
end M
end
/-! M2 -/
section
set_option linter.all false
set_option maxRecDepth 100000
set_option maxHeartbeats 1000000
namespace M
open Q C
open PySem (PyData sizeLine)
theorem szl : sizeLine = 16777216 := by decide
/-! ### equality of values -/
mutual
theorem eqv_self : ∀ (t : T) (n : Nat) (d : PyData), toD n t = some d → PyData.eqv d d = true
  | .non, 0, d, h => by unfold toD at h; cases h
  | .bl b, 0, d, h => by unfold toD at h; cases h
  | .int b, 0, d, h => by unfold toD at h; cases h
  | .str b, 0, d, h => by unfold toD at h; cases h
  | .tup b, 0, d, h => by unfold toD at h; cases h
  | .lst b, 0, d, h => by unfold toD at h; cases h
  | .dic b, n, d, h => by cases n <;> (unfold toD at h; cases h)
  | .ref b, n, d, h => by cases n <;> (unfold toD at h; cases h)
  | .scr b, n, d, h => by cases n <;> (unfold toD at h; cases h)
  | .tab b q, n, d, h => by cases n <;> (unfold toD at h; cases h)
  | .non, n + 1, d, h => by unfold toD at h; cases h; rfl
  | .bl b, n + 1, d, h => by unfold toD at h; cases h; simp [PyData.eqv]
  | .int b, n + 1, d, h => by unfold toD at h; cases h; simp [PyData.eqv]
  | .str b, n + 1, d, h => by
    unfold toD at h
    split at h
    · cases h; simp [PyData.eqv]
    · cases h
  | .tup xs, n + 1, d, h => by
    unfold toD at h
    obtain ⟨ds, h1, rfl⟩ := Option.map_eq_some_iff.mp h
    simp [PyData.eqv, eqvs_self xs n ds h1]
  | .lst xs, n + 1, d, h => by
    unfold toD at h
    obtain ⟨ds, h1, rfl⟩ := Option.map_eq_some_iff.mp h
    simp [PyData.eqv, eqvs_self xs n ds h1]
theorem eqvs_self : ∀ (ts : List T) (n : Nat) (ds : List PyData), toDs n ts = some ds → PyData.eqvAll ds ds = true
  | [], n, ds, h => by unfold toDs at h; cases h; rfl
  | t :: ts, n, ds, h => by
    unfold toDs at h
    split at h
    · rename_i d es h1 h2
      cases h
      simp [PyData.eqvAll, eqv_self t n d h1, eqvs_self ts n es h2]
    · cases h
end
theorem eq_self {st : Store} {t : T} {d : PyData} (h : datOf st t = some d) : eqT st t t = some true := by
  have key : PyData.eqv d d = true := by
    unfold datOf at h
    split at h
    · split at h
      · exact eqv_self _ _ _ h
      · cases h
    · exact eqv_self _ _ _ h
  unfold eqT
  rw [h]
  simp [key]
/-- a datum -/
def Dm (t : T) : Prop := (∀ a, t ≠ .ref a) ∧ ∃ d, toD 60 t = some d
theorem Dm.dat {t : T} (h : Dm t) (st : Store) : ∃ d, datOf st t = some d := by
  obtain ⟨h1, d, h2⟩ := h
  refine ⟨d, ?_⟩
  unfold datOf
  split
  · exact absurd rfl (h1 _)
  · exact h2
theorem eq_same {t : T} (h : Dm t) (st : Store) : eqT st t t = some true := by
  obtain ⟨d, e⟩ := h.dat st
  exact eq_self e
theorem toDs_some {n : Nat} : ∀ {xs : List T}, (∀ x ∈ xs, ∃ d, toD n x = some d) → ∃ ds, toDs n xs = some ds ∧ ds.length = xs.length
  | [], _ => ⟨[], by unfold toDs; rfl, rfl⟩
  | x :: xs, h => by
    obtain ⟨d, e1⟩ := h x List.mem_cons_self
    obtain ⟨ds, e2, l⟩ := toDs_some (xs := xs) fun y hy => h y (List.mem_cons_of_mem _ hy)
    refine ⟨d :: ds, ?_, by simp [l]⟩
    unfold toDs
    rw [e1, e2]
/-- data of depth below 20 -/
inductive Dp : Nat → T → Prop
  | non {n : Nat} : Dp n .non
  | bl {n : Nat} {b : Bool} : Dp n (.bl b)
  | int {n : Nat} {b : Int} : Dp n (.int b)
  | str {n : Nat} {b : PySem.Str} : PyData.strOk b = true → Dp n (.str b)
  | tup {n : Nat} {xs : List T} : (∀ x ∈ xs, Dp n x) → Dp (n + 1) (.tup xs)
  | lst {n : Nat} {xs : List T} : (∀ x ∈ xs, Dp n x) → Dp (n + 1) (.lst xs)
theorem Dp.toD {n : Nat} {t : T} (h : Dp n t) : ∀ m, n < m → ∃ d, toD m t = some d := by
  induction h with
  | non => intro m hm; cases m with | zero => omega | succ m => exact ⟨_, by unfold Q.toD; rfl⟩
  | bl => intro m hm; cases m with | zero => omega | succ m => exact ⟨_, by unfold Q.toD; rfl⟩
  | int => intro m hm; cases m with | zero => omega | succ m => exact ⟨_, by unfold Q.toD; rfl⟩
  | str h => intro m hm; cases m with | zero => omega | succ m => exact ⟨_, by unfold Q.toD; rw [if_pos h]⟩
  | @tup n xs h ih =>
    intro m hm
    cases m with
    | zero => omega
    | succ m =>
      obtain ⟨ds, e, _⟩ := toDs_some (n := m) fun x hx => ih x hx m (by omega)
      exact ⟨_, by unfold Q.toD; rw [e]; rfl⟩
  | @lst n xs h ih =>
    intro m hm
    cases m with
    | zero => omega
    | succ m =>
      obtain ⟨ds, e, _⟩ := toDs_some (n := m) fun x hx => ih x hx m (by omega)
      exact ⟨_, by unfold Q.toD; rw [e]; rfl⟩
theorem Dp.dm {n : Nat} {t : T} (h : Dp n t) (hn : n < 60 := by decide) : Dm t := ⟨by cases h <;> exact (fun a z => by cases z), h.toD 60 hn⟩
@[simp] theorem eq_int (st : Store) (i j : Int) : eqT st (.int i) (.int j) = some (decide (i = j)) := by
  simp only [eqT, datOf, toD, PyData.eqv]
  by_cases h : i = j <;> simp [h]
@[simp] theorem eq_bl (st : Store) (i j : Bool) : eqT st (.bl i) (.bl j) = some (decide (i = j)) := by
  simp only [eqT, datOf, toD, PyData.eqv]
  cases i <;> cases j <;> rfl
theorem eq_emp {st : Store} {n : Nat} {xs : List T} (h : ∀ x ∈ xs, Dp n x) (hn : n < 59 := by decide) : eqT st (.lst xs) (.lst []) = some xs.isEmpty := by
  obtain ⟨ds, e, l⟩ := toDs_some (n := 59) fun x hx => (h x hx).toD 59 hn
  have e1 : datOf st (.lst xs) = some (.list ds) := by show toD 60 (.lst xs) = _; unfold toD; rw [e]; rfl
  have e2 : datOf st (.lst []) = some (.list []) := by show toD 60 (.lst []) = _; unfold toD toDs; rfl
  unfold eqT
  rw [e1, e2]
  cases xs with
  | nil => cases ds with
    | nil => rfl
    | cons => simp at l
  | cons x xs => cases ds with
    | nil => simp at l
    | cons => simp [PyData.eqv, PyData.eqvAll]
theorem toDs_ints (n : Nat) : ∀ is : List Int, toDs (n + 1) (is.map T.int) = some (is.map PyData.int)
  | [] => by unfold toDs; rfl
  | i :: is => by
    rw [List.map_cons]
    unfold toDs
    rw [toDs_ints n is]
    unfold toD
    rfl
theorem in_ints (st : Store) (i : Int) (is : List Int) : inT st (.int i) (is.map T.int) = some (decide (i ∈ is)) := by
  have e : datOf st (.int i) = some (.int i) := by unfold datOf; unfold toD; rfl
  unfold inT
  rw [toDs_ints 59 is, e]
  show some ((is.map PyData.int).any fun z => PyData.eqv z (.int i)) = _
  congr 1
  induction is with
  | nil => rfl
  | cons j is ih =>
    rw [List.map_cons, List.any_cons, ih]
    by_cases h : i = j
    · subst h; simp [PyData.eqv]
    · have h2 : ¬ j = i := fun z => h z.symm
      simp [PyData.eqv, h, h2]
/-! ### operations -/
section
variable (st : Store)
@[simp] theorem op_add (i j : Int) : opEval st .add [.int i, .int j] = some (.int (i + j)) := nr rfl
theorem op_addT (xs ys : List T) (h : xs.length + ys.length ≤ sizeLine) : opEval st .add [.tup xs, .tup ys] = some (.tup (xs ++ ys)) := if_pos h
theorem op_addL (xs ys : List T) (h : xs.length + ys.length ≤ sizeLine) : opEval st .add [.lst xs, .lst ys] = some (.lst (xs ++ ys)) := if_pos h
@[simp] theorem op_sub (i j : Int) : opEval st .sub [.int i, .int j] = some (.int (i - j)) := nr rfl
theorem op_mul (i j : Int) (h : -(2 ^ 64) < i ∧ i < 2 ^ 64) : opEval st .mul [.int i, .int j] = some (.int (i * j)) := if_pos (.inl h)
theorem op_mul' (i j : Int) (h : -(2 ^ 64) < j ∧ j < 2 ^ 64) : opEval st .mul [.int i, .int j] = some (.int (i * j)) := if_pos (.inr h)
theorem op_fdiv (i j : Int) (h : 0 < j ∧ j < 1073741824) : opEval st .fdiv [.int i, .int j] = some (.int (i / j)) := if_pos h
theorem op_mod (i j : Int) (h : 0 < j) : opEval st .mod [.int i, .int j] = some (.int (i % j)) := if_pos h
theorem op_pow (i j : Int) (h : 0 ≤ j ∧ j ≤ 1000000 ∧ i.natAbs < 2 ^ 64) : opEval st .pow [.int i, .int j] = some (.int (i ^ j.toNat)) := if_pos h
@[simp] theorem op_neg (i : Int) : opEval st .neg [.int i] = some (.int (-i)) := nr rfl
@[simp] theorem op_lt (i j : Int) : opEval st .lt [.int i, .int j] = some (.bl (decide (i < j))) := nr rfl
@[simp] theorem op_le (i j : Int) : opEval st .le [.int i, .int j] = some (.bl (decide (i ≤ j))) := nr rfl
@[simp] theorem op_gt (i j : Int) : opEval st .gt [.int i, .int j] = some (.bl (decide (j < i))) := nr rfl
@[simp] theorem op_ge (i j : Int) : opEval st .ge [.int i, .int j] = some (.bl (decide (j ≤ i))) := nr rfl
@[simp] theorem op_eq (a b : T) : opEval st .eq [a, b] = (eqT st a b).map .bl := nr rfl
@[simp] theorem op_ne (a b : T) : opEval st .ne [a, b] = (eqT st a b).map fun c => .bl (!c) := nr rfl
@[simp] theorem op_isN (a : T) : opEval st .isN [a] = some (.bl (isNonT a)) := nr rfl
@[simp] theorem op_notN (a : T) : opEval st .notN [a] = some (.bl (!isNonT a)) := nr rfl
@[simp] theorem op_isB (b a : Bool) : opEval st (.isB b) [.bl a] = some (.bl (decide (a = b))) := nr rfl
@[simp] theorem op_notB (b a : Bool) : opEval st (.notB b) [.bl a] = some (.bl (!decide (a = b))) := nr rfl
@[simp] theorem op_lenT (xs : List T) : opEval st .len [.tup xs] = some (.int xs.length) := nr rfl
@[simp] theorem op_lenL (xs : List T) : opEval st .len [.lst xs] = some (.int xs.length) := nr rfl
@[simp] theorem op_tupT (xs : List T) : opEval st .tuple [.tup xs] = some (.tup xs) := nr rfl
@[simp] theorem op_tupL (xs : List T) : opEval st .tuple [.lst xs] = some (.tup xs) := nr rfl
@[simp] theorem op_listT (xs : List T) : opEval st .list [.tup xs] = some (.lst xs) := nr rfl
@[simp] theorem op_listL (xs : List T) : opEval st .list [.lst xs] = some (.lst xs) := nr rfl
@[simp] theorem op_listD (kvs : List (Key × T)) : opEval st .list [.dic kvs] = some (.lst (kvs.map fun kv => ofKey kv.1)) := nr rfl
@[simp] theorem op_abs (i : Int) : opEval st .abs [.int i] = some (.int (if i < 0 then -i else i)) := nr rfl
@[simp] theorem op_int (i : Int) : opEval st .int [.int i] = some (.int i) := nr rfl
@[simp] theorem op_intB (b : Bool) : opEval st .int [.bl b] = some (.int (if b then 1 else 0)) := nr rfl
@[simp] theorem op_min2 (i j : Int) : opEval st .min2 [.int i, .int j] = some (.int (if j < i then j else i)) := nr rfl
@[simp] theorem op_idxT (xs : List T) (i : Int) : opEval st .idx [.tup xs, .int i] = L2.atI xs i := nr rfl
@[simp] theorem op_idxL (xs : List T) (i : Int) : opEval st .idx [.lst xs, .int i] = L2.atI xs i := nr rfl
@[simp] theorem op_inD (kvs : List (Key × T)) (i : Int) : opEval st .inn [.int i, .dic kvs] = some (.bl (getK kvs (.inl i)).isSome) := nr rfl
@[simp] theorem op_ninD (kvs : List (Key × T)) (i : Int) : opEval st .notIn [.int i, .dic kvs] = some (.bl (!(getK kvs (.inl i)).isSome)) := nr rfl
@[simp] theorem op_dget (kvs : List (Key × T)) (i : Int) : opEval st .dget [.dic kvs, .int i] = getK kvs (.inl i) := nr rfl
theorem op_ninT (is : List Int) (i : Int) : opEval st .notIn [.int i, .tup (is.map T.int)] = some (.bl (!decide (i ∈ is))) := by
  show ((inT st (.int i) (is.map T.int)).map fun c => T.bl (!c)) = _
  rw [in_ints]; rfl
end
@[simp] theorem isN_non : isNonT .non = true := nr rfl
@[simp] theorem isN_int (i : Int) : isNonT (.int i) = false := nr rfl
@[simp] theorem isN_tup (i : List T) : isNonT (.tup i) = false := nr rfl
theorem atI_pos {xs : List T} {i : Int} (h0 : 0 ≤ i) (h : i < xs.length) : L2.atI xs i = xs[i.toNat]? := by
  unfold L2.atI L2.ixN
  rw [if_pos h0, if_pos h]
  rfl
theorem atI_nat {xs : List T} {i : Nat} (h : i < xs.length) : L2.atI xs (i : Int) = xs[i]? := by
  rw [atI_pos (by omega) (by omega)]
  simp
@[simp] theorem atI_0 (x : T) (xs : List T) : L2.atI (x :: xs) 0 = some x := by
  rw [atI_pos (by omega) (by simp)]; rfl
@[simp] theorem atI_1 (x y : T) (xs : List T) : L2.atI (x :: y :: xs) 1 = some y := by
  rw [atI_pos (by omega) (by simp; omega)]; rfl
@[simp] theorem atI_2 (x y z : T) (xs : List T) : L2.atI (x :: y :: z :: xs) 2 = some z := by
  rw [atI_pos (by omega) (by simp; omega)]; rfl
@[simp] theorem atI_3 (x y z u : T) (xs : List T) : L2.atI (x :: y :: z :: u :: xs) 3 = some u := by
  rw [atI_pos (by omega) (by simp; omega)]; rfl
@[simp] theorem it_seqL (xs : List T) : itEval .seq [.lst xs] = some xs := nr rfl
@[simp] theorem it_seqT (xs : List T) : itEval .seq [.tup xs] = some xs := nr rfl
/-! ### loops -/
theorem for_rule {f : T → Env → Store → R} (I : List T → Env → Store → Prop) (h : ∀ x xs ρ st, I (x :: xs) ρ st → ∃ ρ' st', f x ρ st = .nx ρ' st' ∧ I xs ρ' st') : ∀ xs ρ st, I xs ρ st → ∃ ρ' st', forL f xs ρ st = .nx ρ' st' ∧ I [] ρ' st'
  | [], ρ, st, i => ⟨ρ, st, rfl, i⟩
  | x :: xs, ρ, st, i => by
    obtain ⟨ρ', st', e, i'⟩ := h x xs ρ st i
    obtain ⟨ρ2, st2, e2, i2⟩ := for_rule I h xs ρ' st' i'
    refine ⟨ρ2, st2, ?_, i2⟩
    unfold forL
    rw [e]
    exact e2
/-- a while loop that ends, by a measure -/
theorem whl_rule {c : Env → Store → O T} {f : Env → Store → R} (I : Nat → Env → Store → Prop) (Q : R → Prop) (h : ∀ m ρ st, I m ρ st → ∃ b, c ρ st = .ok (.bl b) st ∧ (b = false → Q (.nx ρ st)) ∧ (b = true → (∃ ρ' st' m', f ρ st = .nx ρ' st' ∧ m' < m ∧ I m' ρ' st') ∨ ∃ t st', f ρ st = .rt t st' ∧ Q (.rt t st'))) :
    ∀ n m ρ st, m < n → I m ρ st → Q (whlL c f n ρ st)
  | 0, m, ρ, st, hm, i => absurd hm (Nat.not_lt_zero _)
  | n + 1, m, ρ, st, hm, i => by
    obtain ⟨b, e, hf, ht⟩ := h m ρ st i
    unfold whlL
    rw [e]
    cases b with
    | false => exact hf rfl
    | true =>
      rcases ht rfl with ⟨ρ', st', m', e2, lt, i'⟩ | ⟨t, st', e2, q⟩
      · show Q (match f ρ st with | .nx ρ' st' => whlL c f n ρ' st' | .ct ρ' st' => whlL c f n ρ' st' | .bk ρ' st' => .nx ρ' st' | r => r)
        rw [e2]
        exact whl_rule I Q h n m' ρ' st' (by omega) i'
      · show Q (match f ρ st with | .nx ρ' st' => whlL c f n ρ' st' | .ct ρ' st' => whlL c f n ρ' st' | .bk ρ' st' => .nx ρ' st' | r => r)
        rw [e2]
        exact q
/-- a comprehension whose parts change nothing -/
theorem comp_pure {f : T → Store → O (Option T)} {g : T → Option T} {st : Store} : ∀ {xs : List T}, (∀ x ∈ xs, f x st = .ok (g x) st) → compL f xs st = .ok (xs.filterMap g) st
  | [], _ => rfl
  | x :: xs, h => by
    unfold compL
    rw [h x List.mem_cons_self, noex_ok, O.bind_ok, comp_pure (xs := xs) fun y hy => h y (List.mem_cons_of_mem _ hy), O.bind_ok]
    cases e : g x <;> simp [e]
/-- .. whose parts draw -/
theorem comp_draw {f : T → Store → O (Option T)} (J : Nat → Store → Prop) (Pr : T → Prop) (c : Nat) : ∀ {xs : List T} (k : Nat) (st : Store), (∀ x ∈ xs, ∀ k st, J (k + c) st → ∃ y st', f x st = .ok (some y) st' ∧ Pr y ∧ J k st') → J (k + c * xs.length) st → ∃ ys st', compL f xs st = .ok ys st' ∧ ys.length = xs.length ∧ (∀ y ∈ ys, Pr y) ∧ J k st'
  | [], k, st, _, j => ⟨[], st, rfl, rfl, (by simp), by simpa using j⟩
  | x :: xs, k, st, h, j => by
    obtain ⟨y, st1, e1, p1, j1⟩ := h x List.mem_cons_self (k + c * xs.length) st (by rw [List.length_cons, Nat.mul_add] at j; rw [Nat.add_assoc]; simpa using j)
    obtain ⟨ys, st2, e2, l2, p2, j2⟩ := comp_draw J Pr c (xs := xs) k st1 (fun x hx => h x (List.mem_cons_of_mem _ hx)) j1
    refine ⟨y :: ys, st2, ?_, by simp [l2], by simpa using ⟨p1, p2⟩, j2⟩
    unfold compL
    rw [e1, noex_ok, O.bind_ok, e2, O.bind_ok]
section
variable {call : Nat → List T → List T → Store → O T} {hear : Nat → Store → O T → O T} {W : Nat} {tg : Tg} {cs : List E} {elt : E} {ρ : Env}
theorem cmp_pure (g : T → Option T) {st : Store} {xs : List T} (h : ∀ x ∈ xs, elO call hear cs elt (assign tg x ρ) st = .ok (g x) st) : cmpE call hear tg cs elt ρ xs st = .ok (xs.filterMap g) st := comp_pure h
theorem cmp_map (g : T → T) {st : Store} {xs : List T} (h : ∀ x ∈ xs, elO call hear cs elt (assign tg x ρ) st = .ok (some (g x)) st) : cmpE call hear tg cs elt ρ xs st = .ok (xs.map g) st := by
  rw [cmp_pure (fun x => some (g x)) h]
  simp
theorem cmp_draw (J : Nat → Store → Prop) (Pr : T → Prop) (c : Nat) {xs : List T} (k : Nat) (st : Store) (h : ∀ x ∈ xs, ∀ k st, J (k + c) st → ∃ y st', elO call hear cs elt (assign tg x ρ) st = .ok (some y) st' ∧ Pr y ∧ J k st') (j : J (k + c * xs.length) st) : ∃ ys st', cmpE call hear tg cs elt ρ xs st = .ok ys st' ∧ ys.length = xs.length ∧ (∀ y ∈ ys, Pr y) ∧ J k st' := comp_draw J Pr c k st h j
theorem forE_rule {body : List S} (I : List T → Env → Store → Prop) (h : ∀ x xs ρ st, I (x :: xs) ρ st → ∃ ρ' st', asgR (assign tg x ρ) (fun ρ' => evalSs call hear W body ρ' st) = .nx ρ' st' ∧ I xs ρ' st') (xs : List T) (ρ : Env) (st : Store) (i : I xs ρ st) : ∃ ρ' st', forE call hear W tg body xs ρ st = .nx ρ' st' ∧ I [] ρ' st' := for_rule I h xs ρ st i
theorem whlE_rule {c : E} {body : List S} (I : Nat → Env → Store → Prop) (Q : R → Prop) (h : ∀ m ρ st, I m ρ st → ∃ b, orB (ownVar c ρ) st (evalE call hear c ρ st) = .ok (.bl b) st ∧ (b = false → Q (.nx ρ st)) ∧ (b = true → (∃ ρ' st' m', evalSs call hear W body ρ st = .nx ρ' st' ∧ m' < m ∧ I m' ρ' st') ∨ ∃ t st', evalSs call hear W body ρ st = .rt t st' ∧ Q (.rt t st'))) (m : Nat) (ρ : Env) (st : Store) (hm : m < W) (i : I m ρ st) : Q (whlE call hear W c body ρ st) := whl_rule I Q h W m ρ st hm i
end
end M
end
/-! M3 -/
section
set_option linter.all false
set_option maxRecDepth 100000
set_option maxHeartbeats 2000000
namespace M
open Q C
open PySem (PyData sizeLine)
/-! ### the pen -/
def penT (cells : List Int) (at_ gr : Int) : T := .lst [.lst (cells.map T.int), .int at_, .int gr]
/-- the store: the table, the pen; k draws are left -/
def Pen (P : Nat) (cells : List Int) (k : Nat) (st : Store) : Prop := ∃ at_ gr : Int, st = [.tab P tqL, penT cells at_ gr] ∧ 0 ≤ at_ ∧ at_ + k ≤ 2 ^ 20 ∧ 0 ≤ gr
theorem Pen.less {P : Nat} {cells : List Int} {k j : Nat} {st : Store} (h : Pen P cells k st) (hj : j ≤ k) : Pen P cells j st := by
  obtain ⟨a, g, e, h1, h2, h3⟩ := h
  exact ⟨a, g, e, h1, by omega, h3⟩
@[simp] theorem idx_ref (P : Nat) (cells : List Int) (a g i : Int) : opEval [.tab P tqL, penT cells a g] .idx [.ref 1, .int i] = L2.atI [.lst (cells.map T.int), .int a, .int g] i := nr rfl
theorem set2 (P : Nat) (cells : List Int) (a g v : Int) : putAt (penT cells a g) (.int 2) (.int v) = some (penT cells a v) := by
  unfold penT putAt L2.ixN
  rfl
theorem set1 (P : Nat) (cells : List Int) (a g v : Int) : putAt (penT cells a g) (.int 1) (.int v) = some (penT cells v g) := by
  unfold penT putAt L2.ixN
  rfl
theorem dp_ints (is : List Int) : ∀ x ∈ is.map T.int, Dp 0 x := by
  intro x hx
  obtain ⟨i, _, rfl⟩ := List.mem_map.mp hx
  exact .int
theorem natAbs_lt {a b : Int} (h1 : -b < a) (h2 : a < b) : a.natAbs < b.toNat := by omega
theorem ss_app {c : Nat → List T → List T → Store → O T} {h : Nat → Store → O T → O T} {W : Nat} (l2 : List S) : ∀ (l1 : List S) (ρ : Env) (st : Store), evalSs c h W (l1 ++ l2) ρ st = seqR (evalSs c h W l1 ρ st) (evalSs c h W l2)
  | [], ρ, st => by simp
  | s :: l1, ρ, st => by
    rw [List.cons_append, ss_cons, ss_cons]
    cases e : evalS c h W s ρ st <;> simp [seqR, ss_app l2 l1]
theorem ss_cut {c : Nat → List T → List T → Store → O T} {h : Nat → Store → O T → O T} {W : Nat} (k : Nat) (l : List S) (ρ : Env) (st : Store) : evalSs c h W l ρ st = seqR (evalSs c h W (l.take k) ρ st) (evalSs c h W (l.drop k)) := by
  rw [← ss_app, List.take_append_drop]
theorem mix_ok {call : Nat → List T → List T → Store → O T} {hear : Nat → Store → O T → O T} {W : Nat} (st : Store) (pe : T) (m a c : Int) (s5 s6 : Slot) (m0 : 0 < m) (h1 : 0 ≤ a) (h2 : a ≤ 2 ^ 20) : ∃ r, finish (evalSs call hear W (b__law_draw.drop 7) [.val pe, .val (.int m), .val (.int a), .val (.int c), .no, s5, s6] st) = .ok (.int r) st ∧ 0 ≤ r ∧ r < m := by
  have b1 : (c % 2147483549 + 36195 * a + 11449).natAbs < 2 ^ 64 := by
    have := Int.emod_nonneg c (show (2147483549 : Int) ≠ 0 by decide)
    have := Int.emod_lt_of_pos c (show (0 : Int) < 2147483549 by decide)
    omega
  generalize hx : (c % 2147483549 + 36195 * a + 11449) = x at b1
  have b2 : ((x ^ 3) % 2147483629 * (2 * a + 7569) + 62181 * a * a + 36195).natAbs < 2 ^ 64 := by
    have k1 := Int.emod_nonneg (x ^ 3) (show (2147483629 : Int) ≠ 0 by decide)
    have k2 := Int.emod_lt_of_pos (x ^ 3) (show (0 : Int) < 2147483629 by decide)
    generalize (x ^ 3) % 2147483629 = y at k1 k2
    have k3 : y * (2 * a + 7569) ≤ 2147483629 * (2 * a + 7569) := Int.mul_le_mul_of_nonneg_right (by omega) (by omega)
    have k4 : 0 ≤ y * (2 * a + 7569) := Int.mul_nonneg k1 (by omega)
    have k5 : 62181 * a * a ≤ 62181 * a * 2 ^ 20 := Int.mul_le_mul_of_nonneg_left h2 (by omega)
    have k6 : 0 ≤ 62181 * a * a := Int.mul_nonneg (by omega) h1
    omega
  generalize hy : ((x ^ 3) % 2147483629 * (2 * a + 7569) + 62181 * a * a + 36195) = y at b2
  refine ⟨(y ^ 5) % 2147483563 / 16 % m, ?_, Int.emod_nonneg _ (by omega), Int.emod_lt_of_pos _ m0⟩
  have e1 : (x ^ 3) % 2147483629 * (2 * a + 7569) + 62181 * a * a + 36195 = y := hy
  have p3 : opEval st .pow [.int x, .int 3] = some (.int (x ^ 3)) := op_pow st x 3 ⟨by decide, by decide, b1⟩
  have p5 : opEval st .pow [.int y, .int 5] = some (.int (y ^ 5)) := op_pow st y 5 ⟨by decide, by decide, b2⟩
  have q1 : opEval st .mul [.int 36195, .int a] = some (.int (36195 * a)) := op_mul st _ _ (by decide)
  have q2 : opEval st .mul [.int 2, .int a] = some (.int (2 * a)) := op_mul st _ _ (by decide)
  have q3 : opEval st .mul [.int 62181, .int a] = some (.int (62181 * a)) := op_mul st _ _ (by decide)
  have q4 : opEval st .mul [.int (62181 * a), .int a] = some (.int (62181 * a * a)) := op_mul' st _ _ (by omega)
  have q5 : opEval st .mul [.int ((x ^ 3) % 2147483629), .int (2 * a + 7569)] = some (.int ((x ^ 3) % 2147483629 * (2 * a + 7569))) := op_mul' st _ _ (by omega)
  have r1 : opEval st .mod [.int c, .int 2147483549] = some (.int (c % 2147483549)) := op_mod st _ _ (by decide)
  have r2 : opEval st .mod [.int (x ^ 3), .int 2147483629] = some (.int ((x ^ 3) % 2147483629)) := op_mod st _ _ (by decide)
  have r3 : opEval st .mod [.int (y ^ 5), .int 2147483563] = some (.int ((y ^ 5) % 2147483563)) := op_mod st _ _ (by decide)
  have r4 : opEval st .fdiv [.int ((y ^ 5) % 2147483563), .int 16] = some (.int ((y ^ 5) % 2147483563 / 16)) := op_fdiv st _ _ (by decide)
  have r5 : opEval st .mod [.int ((y ^ 5) % 2147483563 / 16), .int m] = some (.int ((y ^ 5) % 2147483563 / 16 % m)) := op_mod st _ _ m0
  simp [b__law_draw, setS, q1, q2, q3, q4, r1, hx, p3, r2, q5, e1, p5, r3, r4, r5]
theorem draw_ok (P n : Nat) (cells : List Int) (k : Nat) (st : Store) (m : Int) (hm : m < 1073741824) (h : Pen P cells (k + 1) st) :
    ∃ r st', CL P (n + 1) 6 [.ref 1, .int m] [] st = .ok (.int r) st' ∧ 0 ≤ r ∧ (2 ≤ m → r < m) ∧ (m < 2 → r = 0) ∧ Pen P cells k st' := by
  obtain ⟨a, g, rfl, h1, h2, h3⟩ := h
  rw [cl6]
  by_cases c1 : m < 2
  · refine ⟨0, _, ?_, by omega, by omega, fun _ => rfl, ⟨a, g, rfl, h1, by omega, h3⟩⟩
    simp [b__law_draw, c1]
  · have m0 : 0 < m := by omega
    by_cases c2 : 0 < g
    · refine ⟨g % m, [.tab P tqL, penT cells a (g / m)], ?_, Int.emod_nonneg _ (by omega), fun _ => Int.emod_lt_of_pos _ m0, by omega, ⟨a, _, rfl, h1, by omega, Int.ediv_nonneg h3 (by omega)⟩⟩
      simp [b__law_draw, c1, c2, op_mod _ _ _ m0, op_fdiv _ _ _ ⟨m0, hm⟩, setS, set2 P]
    · have s1p : Pen P cells k [.tab P tqL, penT cells (a + 1) g] := ⟨a + 1, g, rfl, by omega, by omega, h3⟩
      have q3 : ∀ st, opEval st .mul [.int 62181, .int a] = some (.int (62181 * a)) := fun st => op_mul st _ _ (by decide)
      have q9 : ∀ st, opEval st .pow [.int 10, .int 18] = some (.int 1000000000000000000) := fun st => op_pow st 10 18 (by decide)
      rw [ss_cut 7]
      have eE : ∀ st, eqT st (.lst (cells.map T.int)) (.lst []) = some (cells.map T.int).isEmpty := fun st => eq_emp (dp_ints cells)
      have mx := fun (c : Int) => mix_ok (call := CL P n) (hear := HR P) (W := WN) [.tab P tqL, penT cells (a + 1) g] (.ref 1) m a c .no .no m0 h1 (by omega)
      generalize hd : b__law_draw.drop 7 = tl at mx
      by_cases hc : cells = []
      · subst hc
        obtain ⟨r, e, r1, r2⟩ := mx (62181 * a + 11449)
        refine ⟨r, _, ?_, r1, fun _ => r2, by omega, s1p⟩
        have h1' : ¬ a < 0 := by omega
        have eN : ∀ st, eqT st (.lst []) (.lst []) = some true := fun st => eq_emp (n := 0) (by simp)
        simpa [b__law_draw, c1, c2, setS, set1 P, q3, q9, eN, h1'] using e
      · have hE : cells.isEmpty = false := by simp [hc]
        have hl : 0 < cells.length := List.length_pos_iff.mpr hc
        have i0 := Int.emod_nonneg a (show (cells.length : Int) ≠ 0 by omega)
        have i1 := Int.emod_lt_of_pos a (show (0 : Int) < cells.length by omega)
        obtain ⟨c, ec⟩ : ∃ c, cells[(a % cells.length).toNat]? = some c := ⟨_, List.getElem?_eq_getElem (by omega)⟩
        have em : ∀ st, opEval st .mod [.int a, .int cells.length] = some (.int (a % cells.length)) := fun st => op_mod st _ _ (by omega)
        have ei : L2.atI (cells.map T.int) (a % cells.length) = some (.int c) := by
          rw [atI_pos i0 (by simpa using i1), List.getElem?_map, ec]; rfl
        by_cases cc : a < cells.length ∧ 1000000000000000000 ≤ (if c < 0 then -c else c)
        · obtain ⟨cc1, cc2⟩ := cc
          generalize hg : 2 * ((if c < 0 then -c else c) - 1000000000000000000) + (if c < 0 then 1 else 0) = gr
          have g0 : 0 ≤ gr := by split at hg <;> (split at cc2 <;> omega)
          refine ⟨gr % m, [.tab P tqL, penT cells (a + 1) (gr / m)], ?_, Int.emod_nonneg _ (by omega), fun _ => Int.emod_lt_of_pos _ m0, by omega, ⟨a + 1, _, rfl, by omega, by omega, Int.ediv_nonneg g0 (by omega)⟩⟩
          have e2 : ∀ st (x : Int), opEval st .mul [.int 2, .int x] = some (.int (2 * x)) := fun st x => op_mul st _ _ (by decide)
          simp [b__law_draw, c1, c2, setS, set1 P, set2 P, q3, q9, eE, hE, em, ei, cc1, cc2, e2, op_mod _ _ _ m0, op_fdiv _ _ _ ⟨m0, hm⟩, hg]

        · obtain ⟨r, e, r1, r2⟩ := mx c
          refine ⟨r, _, ?_, r1, fun _ => r2, by omega, s1p⟩
          by_cases d : a < cells.length
          · have cc : ¬ 1000000000000000000 ≤ (if c < 0 then -c else c) := fun z => cc ⟨d, z⟩
            simpa [b__law_draw, c1, c2, setS, set1 P, q3, q9, eE, hE, em, ei, d, cc] using e
          · simpa [b__law_draw, c1, c2, setS, set1 P, q3, q9, eE, hE, em, ei, d] using e
end M
end
/-! M4 -/
section
set_option linter.all false
set_option maxRecDepth 100000
set_option maxHeartbeats 2000000
namespace M
open Q C
open PySem (PyData sizeLine)
theorem cl7 (P n : Nat) (a b : T) (st : Store) : CL P (n + 1) 7 [a, b] [] st = finish (evalSs (CL P n) (HR P) WN b__law_pick [.val a, .val b] st) := rfl
theorem cl8 (P n : Nat) (a b c : T) (st : Store) : CL P (n + 1) 8 [a, b, c] [] st = finish (evalSs (CL P n) (HR P) WN b__law_rows [.val a, .val b, .val c, .no, .no, .no, .no, .no, .no] st) := rfl
theorem cl9 (P n : Nat) (a : T) (st : Store) : CL P (n + 1) 9 [a] [] st = finish (evalSs (CL P n) (HR P) WN b__law_pen [.val a, .no] st) := rfl
theorem cl10 (P n : Nat) (a b : T) (st : Store) : CL P (n + 1) 10 [a, b] [] st = finish (evalSs (CL P n) (HR P) WN b__law_world [.val a, .val b, .no, .no, .no, .no, .no, .no] st) := rfl
theorem cl20 (P n : Nat) (a b : T) (st : Store) : CL P (n + 1) 20 [a, b] [] st = finish (evalSs (CL P n) (HR P) WN b__law_mixed [.val a, .val b, .no, .no] st) := rfl
theorem pen_ok (P n : Nat) (ns : List Int) (h : ns.length ≤ 63) : ∃ cells st', CL P (n + 1) 9 [.scr (ns.map T.int)] [] [.tab P tqL] = .ok (.ref 1) st' ∧ Pen P cells (2 ^ 20) st' := by
  rw [cl9]
  obtain ⟨cs, e⟩ : ∃ cs : List Int, cut (ns.map T.int) none (some 63) = cs.map T.int := by
    unfold cut
    rw [← List.map_drop, ← List.map_take]
    exact ⟨_, rfl⟩
  refine ⟨cs, [.tab P tqL, penT cs 0 0], ?_, ⟨0, 0, rfl, by omega, by omega, by omega⟩⟩
  have e2 : ∀ st, cmpE (CL P n) (HR P) (.nm 1) [] (.op .int [.var 1]) [.val (.scr (ns.map T.int)), .no] (cs.map T.int) st = .ok (cs.map T.int) st := by
    intro st
    have key := cmp_map (call := CL P n) (hear := HR P) (tg := .nm 1) (cs := []) (elt := .op .int [.var 1]) (ρ := [.val (.scr (ns.map T.int)), .no]) (fun x => x) (st := st) (xs := cs.map T.int) (fun x hx => by
      obtain ⟨i, _, rfl⟩ := List.mem_map.mp hx
      simp)
    simpa [Function.comp_def] using key
  simp [b__law_pen, partOf, slice, lstOf, e, e2, freshE, isMut, penT]
theorem pick_ok (P n : Nat) (cells : List Int) (k : Nat) (st : Store) (xs : List T) (h0 : xs ≠ []) (hl : xs.length < 1000000) (h : Pen P cells (k + 1) st) : ∃ x st', CL P (n + 2) 7 [.ref 1, .lst xs] [] st = .ok x st' ∧ x ∈ xs ∧ Pen P cells k st' := by
  have hl0 : 0 < xs.length := List.length_pos_iff.mpr h0
  obtain ⟨r, st', e, r1, r2, r3, p⟩ := draw_ok P n cells k st xs.length (by omega) h
  have rl : r < xs.length := by
    by_cases c : 2 ≤ (xs.length : Int)
    · exact r2 c
    · rw [r3 (by omega)]; omega
  obtain ⟨x, ex⟩ : ∃ x, xs[r.toNat]? = some x := ⟨_, List.getElem?_eq_getElem (by omega)⟩
  refine ⟨x, st', ?_, List.mem_of_getElem? ex, p⟩
  rw [cl7]
  simp [b__law_pick, e, atI_pos r1 rl, ex]
/-! ### rows -/
def Cell (m : Int) (t : T) : Prop := t = .non ∨ ∃ i, t = .int i ∧ 0 ≤ i ∧ i < m
def RowOk (m : Int) (w : Nat) (t : T) : Prop := ∃ cs : List T, t = .lst cs ∧ cs.length = w ∧ ∀ c ∈ cs, Cell m c
theorem cut_to (xs : List T) (k : Nat) : cut xs none (some (k : Int)) = xs.take k := by
  unfold cut
  rw [HT.sIx_none, HT.sIx_nat]
  simp
theorem cut_1 (xs : List T) : cut xs (some 1) none = xs.drop 1 := by
  unfold cut
  rw [HT.sIx_none, show (some (1 : Int)) = some ((1 : Nat) : Int) from rfl, HT.sIx_nat]
  cases xs with
  | nil => rfl
  | cons x xs => simp
theorem rng1 (n : Int) (h : 0 ≤ n) (h2 : n ≤ 1000) : itEval .rng1 [.int n] = some ((List.range n.toNat).map fun (i : Nat) => T.int i) := by
  exact if_pos ⟨by omega, by omega⟩
theorem rng_mem {n : Int} {x : T} (h : x ∈ (List.range n.toNat).map fun (i : Nat) => T.int i) : ∃ i : Int, x = .int i ∧ 0 ≤ i ∧ i < n := by
  obtain ⟨i, hi, rfl⟩ := List.mem_map.mp h
  have := List.mem_range.mp hi
  exact ⟨i, rfl, by omega, by omega⟩
theorem mulT_ok (st : Store) (xs : List T) (k : Int) (h0 : 0 ≤ k) (h : xs.length * k.toNat ≤ 1000) (hk : k ≤ 1000) : opEval st .mul [.lst xs, .int k] = some (.lst (List.replicate k.toNat xs).flatten) := by
  refine if_pos ⟨⟨by omega, by omega⟩, ?_⟩
  rw [szl]; omega
theorem mulU_ok (st : Store) (xs : List T) (k : Int) (h : xs.length * k.toNat ≤ 1000) (hk : k ≤ 1000) (hk2 : -1000 ≤ k) : opEval st .mul [.tup xs, .int k] = some (.tup (List.replicate k.toNat xs).flatten) := by
  refine if_pos ⟨⟨by omega, by omega⟩, ?_⟩
  rw [szl]; omega
theorem flat_one {α : Type} (x : α) : ∀ k, (List.replicate k [x]).flatten = List.replicate k x
  | 0 => rfl
  | k + 1 => by rw [List.replicate_succ, List.flatten_cons, flat_one x k]; rfl
def rowB : List S := [.ass 6 (.comp (.nm 7) .rng1 [(.var 1)] [] (.ite (.op .eq [(.call 6 [(.var 0), (.con (.int 2))] [] []), (.con (.int 0))]) (.call 6 [(.var 0), (.var 2)] [] []) (.con .non))),
      .iff (.op .eq [(.var 4), (.con (.int 0))]) [.ass 6 (.op .add [(.lst [(.ite (.op .lt [(.op .add [(.var 3), (.con (.int 1))]), (.var 2)]) (.op .add [(.var 3), (.con (.int 1))]) (.con .non))]), (.slc (.var 6) [(.con (.int 1))] [])])] [.iff (.op .eq [(.var 4), (.con (.int 1))]) [.ass 6 (.op .mul [(.lst [(.op .mod [(.op .int [(.op .add [(.var 3), (.con (.int 1))])]), (.var 2)])]), (.var 1)])] [.iff (.op .eq [(.var 4), (.con (.int 2))]) [.ass 6 (.comp (.nm 7) .rng1 [(.var 1)] [] (.ite (.op .lt [(.op .add [(.op .add [(.op .mul [(.var 1), (.var 3)]), (.var 7)]), (.con (.int 1))]), (.var 2)]) (.op .add [(.op .add [(.op .mul [(.var 1), (.var 3)]), (.var 7)]), (.con (.int 1))]) (.con .non)))] [.iff (.op .eq [(.var 4), (.con (.int 3))]) [.ass 6 (.comp (.nm 8) .seq [(.var 6)] [] (.ite (.op .eq [(.call 6 [(.var 0), (.con (.int 3))] [] []), (.con (.int 0))]) (.var 8) (.con .non)))] [.iff (.op .eq [(.var 4), (.con (.int 4))]) [.ass 6 (.comp (.nm 8) .seq [(.var 6)] [] (.ite (.op .eq [(.call 6 [(.var 0), (.con (.int 4))] [] []), (.con (.int 0))]) (.var 3) (.var 8)))] []]]]],
      .app 5 (.var 6)]
theorem rows_eq : b__law_rows = [b__law_rows.headD .pas, .for (.nm 3) .rng1 [(.var 2)] rowB, .frz 5, .ret (.var 5)] := rfl
section
variable (P n : Nat) (cells : List Int) (wide : Nat) (many : Int) (w1 : 1 ≤ wide) (w4 : wide ≤ 4) (m0 : 0 ≤ many) (m40 : many ≤ 40)
abbrev rho (wide : Nat) (many x way : Int) (fs : List T) (s6 s7 s8 : Slot) : Env := [.val (.ref 1), .val (.int wide), .val (.int many), .val (.int x), .val (.int way), .own (.lst fs), s6, s7, s8]
include w1 w4 m0 m40
theorem comp_1 (k : Nat) (st : Store) (way x : Int) (fs : List T) (s6 s7 s8 : Slot) (x0 : 0 ≤ x) (xm : x < many) (h : Pen P cells (k + 2 * wide) st) :
    ∃ ys st', cmpE (CL P (n + 1)) (HR P) (.nm 7) [] (.ite (.op .eq [(.call 6 [(.var 0), (.con (.int 2))] [] []), (.con (.int 0))]) (.call 6 [(.var 0), (.var 2)] [] []) (.con .non)) (rho wide many x way fs s6 s7 s8) ((List.range (wide : Int).toNat).map fun (i : Nat) => T.int i) st = .ok ys st' ∧ ys.length = wide ∧ (∀ y ∈ ys, Cell many y) ∧ Pen P cells k st' := by
  have key := cmp_draw (call := CL P (n + 1)) (hear := HR P) (tg := .nm 7) (cs := []) (elt := .ite (.op .eq [(.call 6 [(.var 0), (.con (.int 2))] [] []), (.con (.int 0))]) (.call 6 [(.var 0), (.var 2)] [] []) (.con .non)) (ρ := rho wide many x way fs s6 s7 s8) (Pen P cells) (Cell many) 2 (xs := (List.range (wide : Int).toNat).map fun (i : Nat) => T.int i) k st (fun y hy k st hp => by
      obtain ⟨r, st1, e1, r1, r2, r3, p1⟩ := draw_ok P n cells (k + 1) st 2 (by decide) hp
      by_cases hr : r = 0
      · obtain ⟨q, st2, e2, q1, q2, q3, p2⟩ := draw_ok P n cells k st1 many (by omega) p1
        refine ⟨.int q, st2, ?_, .inr ⟨q, rfl, q1, ?_⟩, p2⟩
        · simp [e1, hr, e2]
        · by_cases c : 2 ≤ many
          · exact q2 c
          · rw [q3 (by omega)]; omega
      · refine ⟨.non, st1, ?_, .inl rfl, p1.less (by omega)⟩
        simp [e1, hr]) (by simpa using h)
  simpa using key
theorem comp_d (k : Nat) (st : Store) (way x : Int) (fs ys : List T) (s7 s8 : Slot) (m : Int) (hm : m < 100) (elt : E) (pick : Int → T → T) (l1 : ys.length = wide) (h : Pen P cells (k + wide) st)
    (he : ∀ y ∈ ys, ∀ r st st', CL P (n + 1) 6 [.ref 1, .int m] [] st = .ok (.int r) st' → evalE (CL P (n + 1)) (HR P) elt (rho wide many x way fs (.val (.lst ys)) s7 (.val y)) st = .ok (pick r y) st') (hp : ∀ y ∈ ys, ∀ r, Cell many (pick r y)) :
    ∃ zs st', cmpE (CL P (n + 1)) (HR P) (.nm 8) [] elt (rho wide many x way fs (.val (.lst ys)) s7 s8) ys st = .ok zs st' ∧ zs.length = wide ∧ (∀ y ∈ zs, Cell many y) ∧ Pen P cells k st' := by
  have key := cmp_draw (call := CL P (n + 1)) (hear := HR P) (tg := .nm 8) (cs := []) (elt := elt) (ρ := rho wide many x way fs (.val (.lst ys)) s7 s8) (Pen P cells) (Cell many) 1 (xs := ys) k st (fun y hy k st hpen => by
    obtain ⟨r, st2, e2, _, _, _, p2⟩ := draw_ok P n cells k st m (by omega) hpen
    have e3 := he y hy r st st2 e2
    refine ⟨pick r y, st2, ?_, hp y hy r, p2⟩
    simp [rho] at e3 ⊢
    simp [e3]) (by rw [l1]; simpa using h)
  rw [l1] at key
  exact key
/-- one row -/
theorem row_ok (k : Nat) (st : Store) (way x : Int) (s6 s7 s8 : Slot) (fs : List T) (x0 : 0 ≤ x) (xm : x < many) (hf : fs.length ≤ 40) (h : Pen P cells (k + 3 * wide) st) :
    ∃ row st' s7' s8', evalSs (CL P (n + 1)) (HR P) WN rowB (rho wide many x way fs s6 s7 s8) st = .nx (rho wide many x way (fs ++ [row]) (.val row) s7' s8') st' ∧ RowOk many wide row ∧ Pen P cells k st' := by
  have m1 : 0 < many := by omega
  obtain ⟨ys, st1, e1, l1, p1, j1⟩ := comp_1 P n cells wide many w1 w4 m0 m40 (k + wide) st way x fs s6 s7 s8 x0 xm (h.less (by omega))
  have rg := rng1 (wide : Int) (by omega) (by omega)
  have hz : fs.length < sizeLine := by rw [szl]; omega
  simp at e1
  by_cases c0 : way = 0
  · subst c0
    refine ⟨.lst ((if x + 1 < many then .int (x + 1) else .non) :: ys.drop 1), st1, s7, s8, ?_, ⟨_, rfl, ?_, ?_⟩, j1.less (by omega)⟩
    · have ad : ∀ st (a : T), opEval st .add [.lst [a], .lst ys.tail] = some (.lst (a :: ys.tail)) := fun st a => op_addL st _ _ (by rw [szl, List.length_tail]; simp; omega)
      by_cases d : x + 1 < many <;> simp [rowB, rg, e1, setS, slice, lstOf, partOf, cut_1, ad, d, hz]
    · simp; omega
    · intro c hc
      rcases List.mem_cons.mp hc with rfl | hc
      · split
        · exact .inr ⟨x + 1, rfl, by omega, by assumption⟩
        · exact .inl rfl
      · exact p1 c (List.mem_of_mem_drop hc)
  by_cases c1 : way = 1
  · subst c1
    have md : ∀ st, opEval st .mod [.int (x + 1), .int many] = some (.int ((x + 1) % many)) := fun st => op_mod st _ _ m1
    have mu : ∀ st (a : T), opEval st .mul [.lst [a], .int wide] = some (.lst (List.replicate wide a)) := fun st a => by
      rw [mulT_ok st [a] wide (by omega) (by simp; omega) (by omega), flat_one]; simp
    refine ⟨.lst (List.replicate wide (.int ((x + 1) % many))), st1, s7, s8, ?_, ⟨_, rfl, by simp, ?_⟩, j1.less (by omega)⟩
    · simp [rowB, rg, e1, setS, md, mu, hz]
    · intro c hc
      obtain ⟨_, rfl⟩ := List.mem_replicate.mp hc
      exact .inr ⟨_, rfl, Int.emod_nonneg _ (by omega), Int.emod_lt_of_pos _ m1⟩
  by_cases c2 : way = 2
  · subst c2
    let g : T → T := fun z => match z with
      | .int f => if wide * x + f + 1 < many then .int (wide * x + f + 1) else .non
      | _ => .non
    have cp : ∀ st, cmpE (CL P (n + 1)) (HR P) (.nm 7) [] (.ite (.op .lt [(.op .add [(.op .add [(.op .mul [(.var 1), (.var 3)]), (.var 7)]), (.con (.int 1))]), (.var 2)]) (.op .add [(.op .add [(.op .mul [(.var 1), (.var 3)]), (.var 7)]), (.con (.int 1))]) (.con .non)) (rho wide many x 2 fs (.val (.lst ys)) s7 s8) ((List.range (wide : Int).toNat).map fun (i : Nat) => T.int i) st = .ok (((List.range (wide : Int).toNat).map fun (i : Nat) => T.int i).map g) st := by
      intro st
      have mu : ∀ st, opEval st .mul [.int wide, .int x] = some (.int (wide * x)) := fun st => op_mul st _ _ (by omega)
      have key := cmp_map (call := CL P (n + 1)) (hear := HR P) (tg := .nm 7) (cs := []) (elt := .ite (.op .lt [(.op .add [(.op .add [(.op .mul [(.var 1), (.var 3)]), (.var 7)]), (.con (.int 1))]), (.var 2)]) (.op .add [(.op .add [(.op .mul [(.var 1), (.var 3)]), (.var 7)]), (.con (.int 1))]) (.con .non)) (ρ := rho wide many x 2 fs (.val (.lst ys)) s7 s8) g (st := st) (xs := (List.range (wide : Int).toNat).map fun (i : Nat) => T.int i) (fun z hz => by
        obtain ⟨f, rfl, f0, f1⟩ := rng_mem hz
        by_cases d : wide * x + f + 1 < many <;> simp [mu, g, d])
      rw [key]
    simp at cp
    refine ⟨.lst (((List.range (wide : Int).toNat).map fun (i : Nat) => T.int i).map g), st1, s7, s8, ?_, ⟨_, rfl, by simp, ?_⟩, j1.less (by omega)⟩
    · simp [rowB, rg, e1, setS, hz, cp]
    · intro c hc
      obtain ⟨z, hz, rfl⟩ := List.mem_map.mp hc
      obtain ⟨f, rfl, f0, f1⟩ := rng_mem hz
      show Cell many (if wide * x + f + 1 < many then .int (wide * x + f + 1) else .non)
      split
      · refine .inr ⟨_, rfl, ?_, by assumption⟩
        have := Int.mul_nonneg (show (0 : Int) ≤ wide by omega) x0
        omega
      · exact .inl rfl
  by_cases c3 : way = 3
  · subst c3
    obtain ⟨zs, st2, e2, l2, p2, j2⟩ := comp_d P n cells wide many w1 w4 m0 m40 k st1 3 x fs ys s7 s8 3 (by decide) (.ite (.op .eq [(.call 6 [(.var 0), (.con (.int 3))] [] []), (.con (.int 0))]) (.var 8) (.con .non)) (fun r y => if r = 0 then y else .non) l1 j1 (fun y hy r st st' e => by
      by_cases d : r = 0 <;> simp [e, d]) (fun y hy r => by
      show Cell many (if r = 0 then y else .non)
      split
      · exact p1 y hy
      · exact .inl rfl)
    refine ⟨.lst zs, st2, s7, s8, ?_, ⟨_, rfl, l2, p2⟩, j2⟩
    simp [rowB, rg, e1, setS, hz, e2]
  by_cases c4 : way = 4
  · subst c4
    obtain ⟨zs, st2, e2, l2, p2, j2⟩ := comp_d P n cells wide many w1 w4 m0 m40 k st1 4 x fs ys s7 s8 4 (by decide) (.ite (.op .eq [(.call 6 [(.var 0), (.con (.int 4))] [] []), (.con (.int 0))]) (.var 3) (.var 8)) (fun r y => if r = 0 then .int x else y) l1 j1 (fun y hy r st st' e => by
      by_cases d : r = 0 <;> simp [e, d]) (fun y hy r => by
      show Cell many (if r = 0 then .int x else y)
      split
      · exact .inr ⟨x, rfl, x0, xm⟩
      · exact p1 y hy)
    refine ⟨.lst zs, st2, s7, s8, ?_, ⟨_, rfl, l2, p2⟩, j2⟩
    simp [rowB, rg, e1, setS, hz, e2]
  refine ⟨.lst ys, st1, s7, s8, ?_, ⟨_, rfl, l1, p1⟩, j1.less (by omega)⟩
  simp [rowB, rg, e1, setS, hz, c0, c1, c2, c3, c4]
end
end M
end
/-! M5 -/
section
set_option linter.all false
set_option maxRecDepth 100000
set_option maxHeartbeats 2000000
namespace M
open Q C
open PySem (PyData sizeLine)
section
variable (P n : Nat) (cells : List Int) (wide : Nat) (many : Int) (w1 : 1 ≤ wide) (w4 : wide ≤ 4) (m0 : 0 ≤ many) (m40 : many ≤ 40)
include w1 w4 m0 m40
theorem rows_ok (k : Nat) (st : Store) (h : Pen P cells (k + 40 * (3 * wide) + 1) st) : ∃ fs st', CL P (n + 2) 8 [.ref 1, .int wide, .int many] [] st = .ok (.lst fs) st' ∧ fs.length = many.toNat ∧ (∀ r ∈ fs, RowOk many wide r) ∧ Pen P cells k st' := by
  obtain ⟨way, st1, e1, _, _, _, p1⟩ := draw_ok P n cells (k + 40 * (3 * wide)) st 6 (by decide) h
  rw [cl8]
  have rg := rng1 many m0 (by omega)
  have loop := forE_rule (call := CL P (n + 1)) (hear := HR P) (W := WN) (tg := .nm 3) (body := rowB) (I := fun rest ρ st => ∃ fs s3 s6 s7 s8, ρ = [.val (.ref 1), .val (.int wide), .val (.int many), s3, .val (.int way), .own (.lst fs), s6, s7, s8] ∧ fs.length + rest.length = many.toNat ∧ (∀ r ∈ fs, RowOk many wide r) ∧ (∀ x ∈ rest, ∃ i, x = .int i ∧ 0 ≤ i ∧ i < many) ∧ Pen P cells (k + rest.length * (3 * wide)) st) (fun x xs ρ st ⟨fs, s3, s6, s7, s8, hρ, hl, hr, hx, hp⟩ => by
    subst hρ
    obtain ⟨i, rfl, i0, i1⟩ := hx x List.mem_cons_self
    rw [List.length_cons] at hl hp
    obtain ⟨row, st', s7', s8', e, ro, p⟩ := row_ok P n cells wide many w1 w4 m0 m40 (k + xs.length * (3 * wide)) st way i s6 s7 s8 fs i0 i1 (by omega) (by rw [Nat.add_mul, Nat.one_mul] at hp; rw [Nat.add_assoc]; exact hp)
    refine ⟨_, st', ?_, fs ++ [row], .val (.int i), .val row, s7', s8', rfl, by simp; omega, ?_, fun y hy => hx y (List.mem_cons_of_mem _ hy), p⟩
    · simpa using e
    · intro r hr2
      rcases List.mem_append.mp hr2 with h | h
      · exact hr r h
      · rw [List.mem_singleton.mp h]; exact ro) ((List.range many.toNat).map fun (i : Nat) => T.int i) [.val (.ref 1), .val (.int wide), .val (.int many), .no, .val (.int way), .own (.lst []), .no, .no, .no] st1 ⟨[], .no, .no, .no, .no, rfl, by simp, by simp, fun x hx => rng_mem hx, p1.less (by
      have : many.toNat ≤ 40 := by omega
      have := Nat.mul_le_mul_right (3 * wide) this
      simp; omega)⟩
  obtain ⟨ρ', st2, e2, fs, s3, s6, s7, s8, rfl, l2, r2, _, p2⟩ := loop
  refine ⟨fs, st2, ?_, by simpa using l2, r2, by simpa using p2⟩
  rw [rows_eq]
  simp [b__law_rows, e1, parSet, isMut, rg, e2, setS]
end
/-! ### worlds -/
structure WD where
  wide : Nat
  rows : List (List (Option Int))
  held : List (Option Int)
def cT : Option Int → T
  | none => .non
  | some i => .int i
def rowT (r : List (Option Int)) : T := .tup (r.map cT)
def WD.many (w : WD) : Int := w.rows.length
def WD.rowsT (w : WD) : T := .tup (w.rows.map rowT)
def WD.heapT (w : WD) : T := .tup [.int w.wide, w.rowsT]
def heldT (l : List (Option Int)) : T := .tup (l.map cT)
structure Good (w : WD) : Prop where
  w1 : 1 ≤ w.wide
  w4 : w.wide ≤ 4
  m : w.rows.length ≤ 40
  row : ∀ r ∈ w.rows, r.length = w.wide ∧ ∀ i, some i ∈ r → 0 ≤ i ∧ i < w.rows.length
  h1 : 1 ≤ w.held.length
  h6 : w.held.length ≤ 6
  held : ∀ i, some i ∈ w.held → 0 ≤ i ∧ i < w.rows.length
theorem cells_opt {m : Int} : ∀ {cs : List T}, (∀ c ∈ cs, Cell m c) → ∃ os : List (Option Int), cs = os.map cT ∧ ∀ i, some i ∈ os → 0 ≤ i ∧ i < m
  | [], _ => ⟨[], rfl, by simp⟩
  | c :: cs, h => by
    obtain ⟨os, e, b⟩ := cells_opt (cs := cs) fun x hx => h x (List.mem_cons_of_mem _ hx)
    rcases h c List.mem_cons_self with rfl | ⟨i, rfl, i0, i1⟩
    · exact ⟨none :: os, by rw [e]; rfl, fun i hi => by
        rcases List.mem_cons.mp hi with z | z
        · cases z
        · exact b i z⟩
    · exact ⟨some i :: os, by rw [e]; rfl, fun j hj => by
        rcases List.mem_cons.mp hj with z | z
        · cases z; exact ⟨i0, i1⟩
        · exact b j z⟩
theorem rows_opt {m : Int} {w : Nat} : ∀ {fs : List T}, (∀ r ∈ fs, RowOk m w r) → ∃ rs : List (List (Option Int)), fs = rs.map (fun r => T.lst (r.map cT)) ∧ ∀ r ∈ rs, r.length = w ∧ ∀ i, some i ∈ r → 0 ≤ i ∧ i < m
  | [], _ => ⟨[], rfl, by simp⟩
  | c :: cs, h => by
    obtain ⟨rs, e, b⟩ := rows_opt (fs := cs) fun x hx => h x (List.mem_cons_of_mem _ hx)
    obtain ⟨ds, rfl, l, k⟩ := h c List.mem_cons_self
    obtain ⟨os, rfl, k2⟩ := cells_opt k
    refine ⟨os :: rs, by rw [e]; rfl, fun r hr => ?_⟩
    rcases List.mem_cons.mp hr with rfl | z
    · exact ⟨by simpa using l, k2⟩
    · exact b r z
theorem world_ok (P n : Nat) (cells : List Int) (k : Nat) (st : Store) (h : Pen P cells (k + 600) st) : ∃ w st', CL P (n + 3) 10 [.ref 1, .int 40] [] st = .ok (.tup [w.heapT, heldT w.held]) st' ∧ Good w ∧ Pen P cells k st' := by
  obtain ⟨a, st1, e1, a0, a1, _, p1⟩ := draw_ok P (n + 1) cells (k + 599) st 4 (by decide) h
  have a1 := a1 (by decide)
  obtain ⟨b, st2, e2, b0, b1, _, p2⟩ := draw_ok P (n + 1) cells (k + 598) st1 41 (by decide) p1
  have b1 := b1 (by decide)
  obtain ⟨x, st3, e3, hx, p3⟩ := pick_ok P n cells (k + 597) st2 [.int 0, .int 1, .int 2, .int 3, .int 4, .int 6, .int 40, .int b] (by simp) (by simp) p2
  obtain ⟨m, rfl, m0, m40⟩ : ∃ m, x = .int m ∧ 0 ≤ m ∧ m ≤ 40 := by
    simp only [List.mem_cons, List.not_mem_nil, or_false] at hx
    rcases hx with rfl | rfl | rfl | rfl | rfl | rfl | rfl | rfl <;> exact ⟨_, rfl, by omega, by omega⟩
  have wn : ∃ wd : Nat, (1 + a : Int) = wd ∧ 1 ≤ wd ∧ wd ≤ 4 := ⟨(1 + a).toNat, by omega, by omega, by omega⟩
  obtain ⟨wd, ewd, w1, w4⟩ := wn
  obtain ⟨fs, st4, e4, l4, r4, p4⟩ := rows_ok P n cells wd m w1 w4 m0 m40 (k + 40) st3 (p3.less (by omega))
  obtain ⟨rs, rfl, hrs⟩ := rows_opt r4
  obtain ⟨c, st5, e5, c0, c1, _, p5⟩ := draw_ok P (n + 1) cells (k + 39) st4 6 (by decide) p4
  have c1 := c1 (by decide)
  have ml : (rs.length : Int) = m := by simp at l4; omega
  have rg := rng1 (1 + c) (by omega) (by omega)
  have key := cmp_draw (call := CL P (n + 2)) (hear := HR P) (tg := .nm 6) (cs := []) (elt := .ite (.band [(.op .gt [(.var 2), (.con (.int 0))]), (.op .gt [(.call 6 [(.var 0), (.con (.int 4))] [] []), (.con (.int 0))])]) (.call 6 [(.var 0), (.var 2)] [] []) (.con .non)) (ρ := [.val (.ref 1), .val (.int 40), .val (.int m), .val (.lst (rs.map fun r => T.lst (r.map cT))), .no, .val (.int wd), .no, .no]) (Pen P cells) (Cell m) 2 (xs := (List.range (1 + c).toNat).map fun (i : Nat) => T.int i) k st5 (fun z hz k st hp => by
    by_cases mp : 0 < m
    · obtain ⟨r, st6, e6, _, _, _, p6⟩ := draw_ok P (n + 1) cells (k + 1) st 4 (by decide) hp
      by_cases rp : 0 < r
      · obtain ⟨q, st7, e7, q0, q1, q2, p7⟩ := draw_ok P (n + 1) cells k st6 m (by omega) p6
        refine ⟨.int q, st7, ?_, .inr ⟨q, rfl, q0, ?_⟩, p7⟩
        · simp [mp, e6, rp, e7]
        · by_cases d : 2 ≤ m
          · exact q1 d
          · rw [q2 (by omega)]; exact mp
      · refine ⟨.non, st6, ?_, .inl rfl, p6.less (by omega)⟩
        simp [mp, e6, rp]
    · refine ⟨.non, st, ?_, .inl rfl, hp.less (by omega)⟩
      simp [mp]) (p5.less (by simp; omega))
  obtain ⟨ys, st6, e6, l6, c6, p6⟩ := key
  obtain ⟨hs, rfl, bh⟩ := cells_opt c6
  have e7 : ∀ st, cmpE (CL P (n + 2)) (HR P) (.nm 7) [] (.op .tuple [.var 7]) [.val (.ref 1), .val (.int 40), .val (.int m), .val (.lst (rs.map fun r => T.lst (r.map cT))), .val (.lst (hs.map cT)), .val (.int wd), .no, .no] (rs.map fun r => T.lst (r.map cT)) st = .ok (rs.map rowT) st := by
    intro st
    rw [cmp_pure (fun t => match t with | .lst xs => some (.tup xs) | _ => none) (fun x hx => by
      obtain ⟨r, _, rfl⟩ := List.mem_map.mp hx
      simp)]
    rw [List.filterMap_map]
    simp [Function.comp_def, rowT]
  refine ⟨⟨wd, rs, hs⟩, st6, ?_, ⟨w1, w4, by simp; omega, fun r hr => ?_, ?_, ?_, fun i hi => ?_⟩, p6⟩
  · rw [cl10]
    have mn : (if (40 : Int) < m then (40 : Int) else m) = m := if_neg (by omega)
    simp [b__law_world, e1, e2, e3, e4, e5, e6, e7, ewd, rg, parSet, setS, mn, WD.heapT, WD.rowsT, heldT]
  · obtain ⟨k1, k2⟩ := hrs r hr
    exact ⟨k1, fun i hi => by have := k2 i hi; show 0 ≤ i ∧ i < (rs.length : Int); omega⟩
  · simp at l6; show 1 ≤ hs.length; omega
  · simp at l6; show hs.length ≤ 6; omega
  · have := bh i hi
    show 0 ≤ i ∧ i < (rs.length : Int)
    omega
end M
end
/-! M6 -/
section
set_option linter.all false
set_option maxRecDepth 100000
set_option maxHeartbeats 2000000
namespace M
open Q C
open PySem (PyData sizeLine)
theorem eq_empI (st : Store) (is : List Int) : eqT st (.lst (is.map T.int)) (.lst []) = some is.isEmpty := by
  rw [eq_emp (dp_ints is)]
  cases is <;> rfl
theorem ixN_ok {n : Nat} {i : Int} (h0 : 0 ≤ i) (h1 : i < n) : L2.ixN n i = some i.toNat := by
  unfold L2.ixN
  rw [if_pos h0, if_pos h1]
theorem er_map {α β : Type} (f : α → β) : ∀ (l : List α) (n : Nat), (l.map f).eraseIdx n = (l.eraseIdx n).map f
  | [], _ => rfl
  | _ :: _, 0 => rfl
  | x :: l, n + 1 => by simp [er_map f l n]
theorem mixed_ok (P n : Nat) (cells : List Int) (k : Nat) (st : Store) (is : List Int) (hl : is.length ≤ 40) (h : Pen P cells (k + 40) st) : ∃ (zs : List Int) (st' : Store), CL P (n + 2) 20 [.ref 1, .lst (is.map T.int)] [] st = .ok (.lst (zs.map T.int)) st' ∧ (∀ z ∈ zs, z ∈ is) ∧ Pen P cells k st' := by
  rw [cl20]
  have W40 : WN = 100000 := rfl
  have loop := whlE_rule (call := CL P (n + 1)) (hear := HR P) (W := WN) (c := .op .ne [(.var 2), (.lst [])]) (body := [.appPop 3 2 [(.call 6 [(.var 0), (.op .len [(.var 2)])] [] [])]])
    (I := fun m ρ st => ∃ left found : List Int, ρ = [.val (.ref 1), .val (.lst (is.map T.int)), .own (.lst (left.map T.int)), .own (.lst (found.map T.int))] ∧ left.length = m ∧ found.length + left.length ≤ 40 ∧ (∀ z ∈ left, z ∈ is) ∧ (∀ z ∈ found, z ∈ is) ∧ Pen P cells (k + left.length) st)
    (Q := fun r => ∃ (found : List Int) (st' : Store) (s2 : Slot), r = .nx [.val (.ref 1), .val (.lst (is.map T.int)), s2, .own (.lst (found.map T.int))] st' ∧ (∀ z ∈ found, z ∈ is) ∧ Pen P cells k st') (fun m ρ st ⟨left, found, hρ, hm, hs, h1, h2, hp⟩ => by
    subst hρ
    refine ⟨!left.isEmpty, by simp [eq_empI], fun hb => ?_, fun hb => .inl ?_⟩
    · have : left = [] := by simpa using hb
      subst this
      exact ⟨found, st, _, rfl, h2, by simpa using hp⟩
    · have lp : 0 < left.length := by cases left with | nil => cases hb | cons => simp
      obtain ⟨r, st', e, r0, r1, r2, p⟩ := draw_ok P n cells (k + (left.length - 1)) st left.length (by omega) (by rw [Nat.add_assoc, Nat.sub_add_cancel lp]; exact hp)
      have rl : r < left.length := by
        by_cases c : 2 ≤ (left.length : Int)
        · exact r1 c
        · rw [r2 (by omega)]; omega
      obtain ⟨z, ez⟩ : ∃ z, left[r.toNat]? = some z := ⟨_, List.getElem?_eq_getElem (by omega)⟩
      have fz : found.length < sizeLine := by rw [szl]; omega
      have ll : (left.eraseIdx r.toNat).length = left.length - 1 := by rw [List.length_eraseIdx]; split <;> omega
      refine ⟨_, st', left.length - 1, ?_, by omega, left.eraseIdx r.toNat, found ++ [z], rfl, ll, by rw [ll]; simp; omega, fun y hy => h1 y (List.mem_of_mem_eraseIdx hy), fun y hy => ?_, by rw [ll]; exact p⟩
      · simp [e, popIx, ixN_ok r0 rl, ez, fz, er_map]
      · rcases List.mem_append.mp hy with q | q
        · exact h2 y q
        · rw [List.mem_singleton.mp q]; exact h1 z (List.mem_of_getElem? ez)) is.length [.val (.ref 1), .val (.lst (is.map T.int)), .own (.lst (is.map T.int)), .own (.lst [])] st (by rw [W40]; omega) ⟨is, [], rfl, rfl, by simpa using hl, fun z hz => hz, by simp, h.less (by omega)⟩
  obtain ⟨found, st', s2, e, k1, k2⟩ := loop
  refine ⟨found, st', ?_, k1, k2⟩
  simp [b__law_mixed, parSet, isMut, e, setS]
/-! ### dicts with whole numbers for keys -/
def dk (f : Int → T) (ks : List Int) : List (Key × T) := ks.map fun k => (Sum.inl k, f k)
theorem getK_dk (f : Int → T) (i : Int) : ∀ ks : List Int, getK (dk f ks) (.inl i) = if i ∈ ks then some (f i) else none
  | [] => rfl
  | k :: ks => by
    unfold dk getK
    rw [List.map_cons, List.find?_cons]
    by_cases h : k = i
    · subst h; simp
    · have h2 : decide ((Sum.inl k : Key) = Sum.inl i) = false := by simpa using h
      simp only [h2]
      have := getK_dk f i ks
      unfold dk getK at this
      rw [this]
      have h3 : ¬ i = k := fun z => h z.symm
      simp [h3]
theorem any_dk (f : Int → T) (i : Int) (ks : List Int) : ((dk f ks).any fun kv => decide (kv.1 = (.inl i : Key))) = decide (i ∈ ks) := by
  induction ks with
  | nil => rfl
  | cons k ks ih =>
    unfold dk at ih ⊢
    rw [List.map_cons, List.any_cons, ih]
    by_cases h : k = i
    · subst h; simp
    · have h3 : ¬ i = k := fun z => h z.symm
      simp [h, h3]
theorem putK_new (f : Int → T) (i : Int) (ks : List Int) (h : i ∉ ks) (v : T) : putK (dk f ks) (.inl i) v = dk f ks ++ [(.inl i, v)] := by
  unfold putK
  rw [any_dk, if_neg (by simpa using h)]
theorem putK_old (f : Int → T) (i : Int) (ks : List Int) (h : i ∈ ks) : putK (dk f ks) (.inl i) (f i) = dk f ks := by
  unfold putK
  rw [any_dk, if_pos (by simpa using h)]
  unfold dk
  rw [List.map_map]
  apply List.map_congr_left
  intro k _
  by_cases e : k = i
  · subst e; simp
  · simp [e]
theorem dk_app (f : Int → T) (ks : List Int) (i : Int) : dk f ks ++ [(.inl i, f i)] = dk f (ks ++ [i]) := by simp [dk]
theorem dk_keys (f : Int → T) (ks : List Int) : (dk f ks).map (fun kv => ofKey kv.1) = ks.map T.int := by simp [dk, ofKey, Function.comp_def]
theorem dk_len (f : Int → T) (ks : List Int) : (dk f ks).length = ks.length := by simp [dk]
theorem put_new (f : Int → T) (i : Int) (ks : List Int) (h : i ∉ ks) (hl : ks.length < 1000) : putAt (.dic (dk f ks)) (.int i) (f i) = some (.dic (dk f (ks ++ [i]))) := by
  show (some (.inl i : Key)).bind (fun k => if (dk f ks).length < sizeLine then some (T.dic (putK (dk f ks) k (f i))) else none) = _
  rw [Option.bind_some, dk_len, if_pos (by rw [szl]; omega), putK_new f i ks h, dk_app]
theorem put_old (f : Int → T) (i : Int) (ks : List Int) (h : i ∈ ks) (hl : ks.length < 1000) : putAt (.dic (dk f ks)) (.int i) (f i) = some (.dic (dk f ks)) := by
  show (some (.inl i : Key)).bind (fun k => if (dk f ks).length < sizeLine then some (T.dic (putK (dk f ks) k (f i))) else none) = _
  rw [Option.bind_some, dk_len, if_pos (by rw [szl]; omega), putK_old f i ks h]
theorem op_ninK (st : Store) (f : Int → T) (i : Int) (ks : List Int) : opEval st .notIn [.int i, .dic (dk f ks)] = some (.bl (!decide (i ∈ ks))) := by
  rw [op_ninD, getK_dk]
  by_cases h : i ∈ ks <;> simp [h]
/-! ### sorted lists -/
def Srt (l : List Int) : Prop := l.Pairwise (· < ·)
theorem insI_mem {x y : Int} : ∀ {l : List Int}, y ∈ insI x l ↔ y = x ∨ y ∈ l
  | [] => by simp [insI]
  | z :: l => by
    unfold insI
    split
    · simp
    · rw [List.mem_cons, insI_mem (l := l), List.mem_cons]
      constructor
      · rintro (h | h | h)
        · exact .inr (.inl h)
        · exact .inl h
        · exact .inr (.inr h)
      · rintro (h | h | h)
        · exact .inr (.inl h)
        · exact .inl h
        · exact .inr (.inr h)
theorem sortI_mem {y : Int} : ∀ {l : List Int}, y ∈ sortI l ↔ y ∈ l
  | [] => by simp [sortI]
  | z :: l => by
    unfold sortI
    rw [insI_mem, sortI_mem (l := l), List.mem_cons]
theorem insI_srt {x : Int} : ∀ {l : List Int}, Srt l → x ∉ l → Srt (insI x l)
  | [], _, _ => by simp [insI, Srt]
  | z :: l, h, hx => by
    unfold Srt at h ⊢
    rw [List.pairwise_cons] at h
    unfold insI
    have hz : x ≠ z := fun e => hx (by rw [e]; exact List.mem_cons_self)
    split
    · refine List.pairwise_cons.mpr ⟨fun y hy => ?_, List.pairwise_cons.mpr h⟩
      rcases List.mem_cons.mp hy with rfl | hy
      · omega
      · have := h.1 y hy; omega
    · refine List.pairwise_cons.mpr ⟨fun y hy => ?_, insI_srt h.2 fun e => hx (List.mem_cons_of_mem _ e)⟩
      rcases insI_mem.mp hy with rfl | hy
      · omega
      · exact h.1 y hy
theorem sortI_srt : ∀ {l : List Int}, l.Nodup → Srt (sortI l)
  | [], _ => by simp [sortI, Srt]
  | z :: l, h => by
    rw [List.nodup_cons] at h
    unfold sortI
    exact insI_srt (sortI_srt h.2) fun e => h.1 (sortI_mem.mp e)
theorem srt_ext : ∀ {a b : List Int}, Srt a → Srt b → (∀ x, x ∈ a ↔ x ∈ b) → a = b
  | [], [], _, _, _ => rfl
  | [], y :: b, _, _, h => absurd ((h y).mpr List.mem_cons_self) (by simp)
  | x :: a, [], _, _, h => absurd ((h x).mp List.mem_cons_self) (by simp)
  | x :: a, y :: b, ha, hb, h => by
    unfold Srt at ha hb
    rw [List.pairwise_cons] at ha hb
    have e : x = y := by
      rcases List.mem_cons.mp ((h x).mp List.mem_cons_self) with q | q
      · exact q
      · rcases List.mem_cons.mp ((h y).mpr List.mem_cons_self) with q2 | q2
        · exact q2.symm
        · have := ha.1 y q2; have := hb.1 x q; omega
    subst e
    congr 1
    refine srt_ext ha.2 hb.2 fun z => ?_
    constructor
    · intro hz
      rcases List.mem_cons.mp ((h z).mp (List.mem_cons_of_mem _ hz)) with q | q
      · have := ha.1 z hz; omega
      · exact q
    · intro hz
      rcases List.mem_cons.mp ((h z).mpr (List.mem_cons_of_mem _ hz)) with q | q
      · have := hb.1 z hz; omega
      · exact q
theorem srt_len : ∀ {l : List Int} {a N : Int}, Srt l → (∀ x ∈ l, a ≤ x ∧ x < N) → (l.length : Int) ≤ max 0 (N - a)
  | [], a, N, _, _ => by simp; omega
  | x :: l, a, N, h, hb => by
    unfold Srt at h
    rw [List.pairwise_cons] at h
    have h1 := hb x List.mem_cons_self
    have := srt_len (l := l) (a := x + 1) (N := N) h.2 fun y hy => ⟨by have := h.1 y hy; omega, (hb y (List.mem_cons_of_mem _ hy)).2⟩
    rw [List.length_cons]
    omega
theorem insI_len (x : Int) : ∀ l : List Int, (insI x l).length = l.length + 1
  | [] => rfl
  | z :: l => by unfold insI; split <;> simp [insI_len x l]
theorem sortI_len : ∀ l : List Int, (sortI l).length = l.length
  | [] => rfl
  | z :: l => by unfold sortI; rw [insI_len, sortI_len l]; rfl
theorem nd_len {l : List Int} {N : Nat} (h : l.Nodup) (hb : ∀ x ∈ l, 0 ≤ x ∧ x < (N : Int)) : l.length ≤ N := by
  have := srt_len (a := 0) (N := N) (sortI_srt h) fun x hx => hb x (sortI_mem.mp hx)
  rw [sortI_len] at this
  omega
theorem intsOf_map : ∀ l : List Int, intsOf (l.map T.int) = some l
  | [] => rfl
  | x :: l => by simp [intsOf, intsOf_map l]
theorem op_sortL (st : Store) (l : List Int) : opEval st .sorted [.lst (l.map T.int)] = some (.lst ((sortI l).map T.int)) := by
  show (some (l.map T.int)).bind (fun xs => (intsOf xs).map fun is => T.lst ((sortI is).map .int)) = _
  rw [Option.bind_some, intsOf_map]; rfl
end M
end
/-! M7 -/
section
set_option linter.all false
set_option maxRecDepth 100000
set_option maxHeartbeats 2000000
namespace M
open Q C
open PySem (PyData sizeLine)
/-! ### the graph -/
abbrev Rows := List (List (Option Int))
def sc (rows : Rows) (y : Int) : List Int := (rows[y.toNat]?.getD []).filterMap id
inductive Rch (rows : Rows) (src : List Int) : Int → Prop
  | src {x : Int} : x ∈ src → Rch rows src x
  | step {x y : Int} : Rch rows src y → x ∈ sc rows y → Rch rows src x
structure Gr (rows : Rows) : Prop where
  m : rows.length ≤ 40
  w : ∀ r ∈ rows, r.length ≤ 4
  row : ∀ r ∈ rows, ∀ i, some i ∈ r → 0 ≤ i ∧ i < rows.length
abbrev InR (rows : Rows) (x : Int) : Prop := 0 ≤ x ∧ x < (rows.length : Int)
abbrev rowsT (rows : Rows) : T := .tup (rows.map rowT)
theorem mem_sc {rows : Rows} {y x : Int} {r : List (Option Int)} (e : rows[y.toNat]? = some r) : x ∈ sc rows y ↔ some x ∈ r := by
  unfold sc
  rw [e]
  simp
theorem row_at {rows : Rows} {y : Int} (h : InR rows y) : ∃ r, rows[y.toNat]? = some r ∧ r ∈ rows := by
  have l : y.toNat < rows.length := by omega
  exact ⟨rows[y.toNat], List.getElem?_eq_getElem l, List.getElem_mem l⟩
theorem sc_in {rows : Rows} (G : Gr rows) {y x : Int} (h : x ∈ sc rows y) : InR rows x := by
  unfold sc at h
  cases e : rows[y.toNat]? with
  | none => rw [e] at h; simp at h
  | some r =>
    rw [e] at h
    exact G.row r (List.mem_of_getElem? e) x (by simpa using h)
theorem Rch.inR {rows : Rows} (G : Gr rows) {src : List Int} (hs : ∀ x ∈ src, InR rows x) {x : Int} (h : Rch rows src x) : InR rows x := by
  induction h with
  | src h => exact hs _ h
  | step _ h _ => exact sc_in G h
theorem rch_of {rows : Rows} {src K : List Int} (h1 : ∀ x ∈ src, x ∈ K) (h2 : ∀ y ∈ K, ∀ x ∈ sc rows y, x ∈ K) (h3 : ∀ x ∈ K, Rch rows src x) (x : Int) : x ∈ K ↔ Rch rows src x := by
  constructor
  · exact h3 x
  · intro h
    induction h with
    | src h => exact h1 _ h
    | step _ h ih => exact h2 _ ih _ h
theorem rch_mono {rows : Rows} {s1 s2 : List Int} (h : ∀ x ∈ s1, Rch rows s2 x) {x : Int} (r : Rch rows s1 x) : Rch rows s2 x := by
  induction r with
  | src q => exact h _ q
  | step _ q ih => exact .step ih q
theorem idx_row (st : Store) {rows : Rows} {y : Int} {r : List (Option Int)} (h : InR rows y) (e : rows[y.toNat]? = some r) : opEval st .idx [rowsT rows, .int y] = some (rowT r) := by
  rw [op_idxT, atI_pos h.1 (by simpa using h.2), List.getElem?_map, e]; rfl
section
variable {call : Nat → List T → List T → Store → O T} {hear : Nat → Store → O T → O T} {W : Nat} {tg : Tg} {body : List S}
theorem forE_nil (ρ : Env) (st : Store) : forE call hear W tg body [] ρ st = .nx ρ st := rfl
theorem forE_cons {x : T} {xs : List T} {ρ ρ' : Env} {st st' : Store} (h : asgR (assign tg x ρ) (fun ρ' => evalSs call hear W body ρ' st) = .nx ρ' st') : forE call hear W tg body (x :: xs) ρ st = forE call hear W tg body xs ρ' st' := by
  show forL _ (x :: xs) ρ st = _
  unfold forL
  rw [h]
  rfl
end
abbrev tt : Int → T := fun _ => .bl true
def rfIn : List S := [.iff (.band [(.op .notN [(.var 5)]), (.op .notIn [(.var 5), (.var 2)])]) [.seti 2 (.var 5) (.con (.bl true)), .app 4 (.var 5)] []]
def rfOut : List S := [.pop 4 [] 3, .for (.nm 5) .seq [(.op .idx [(.op .idx [(.var 0), (.con (.int 1))]), (.var 3)])] rfIn]
theorem rf_eq : b_reach_from = [.own 2 .dic0, .for (.nm 3) .seq [(.var 1)] [.seti 2 (.var 3) (.con (.bl true))], .own 4 (.op .list [(.var 2)]), .whl (.op .ne [(.var 4), (.lst [])]) rfOut, .ret (.op .tuple [(.op .sorted [(.op .list [(.var 2)])])])] := rfl
section
variable (P n : Nat)
theorem rf_inner (h o : T) (st : Store) (s3 : Slot) (rows : Rows) (hN : rows.length ≤ 40) : ∀ (cs : List (Option Int)) (K W : List Int) (s5 : Slot), (∀ i, some i ∈ cs → InR rows i) → K.Nodup → (∀ x ∈ K, InR rows x) → W.length ≤ 100 + K.length →
    ∃ new s5', forE (CL P n) (HR P) WN (.nm 5) rfIn (cs.map cT) [.val h, .val o, .own (.dic (dk tt K)), s3, .own (.lst (W.map T.int)), s5] st = .nx [.val h, .val o, .own (.dic (dk tt (K ++ new))), s3, .own (.lst ((W ++ new).map T.int)), s5'] st ∧ (K ++ new).Nodup ∧ (∀ x, x ∈ K ++ new ↔ x ∈ K ∨ some x ∈ cs)
  | [], K, W, s5, _, nd, _, _ => ⟨[], s5, by simp [forE_nil], by simpa using nd, by simp⟩
  | none :: cs, K, W, s5, hr, nd, hk, hw => by
    obtain ⟨new, s5', e, nd', m⟩ := rf_inner h o st s3 rows hN cs K W (.val .non) (fun i hi => hr i (List.mem_cons_of_mem _ hi)) nd hk hw
    refine ⟨new, s5', ?_, nd', fun x => by rw [m]; simp⟩
    rw [List.map_cons, forE_cons (ρ' := [.val h, .val o, .own (.dic (dk tt K)), s3, .own (.lst (W.map T.int)), .val .non]) (st' := st) (by simp [cT, rfIn])]
    exact e
  | some i :: cs, K, W, s5, hr, nd, hk, hw => by
    have ir := hr i List.mem_cons_self
    have kl := nd_len nd hk
    by_cases c : i ∈ K
    · obtain ⟨new, s5', e, nd', m⟩ := rf_inner h o st s3 rows hN cs K W (.val (.int i)) (fun j hj => hr j (List.mem_cons_of_mem _ hj)) nd hk hw
      refine ⟨new, s5', ?_, nd', fun x => ?_⟩
      · rw [List.map_cons, forE_cons (ρ' := [.val h, .val o, .own (.dic (dk tt K)), s3, .own (.lst (W.map T.int)), .val (.int i)]) (st' := st) (by simp [cT, rfIn, -op_ninD, op_ninK, c])]
        exact e
      · rw [m]
        constructor
        · rintro (q | q)
          · exact .inl q
          · exact .inr (List.mem_cons_of_mem _ q)
        · rintro (q | q)
          · exact .inl q
          · rcases List.mem_cons.mp q with q | q
            · cases q; exact .inl c
            · exact .inr q
    · have nd2 : (K ++ [i]).Nodup := by
        rw [List.nodup_append]
        exact ⟨nd, by simp, fun a ha b hb e => c (by rw [List.mem_singleton.mp hb] at e; rw [← e]; exact ha)⟩
      obtain ⟨new, s5', e, nd', m⟩ := rf_inner h o st s3 rows hN cs (K ++ [i]) (W ++ [i]) (.val (.int i)) (fun j hj => hr j (List.mem_cons_of_mem _ hj)) nd2 (fun x hx => by
        rcases List.mem_append.mp hx with q | q
        · exact hk x q
        · rw [List.mem_singleton.mp q]; exact ir) (by simp; omega)
      refine ⟨[i] ++ new, s5', ?_, by rw [← List.append_assoc]; exact nd', fun x => ?_⟩
      · have pn := put_new tt i K c (by omega)
        have wl : W.length < sizeLine := by rw [szl]; omega
        rw [List.map_cons, forE_cons (ρ' := [.val h, .val o, .own (.dic (dk tt (K ++ [i]))), s3, .own (.lst ((W ++ [i]).map T.int)), .val (.int i)]) (st' := st) (by simp [cT, rfIn, -op_ninD, op_ninK, c, pn, setS, wl]), e]
        simp
      · rw [← List.append_assoc, m, List.mem_append, List.mem_singleton, List.mem_cons]
        constructor
        · rintro ((q | q) | q)
          · exact .inl q
          · exact .inr (.inl (by rw [q]))
          · exact .inr (.inr q)
        · rintro (q | q | q)
          · exact .inl (.inl q)
          · cases q; exact .inl (.inr rfl)
          · exact .inr q
/-- the dict of the objects asked for -/
theorem rf_first (h o : T) (st : Store) (rows : Rows) (hN : rows.length ≤ 40) : ∀ (src K : List Int) (s3 : Slot), (∀ i ∈ src, InR rows i) → K.Nodup → (∀ x ∈ K, InR rows x) →
    ∃ K' s3', forE (CL P n) (HR P) WN (.nm 3) [.seti 2 (.var 3) (.con (.bl true))] (src.map T.int) [.val h, .val o, .own (.dic (dk tt K)), s3, .no, .no] st = .nx [.val h, .val o, .own (.dic (dk tt K')), s3', .no, .no] st ∧ K'.Nodup ∧ (∀ x, x ∈ K' ↔ x ∈ K ∨ x ∈ src)
  | [], K, s3, _, nd, _ => ⟨K, s3, by simp [forE_nil], nd, by simp⟩
  | i :: src, K, s3, hr, nd, hk => by
    have kl := nd_len nd hk
    by_cases c : i ∈ K
    · obtain ⟨K', s3', e, nd', m⟩ := rf_first h o st rows hN src K (.val (.int i)) (fun j hj => hr j (List.mem_cons_of_mem _ hj)) nd hk
      have po := put_old tt i K c (by omega)
      refine ⟨K', s3', ?_, nd', fun x => ?_⟩
      · rw [List.map_cons, forE_cons (ρ' := [.val h, .val o, .own (.dic (dk tt K)), .val (.int i), .no, .no]) (st' := st) (by simp [po, setS])]
        exact e
      · rw [m, List.mem_cons]
        constructor
        · rintro (q | q)
          · exact .inl q
          · exact .inr (.inr q)
        · rintro (q | q | q)
          · exact .inl q
          · rw [q]; exact .inl c
          · exact .inr q
    · have nd2 : (K ++ [i]).Nodup := by
        rw [List.nodup_append]
        exact ⟨nd, by simp, fun a ha b hb e => c (by rw [List.mem_singleton.mp hb] at e; rw [← e]; exact ha)⟩
      obtain ⟨K', s3', e, nd', m⟩ := rf_first h o st rows hN src (K ++ [i]) (.val (.int i)) (fun j hj => hr j (List.mem_cons_of_mem _ hj)) nd2 (fun x hx => by
        rcases List.mem_append.mp hx with q | q
        · exact hk x q
        · rw [List.mem_singleton.mp q]; exact hr i List.mem_cons_self)
      have pn := put_new tt i K c (by omega)
      refine ⟨K', s3', ?_, nd', fun x => ?_⟩
      · rw [List.map_cons, forE_cons (ρ' := [.val h, .val o, .own (.dic (dk tt (K ++ [i]))), .val (.int i), .no, .no]) (st' := st) (by simp [pn, setS])]
        exact e
      · rw [m, List.mem_append, List.mem_singleton, List.mem_cons]
        constructor
        · rintro ((q | q) | q)
          · exact .inl q
          · exact .inr (.inl q)
          · exact .inr (.inr q)
        · rintro (q | q | q)
          · exact .inl (.inl q)
          · exact .inl (.inr q)
          · exact .inr q
theorem popIx_last {α : Type} (W : List Int) (y : Int) : popIx ((W ++ [y]).map T.int) [] = some W.length := by
  unfold popIx
  simp
theorem get_last (W : List Int) (y : Int) : ((W ++ [y]).map T.int)[W.length]? = some (.int y) := by simp
theorem er_last (W : List Int) (y : Int) : ((W ++ [y]).map T.int).eraseIdx W.length = W.map T.int := by
  rw [er_map]
  congr 1
  rw [List.eraseIdx_append_of_length_le (Nat.le_refl _)]
  simp
/-- what is reachable, as a set told by a list -/
def IsR (rows : Rows) (src K : List Int) : Prop := K.Nodup ∧ ∀ x, x ∈ K ↔ Rch rows src x
theorem IsR.sort {rows : Rows} {s1 s2 K1 K2 : List Int} (h1 : IsR rows s1 K1) (h2 : IsR rows s2 K2) (h : ∀ x, Rch rows s1 x ↔ Rch rows s2 x) : sortI K1 = sortI K2 :=
  srt_ext (sortI_srt h1.1) (sortI_srt h2.1) fun x => by rw [sortI_mem, sortI_mem, h1.2, h2.2, h]
theorem rf_body (wide : Int) (rows : Rows) (src : List Int) (st : Store) (G : Gr rows) (hs : ∀ x ∈ src, InR rows x) (hl : src.length ≤ 50) :
    ∃ K, finish (evalSs (CL P n) (HR P) WN b_reach_from [.val (.tup [.int wide, rowsT rows]), .val (.tup (src.map T.int)), .no, .no, .no, .no] st) = .ok (.tup ((sortI K).map T.int)) st ∧ IsR rows src K := by
  rw [rf_eq]
  obtain ⟨K0, s30, e0, nd0, m0⟩ := rf_first P n (.tup [.int wide, rowsT rows]) (.tup (src.map T.int)) st rows G.m src [] .no hs (by simp) (by simp)
  have e0 : forE (CL P n) (HR P) WN (.nm 3) [.seti 2 (.var 3) (.con (.bl true))] (src.map T.int) [.val (.tup [.int wide, rowsT rows]), .val (.tup (src.map T.int)), .own (.dic []), .no, .no, .no] st = _ := e0
  have k0r : ∀ x ∈ K0, InR rows x := fun x hx => hs x (by simpa using (m0 x).mp hx)
  have loop := whlE_rule (call := CL P n) (hear := HR P) (W := WN) (c := .op .ne [(.var 4), (.lst [])]) (body := rfOut)
    (I := fun m ρ st' => st' = st ∧ ∃ K W s3 s5, ρ = [.val (.tup [.int wide, rowsT rows]), .val (.tup (src.map T.int)), .own (.dic (dk tt K)), s3, .own (.lst (W.map T.int)), s5] ∧ K.Nodup ∧ (∀ x ∈ W, x ∈ K) ∧ (∀ x ∈ src, x ∈ K) ∧ (∀ x ∈ K, Rch rows src x) ∧ (∀ y ∈ K, y ∈ W ∨ ∀ x ∈ sc rows y, x ∈ K) ∧ m = W.length + (rows.length - K.length) ∧ W.length ≤ 100 + K.length)
    (Q := fun r => ∃ K s3 s4 s5, r = .nx [.val (.tup [.int wide, rowsT rows]), .val (.tup (src.map T.int)), .own (.dic (dk tt K)), s3, s4, s5] st ∧ IsR rows src K) (fun m ρ st' ⟨hst, K, W, s3, s5, hρ, nd, wk, sk, kr, cl, hm, hw⟩ => by
    subst hst hρ
    refine ⟨!W.isEmpty, by simp [eq_empI], fun hb => ?_, fun hb => .inl ?_⟩
    · have : W = [] := by simpa using hb
      subst this
      exact ⟨K, s3, _, s5, rfl, nd, rch_of sk (fun y hy => (cl y hy).resolve_left (by simp)) kr⟩
    · obtain ⟨W0, y, rfl⟩ : ∃ W0 y, W = W0 ++ [y] := by
        rcases List.eq_nil_or_concat W with q | ⟨a, b, q⟩
        · subst q; cases hb
        · exact ⟨a, b, by rw [q]; simp⟩
      have yk := wk y (by simp)
      have yr := (kr y yk).inR G hs
      obtain ⟨r, er, rr⟩ := row_at yr
      have kR : ∀ x ∈ K, InR rows x := fun x hx => (kr x hx).inR G hs
      obtain ⟨new, s5', e, nd', mm⟩ := rf_inner P n (.tup [.int wide, rowsT rows]) (.tup (src.map T.int)) st' (.val (.int y)) rows G.m r K W0 s5 (fun i hi => G.row r rr i hi) nd kR (by simp at hw; omega)
      have k'R : ∀ x ∈ K ++ new, InR rows x := fun x hx => by
        rcases (mm x).mp hx with q | q
        · exact kR x q
        · exact G.row r rr x q
      have l1 := nd_len nd' k'R
      rw [List.length_append] at l1
      refine ⟨_, st', W0.length + new.length + (rows.length - (K ++ new).length), ?_, ?_, rfl, K ++ new, W0 ++ new, .val (.int y), s5', rfl, nd', fun x hx => ?_, fun x hx => List.mem_append_left _ (sk x hx), fun x hx => ?_, fun z hz => ?_, by simp, ?_⟩
      · simp [rfOut, popIx_last (α := T), -List.map_append, get_last, er_last, idx_row _ yr er, rowT, e]
      · rw [hm]; simp; omega
      · rcases List.mem_append.mp hx with q | q
        · exact List.mem_append_left _ (wk x (List.mem_append_left _ q))
        · exact List.mem_append_right _ q
      · rcases (mm x).mp hx with q | q
        · exact kr x q
        · exact .step (kr y yk) ((mem_sc er).mpr q)
      · have closeY : ∀ x ∈ sc rows y, x ∈ K ++ new := fun x hx => (mm x).mpr (.inr ((mem_sc er).mp hx))
        by_cases zy : z = y
        · subst zy; exact .inr closeY
        · rcases List.mem_append.mp hz with q | q
          · rcases cl z q with q2 | q2
            · rcases List.mem_append.mp q2 with q3 | q3
              · exact .inl (List.mem_append_left _ q3)
              · exact absurd (List.mem_singleton.mp q3) zy
            · exact .inr fun x hx => List.mem_append_left _ (q2 x hx)
          · exact .inl (List.mem_append_right _ q)
      · simp at hw ⊢; omega) (K0.length + (rows.length - K0.length)) [.val (.tup [.int wide, rowsT rows]), .val (.tup (src.map T.int)), .own (.dic (dk tt K0)), s30, .own (.lst (K0.map T.int)), .no] st (by
      have := nd_len nd0 k0r
      have := G.m
      show _ < 100000
      omega) ⟨rfl, K0, K0, s30, .no, rfl, nd0, fun x hx => hx, fun x hx => (m0 x).mpr (.inr hx), fun x hx => .src (by simpa using (m0 x).mp hx), fun y hy => .inl hy, rfl, by omega⟩
  obtain ⟨K, s3, s4, s5, e, hK⟩ := loop
  refine ⟨K, ?_, hK⟩
  simp [freshE, isMut, setS, e0, freshOp, dk_keys, e, op_sortL]
end
end M
end
/-! M8 -/
section
set_option linter.all false
set_option maxRecDepth 100000
set_option maxHeartbeats 2000000
namespace M
open Q C
open PySem (PyData sizeLine)
theorem keysI_dk (f : Int → T) : ∀ ks : List Int, keysI (dk f ks) = some ks
  | [] => rfl
  | k :: ks => by
    show (keysI (dk f ks)).map (k :: ·) = _
    rw [keysI_dk f ks]; rfl
theorem op_sortD (st : Store) (f : Int → T) (ks : List Int) (h : ks.length < 64) : opEval st .sorted [.dic (dk f ks)] = some (.lst ((sortI ks).map T.int)) := by
  show (keysI (dk f ks)).bind (fun is => if is.length < 64 then some (T.lst ((sortI is).map .int)) else none) = _
  rw [keysI_dk, Option.bind_some, if_pos h]
theorem cl4 (P n : Nat) (h : T) (src : List T) (st : Store) (hl : src.length ≤ 1000) : CL P (n + 1) 4 (h :: src) [] st = finish (evalSs (CL P n) (HR P) WN b_reach_from [.val h, .val (.tup src), .no, .no, .no, .no] st) := by
  show (if ((h :: src).length = 1 ∨ (true = true ∧ 1 ≤ (h :: src).length ∧ (h :: src).length ≤ sizeLine)) ∧ ([] : List T).length = 0 then match arrange (h :: src) [] [.at 0, .rest 1] with
    | some us => (prg P).callN (n + 1) 6 us st
    | none => .bad
    else .bad) = _
  rw [if_pos ⟨.inr ⟨rfl, by simp, by rw [szl]; simp; omega⟩, rfl⟩]
  rfl
theorem cl15 (P n : Nat) (h a : T) (st : Store) : CL P (n + 1) 15 [h, a] [] st = finish (evalSs (CL P n) (HR P) WN b_reach_from [.val h, .val (.tup [a]), .no, .no, .no, .no] st) := rfl
theorem cl16 (P n : Nat) (h a b c : T) (st : Store) : CL P (n + 1) 16 [h, a, b, c] [] st = finish (evalSs (CL P n) (HR P) WN b_reach_from [.val h, .val (.tup [a, b, c]), .no, .no, .no, .no] st) := rfl
theorem cl17 (P n : Nat) (h a b c d e : T) (st : Store) : CL P (n + 1) 17 [h, a, b, c, d, e] [] st = finish (evalSs (CL P n) (HR P) WN b_reach_from [.val h, .val (.tup [a, b, c, d, e]), .no, .no, .no, .no] st) := rfl
theorem cl18 (P n : Nat) (h : T) (st : Store) : CL P (n + 1) 18 [h] [] st = finish (evalSs (CL P n) (HR P) WN b_reach_from [.val h, .val (.tup []), .no, .no, .no, .no] st) := rfl
theorem cl5 (P n : Nat) (a b : T) (st : Store) : CL P (n + 1) 5 [a, b] [] st = finish (evalSs (CL P n) (HR P) WN b_reachable [.val a, .val b, .no, .no] st) := rfl
theorem cl13 (P n : Nat) (a b : T) (st : Store) : CL P (n + 1) 13 [a, b] [] st = finish (evalSs (CL P n) (HR P) WN b_unreachable [.val a, .val b, .no, .no] st) := rfl
theorem cl11 (P n : Nat) (a b : T) (st : Store) : CL P (n + 1) 11 [a, b] [] st = finish (evalSs (CL P n) (HR P) WN b__law_reach [.val a, .val b, .no, .no, .no, .no] st) := rfl
abbrev hs (l : List (Option Int)) : List Int := l.filterMap id
theorem hs_mem {l : List (Option Int)} {i : Int} : i ∈ hs l ↔ some i ∈ l := by simp [hs]
theorem hs_len (l : List (Option Int)) : (hs l).length ≤ l.length := List.length_filterMap_le _ _
def noN : T → Option T
  | .non => none
  | t => some t
theorem noN_c (l : List (Option Int)) : (l.map cT).filterMap noN = (hs l).map T.int := by
  induction l with
  | nil => rfl
  | cons o l ih =>
    cases o with
    | none => exact ih
    | some i => exact congrArg (T.int i :: ·) ih
section
variable (P n : Nat) (wide : Int) {rows : Rows} (G : Gr rows)
include G
theorem reachable_ok (l : List (Option Int)) (hr : ∀ i, some i ∈ l → InR rows i) (hl : l.length ≤ 50) (st : Store) : ∃ K, CL P (n + 2) 5 [.tup [.int wide, rowsT rows], heldT l] [] st = .ok (.tup ((sortI K).map T.int)) st ∧ IsR rows (hs l) K := by
  obtain ⟨K, e, hK⟩ := rf_body P n wide rows (hs l) st G (fun x hx => hr x (hs_mem.mp hx)) (Nat.le_trans (hs_len l) hl)
  refine ⟨K, ?_, hK⟩
  rw [cl5]
  have c : cmpE (CL P (n + 1)) (HR P) (.nm 3) [.op .notN [.var 3]] (.var 3) [.val (.tup [.int wide, rowsT rows]), .val (heldT l), .no, .no] (l.map cT) st = .ok ((hs l).map T.int) st := by
    rw [← noN_c]
    refine cmp_pure noN fun x hx => ?_
    obtain ⟨o, _, rfl⟩ := List.mem_map.mp hx
    cases o <;> simp [cT, noN]
  have c4 := cl4 P n (.tup [.int wide, rowsT rows]) ((hs l).map T.int) st (by have := hs_len l; simp; omega)
  simp [b_reachable, heldT] at c ⊢
  simp [c, setS, flatS, seqOf, tupOf, lstOf, c4, e]
def unT (N : Nat) (S : List Int) : List T := ((List.range N).map fun (i : Nat) => T.int i).filterMap fun t => match t with
  | .int i => if i ∈ S then none else some (.int i)
  | t => some t
theorem unreachable_ok (l : List (Option Int)) (hr : ∀ i, some i ∈ l → InR rows i) (hl : l.length ≤ 50) (st : Store) : ∃ K, CL P (n + 3) 13 [.tup [.int wide, rowsT rows], heldT l] [] st = .ok (.tup (unT rows.length (sortI K))) st ∧ IsR rows (hs l) K := by
  obtain ⟨K, e, hK⟩ := reachable_ok P n wide G l hr hl st
  refine ⟨K, ?_, hK⟩
  rw [cl13]
  have rg := rng1 (rows.length : Int) (by omega) (by have := G.m; omega)
  have c : cmpE (CL P (n + 2)) (HR P) (.nm 3) [.op .notIn [.var 3, .var 2]] (.var 3) [.val (.tup [.int wide, rowsT rows]), .val (heldT l), .val (.tup ((sortI K).map T.int)), .no] ((List.range rows.length).map fun (i : Nat) => T.int i) st = .ok (unT rows.length (sortI K)) st := by
    refine cmp_pure _ fun x hx => ?_
    obtain ⟨i, _, rfl⟩ := List.mem_map.mp hx
    by_cases d : (i : Int) ∈ sortI K <;> simp [op_ninT, d]
  simp at rg
  simp [b_unreachable, e, setS, rg, c]
def lrB : List S := [.pop 3 [] 4, .iff (.op .notIn [(.var 4), (.var 2)]) [.seti 2 (.var 4) (.con (.bl true)), .ext 3 (.comp (.nm 5) .seq [(.op .idx [(.var 0), (.var 4)])] [(.op .notN [(.var 5)])] (.var 5))] []]
omit G in
theorem lr_eq : b__law_reach = [.par [(2, true), (3, true)] [.dic0, (.comp (.nm 4) .seq [(.var 1)] [(.op .notN [(.var 4)])] (.var 4))], .whl (.op .ne [(.var 3), (.lst [])]) lrB, .ret (.op .sorted [(.var 2)])] := rfl
theorem lreach_ok (so : T) (l : List (Option Int)) (hso : itEval .seq [so] = some (l.map cT)) (hr : ∀ i, some i ∈ l → InR rows i) (hl : l.length ≤ 50) (st : Store) : ∃ K, CL P (n + 1) 11 [rowsT rows, so] [] st = .ok (.lst ((sortI K).map T.int)) st ∧ IsR rows (hs l) K := by
  rw [cl11, lr_eq]
  have c0 : cmpE (CL P n) (HR P) (.nm 4) [.op .notN [.var 4]] (.var 4) [.val (rowsT rows), .val so, .no, .no, .no, .no] (l.map cT) st = .ok ((hs l).map T.int) st := by
    rw [← noN_c]
    refine cmp_pure noN fun x hx => ?_
    obtain ⟨o, _, rfl⟩ := List.mem_map.mp hx
    cases o <;> simp [cT, noN]
  have src_in : ∀ x ∈ hs l, InR rows x := fun x hx => hr x (hs_mem.mp hx)
  have loop := whlE_rule (call := CL P n) (hear := HR P) (W := WN) (c := .op .ne [(.var 3), (.lst [])]) (body := lrB)
    (I := fun m ρ st' => st' = st ∧ ∃ K L s4 s5, ρ = [.val (rowsT rows), .val so, .own (.dic (dk tt K)), .own (.lst (L.map T.int)), s4, s5] ∧ K.Nodup ∧ (∀ x ∈ L, Rch rows (hs l) x) ∧ (∀ x ∈ K, Rch rows (hs l) x) ∧ (∀ x ∈ hs l, x ∈ K ∨ x ∈ L) ∧ (∀ y ∈ K, ∀ x ∈ sc rows y, x ∈ K ∨ x ∈ L) ∧ m = L.length + 5 * (rows.length - K.length) ∧ m ≤ 1000)
    (Q := fun r => ∃ K s3 s4 s5, r = .nx [.val (rowsT rows), .val so, .own (.dic (dk tt K)), s3, s4, s5] st ∧ IsR rows (hs l) K) (fun m ρ st' ⟨hst, K, L, s4, s5, hρ, nd, lr, kr, sk, cl, hm, hm2⟩ => by
    subst hst hρ
    refine ⟨!L.isEmpty, by simp [eq_empI], fun hb => ?_, fun hb => .inl ?_⟩
    · have : L = [] := by simpa using hb
      subst this
      exact ⟨K, _, s4, s5, rfl, nd, rch_of (fun x hx => (sk x hx).resolve_right (by simp)) (fun y hy x hx => (cl y hy x hx).resolve_right (by simp)) kr⟩
    · obtain ⟨W0, y, rfl⟩ : ∃ W0 y, L = W0 ++ [y] := by
        rcases List.eq_nil_or_concat L with q | ⟨a, b, q⟩
        · subst q; cases hb
        · exact ⟨a, b, by rw [q]; simp⟩
      have yL := lr y (by simp)
      have yr := yL.inR G src_in
      obtain ⟨r, er, rr⟩ := row_at yr
      have kR : ∀ x ∈ K, InR rows x := fun x hx => (kr x hx).inR G src_in
      have l1 := nd_len nd kR
      have NM := G.m
      by_cases c : y ∈ K
      · refine ⟨_, st', W0.length + 5 * (rows.length - K.length), ?_, by rw [hm]; simp, rfl, K, W0, .val (.int y), s5, rfl, nd, fun x hx => lr x (List.mem_append_left _ hx), kr, fun x hx => ?_, fun z hz x hx => ?_, rfl, by rw [hm] at hm2; simp at hm2; omega⟩
        · simp [lrB, popIx_last (α := T), -List.map_append, get_last, er_last, -op_ninD, op_ninK, c]
        · rcases sk x hx with q | q
          · exact .inl q
          · rcases List.mem_append.mp q with q | q
            · exact .inr q
            · rw [List.mem_singleton.mp q]; exact .inl c
        · rcases cl z hz x hx with q | q
          · exact .inl q
          · rcases List.mem_append.mp q with q | q
            · exact .inr q
            · rw [List.mem_singleton.mp q]; exact .inl c
      · have nd2 : (K ++ [y]).Nodup := by
          rw [List.nodup_append]
          exact ⟨nd, by simp, fun a ha b hb e => c (by rw [List.mem_singleton.mp hb] at e; rw [← e]; exact ha)⟩
        have l2 := nd_len nd2 (fun x hx => by
          rcases List.mem_append.mp hx with q | q
          · exact kR x q
          · rw [List.mem_singleton.mp q]; exact yr)
        rw [List.length_append, List.length_singleton] at l2
        have pn := put_new tt y K c (by omega)
        have rl : (hs r).length ≤ 4 := Nat.le_trans (hs_len r) (G.w r rr)
        have ce : ∀ s2 s5', cmpE (CL P n) (HR P) (.nm 5) [.op .notN [.var 5]] (.var 5) [.val (rowsT rows), .val so, s2, .own (.lst (W0.map T.int)), .val (.int y), s5'] (r.map cT) st' = .ok ((hs r).map T.int) st' := by
          intro s2 s5'
          rw [← noN_c]
          refine cmp_pure noN fun x hx => ?_
          obtain ⟨o, _, rfl⟩ := List.mem_map.mp hx
          cases o <;> simp [cT, noN]
        have sz : W0.length + (hs r).length ≤ sizeLine := by
          rw [szl]
          rw [hm] at hm2
          simp at hm2
          omega
        refine ⟨_, st', (W0 ++ hs r).length + 5 * (rows.length - (K ++ [y]).length), ?_, by rw [hm]; simp; omega, rfl, K ++ [y], W0 ++ hs r, .val (.int y), s5, rfl, nd2, fun x hx => ?_, fun x hx => ?_, fun x hx => ?_, fun z hz x hx => ?_, rfl, by rw [hm] at hm2; simp at hm2 ⊢; omega⟩
        · simp [lrB, popIx_last (α := T), -List.map_append, get_last, er_last, -op_ninD, op_ninK, c, pn, setS, idx_row _ yr er, -op_idxT, rowT, ce, sz]
          exact List.map_append.symm
        · rcases List.mem_append.mp hx with q | q
          · exact lr x (List.mem_append_left _ q)
          · exact .step yL ((mem_sc er).mpr (hs_mem.mp q))
        · rcases List.mem_append.mp hx with q | q
          · exact kr x q
          · rw [List.mem_singleton.mp q]; exact yL
        · rcases sk x hx with q | q
          · exact .inl (List.mem_append_left _ q)
          · rcases List.mem_append.mp q with q | q
            · exact .inr (List.mem_append_left _ q)
            · exact .inl (List.mem_append_right _ q)
        · rcases List.mem_append.mp hz with q | q
          · rcases cl z q x hx with q | q
            · exact .inl (List.mem_append_left _ q)
            · rcases List.mem_append.mp q with q | q
              · exact .inr (List.mem_append_left _ q)
              · exact .inl (List.mem_append_right _ q)
          · rw [List.mem_singleton.mp q] at hx
            exact .inr (List.mem_append_right _ (hs_mem.mpr ((mem_sc er).mp hx)))) ((hs l).length + 5 * (rows.length - 0)) [.val (rowsT rows), .val so, .own (.dic (dk tt [])), .own (.lst ((hs l).map T.int)), .no, .no] st (by
      have := hs_len l
      have := G.m
      show _ < 100000
      omega) ⟨rfl, [], hs l, .no, .no, rfl, by simp, fun x hx => .src hx, by simp, fun x hx => .inr hx, by simp, rfl, by
        have := hs_len l
        have := G.m
        omega⟩
  obtain ⟨K, s3, s4, s5, e, hK⟩ := loop
  refine ⟨K, ?_, hK⟩
  have kl := nd_len hK.1 fun x hx => ((hK.2 x).mp hx).inR G src_in
  have e : whlE (CL P n) (HR P) WN (.op .ne [(.var 3), (.lst [])]) lrB [.val (rowsT rows), .val so, .own (.dic []), .own (.lst ((hs l).map T.int)), .no, .no] st = _ := e
  have sd := op_sortD st tt K (by have := G.m; omega)
  simp [hso, c0, parSet, isMut, e, sd]
end
end M
end
/-! M9 -/
section
set_option linter.all false
set_option maxRecDepth 100000
set_option maxHeartbeats 2000000
namespace M
open Q C
open PySem (PyData sizeLine)
/-! ### how far -/
inductive Wk (rows : Rows) (src : List Int) : Nat → Int → Prop
  | src {x : Int} : x ∈ src → Wk rows src 0 x
  | step {k : Nat} {x y : Int} : Wk rows src k y → x ∈ sc rows y → Wk rows src (k + 1) x
theorem Wk.rch {rows : Rows} {src : List Int} {k : Nat} {x : Int} (h : Wk rows src k x) : Rch rows src x := by
  induction h with
  | src h => exact .src h
  | step _ h ih => exact .step ih h
theorem Rch.wk {rows : Rows} {src : List Int} {x : Int} (h : Rch rows src x) : ∃ k, Wk rows src k x := by
  induction h with
  | src h => exact ⟨0, .src h⟩
  | step _ h ih => obtain ⟨k, w⟩ := ih; exact ⟨k + 1, .step w h⟩
/-- d is the number of steps of a shortest way, for just the objects of K -/
structure IsFar (rows : Rows) (src K : List Int) (d : Int → Nat) : Prop where
  nd : K.Nodup
  mem : ∀ x, x ∈ K ↔ Rch rows src x
  wk : ∀ x ∈ K, Wk rows src (d x) x
  le : ∀ k x, Wk rows src k x → d x ≤ k
def fT (d : Int → Nat) : Int → T := fun k => .int ((d k : Int) + 1)
def farT (d : Int → Nat) (K : List Int) : T := .dic (dk (fT d) K)
theorem dk_congr {f g : Int → T} {ks : List Int} (h : ∀ k ∈ ks, f k = g k) : dk f ks = dk g ks := by
  unfold dk
  apply List.map_congr_left
  intro k hk
  rw [h k hk]
/-- what holds while the search goes on: K the objects met, of which those of L wait -/
structure FInv (rows : Rows) (src : List Int) (K L : List Int) (d : Int → Nat) : Prop where
  nd : K.Nodup
  wk : ∀ x ∈ K, Wk rows src (d x) x
  lk : ∀ x ∈ L, x ∈ K
  lnd : L.Nodup
  srt : L.Pairwise (fun a b => d a ≤ d b)
  le : ∀ z ∈ K, ∀ y ∈ L, d z ≤ d y + 1
def upF (d : Int → Nat) (x : Int) (v : Nat) : Int → Nat := fun k => if k = x then v else d k
theorem FInv.inR {rows : Rows} {src K L : List Int} {d : Int → Nat} (I : FInv rows src K L d) (G : Gr rows) (hs : ∀ x ∈ src, InR rows x) : ∀ x ∈ K, InR rows x := fun x hx => (I.wk x hx).rch.inR G hs
/-- a new object comes at the end -/
theorem FInv.push {rows : Rows} {src K L : List Int} {d : Int → Nat} (I : FInv rows src K L d) {i : Int} {v : Nat} (hi : i ∉ K) (hw : Wk rows src v i) (h1 : ∀ y ∈ L, d y ≤ v) (h2 : ∀ z ∈ K, d z ≤ v + 1) (h3 : ∀ y ∈ L, v ≤ d y + 1) : FInv rows src (K ++ [i]) (L ++ [i]) (upF d i v) where
  nd := by
    rw [List.nodup_append]
    exact ⟨I.nd, by simp, fun a ha b hb e => hi (by rw [List.mem_singleton.mp hb] at e; rw [← e]; exact ha)⟩
  wk := fun x hx => by
    unfold upF
    split
    · rename_i e; rw [e]; exact hw
    · rename_i e
      rcases List.mem_append.mp hx with q | q
      · exact I.wk x q
      · exact absurd (List.mem_singleton.mp q) e
  lk := fun x hx => by
    rcases List.mem_append.mp hx with q | q
    · exact List.mem_append_left _ (I.lk x q)
    · exact List.mem_append_right _ q
  lnd := by
    rw [List.nodup_append]
    exact ⟨I.lnd, by simp, fun a ha b hb e => hi (by rw [List.mem_singleton.mp hb] at e; rw [← e]; exact I.lk a ha)⟩
  srt := by
    rw [List.pairwise_append]
    refine ⟨?_, by simp, fun a ha b hb => ?_⟩
    · refine I.srt.imp_of_mem fun {a b} ha hb h => ?_
      have na : a ≠ i := fun e => hi (e ▸ I.lk a ha)
      have nb : b ≠ i := fun e => hi (e ▸ I.lk b hb)
      simp [upF, na, nb, h]
    · have na : a ≠ i := fun e => hi (e ▸ I.lk a ha)
      rw [List.mem_singleton.mp hb]
      simp [upF, na, h1 a ha]
  le := fun z hz y hy => by
    have nk : ∀ x, x ∈ K → x ≠ i := fun x hx e => hi (e ▸ hx)
    rcases List.mem_append.mp hz with q | q <;> rcases List.mem_append.mp hy with p | p
    · simp [upF, nk z q, nk y (I.lk y p), I.le z q y p]
    · rw [List.mem_singleton.mp p]; simp [upF, nk z q, h2 z q]
    · rw [List.mem_singleton.mp q]; simp [upF, nk y (I.lk y p), h3 y p]
    · rw [List.mem_singleton.mp q, List.mem_singleton.mp p]; omega
theorem upF_new {d : Int → Nat} {K : List Int} {i : Int} {v : Nat} (hi : i ∉ K) : dk (fT d) K ++ [(.inl i, .int ((v : Int) + 1))] = dk (fT (upF d i v)) (K ++ [i]) := by
  have e1 : dk (fT d) K = dk (fT (upF d i v)) K := dk_congr fun k hk => by
    have : k ≠ i := fun e => hi (e ▸ hk)
    simp [fT, upF, this]
  rw [e1]
  have e2 : (T.int ((v : Int) + 1)) = fT (upF d i v) i := by simp [fT, upF]
  rw [e2, dk_app]
theorem put_far {d : Int → Nat} {K : List Int} {i : Int} {v : Nat} (hi : i ∉ K) (hl : K.length < 1000) : putAt (.dic (dk (fT d) K)) (.int i) (.int ((v : Int) + 1)) = some (.dic (dk (fT (upF d i v)) (K ++ [i]))) := by
  show (some (.inl i : Key)).bind (fun k => if (dk (fT d) K).length < sizeLine then some (T.dic (putK (dk (fT d) K) k (.int ((v : Int) + 1)))) else none) = _
  rw [Option.bind_some, dk_len, if_pos (by rw [szl]; omega), putK_new (fT d) i K hi, upF_new hi]
theorem cl12 (P n : Nat) (a b : T) (st : Store) : CL P (n + 1) 12 [a, b] [] st = finish (evalSs (CL P n) (HR P) WN b__law_far [.val a, .val b, .no, .no, .no, .no] st) := rfl
def fa1 : List S := [.iff (.band [(.op .notN [(.var 2)]), (.op .notIn [(.var 2), (.var 3)])]) [.seti 3 (.var 2) (.con (.int 1)), .app 4 (.var 2)] []]
def fa2 : List S := [.iff (.band [(.op .notN [(.var 5)]), (.op .notIn [(.var 5), (.var 3)])]) [.seti 3 (.var 5) (.op .add [(.op .dget [(.var 3), (.var 2)]), (.con (.int 1))]), .app 4 (.var 5)] []]
def faB : List S := [.pop 4 [(.con (.int 0))] 2, .for (.nm 5) .seq [(.op .idx [(.var 0), (.var 2)])] fa2]
theorem fa_eq : b__law_far = [.par [(3, true), (4, true)] [.dic0, (.lst [])], .for (.nm 2) .seq [(.var 1)] fa1, .whl (.op .ne [(.var 4), (.lst [])]) faB, .frz 3, .ret (.var 3)] := rfl
section
variable (P n : Nat) {rows : Rows} (G : Gr rows) (src : List Int) (hsr : ∀ x ∈ src, InR rows x)
include G hsr
theorem far_first (h o : T) (st : Store) : ∀ (cs : List (Option Int)) (K : List Int) (d : Int → Nat) (s2 : Slot), (∀ i, some i ∈ cs → i ∈ src) → FInv rows src K K d → (∀ x ∈ K, d x = 0) →
    ∃ K' d' s2', forE (CL P n) (HR P) WN (.nm 2) fa1 (cs.map cT) [.val h, .val o, s2, .own (.dic (dk (fT d) K)), .own (.lst (K.map T.int)), .no] st = .nx [.val h, .val o, s2', .own (.dic (dk (fT d') K')), .own (.lst (K'.map T.int)), .no] st ∧ FInv rows src K' K' d' ∧ (∀ x ∈ K', d' x = 0) ∧ (∀ x, x ∈ K' ↔ x ∈ K ∨ some x ∈ cs)
  | [], K, d, s2, _, I, z => ⟨K, d, s2, by simp [forE_nil], I, z, by simp⟩
  | none :: cs, K, d, s2, hr, I, z => by
    obtain ⟨K', d', s2', e, I', z', m⟩ := far_first h o st cs K d (.val .non) (fun i hi => hr i (List.mem_cons_of_mem _ hi)) I z
    refine ⟨K', d', s2', ?_, I', z', fun x => by rw [m]; simp⟩
    rw [List.map_cons, forE_cons (ρ' := [.val h, .val o, .val .non, .own (.dic (dk (fT d) K)), .own (.lst (K.map T.int)), .no]) (st' := st) (by simp [cT, fa1])]
    exact e
  | some i :: cs, K, d, s2, hr, I, z => by
    have is := hr i List.mem_cons_self
    have kl := nd_len I.nd (I.inR G hsr)
    by_cases c : i ∈ K
    · obtain ⟨K', d', s2', e, I', z', m⟩ := far_first h o st cs K d (.val (.int i)) (fun i hi => hr i (List.mem_cons_of_mem _ hi)) I z
      refine ⟨K', d', s2', ?_, I', z', fun x => ?_⟩
      · rw [List.map_cons, forE_cons (ρ' := [.val h, .val o, .val (.int i), .own (.dic (dk (fT d) K)), .own (.lst (K.map T.int)), .no]) (st' := st) (by simp [cT, fa1, -op_ninD, op_ninK, c])]
        exact e
      · rw [m, List.mem_cons]
        constructor
        · rintro (q | q)
          · exact .inl q
          · exact .inr (.inr q)
        · rintro (q | q | q)
          · exact .inl q
          · cases q; exact .inl c
          · exact .inr q
    · have I2 : FInv rows src (K ++ [i]) (K ++ [i]) (upF d i 0) := I.push c (.src is) (fun y hy => by rw [z y hy]; omega) (fun y hy => by rw [z y hy]; omega) (fun y hy => by omega)
      have z2 : ∀ x ∈ K ++ [i], upF d i 0 x = 0 := fun x hx => by
        unfold upF
        split
        · rfl
        · rename_i q
          rcases List.mem_append.mp hx with w | w
          · exact z x w
          · exact absurd (List.mem_singleton.mp w) q
      obtain ⟨K', d', s2', e, I', z', m⟩ := far_first h o st cs (K ++ [i]) (upF d i 0) (.val (.int i)) (fun i hi => hr i (List.mem_cons_of_mem _ hi)) I2 z2
      have pf := put_far (d := d) (v := 0) c (by have := G.m; omega)
      have pf : putAt (.dic (dk (fT d) K)) (.int i) (.int 1) = some (.dic (dk (fT (upF d i 0)) (K ++ [i]))) := pf
      have wl : K.length < sizeLine := by rw [szl]; have := G.m; omega
      refine ⟨K', d', s2', ?_, I', z', fun x => ?_⟩
      · rw [List.map_cons, forE_cons (ρ' := [.val h, .val o, .val (.int i), .own (.dic (dk (fT (upF d i 0)) (K ++ [i]))), .own (.lst ((K ++ [i]).map T.int)), .no]) (st' := st) (by simp [cT, fa1, -op_ninD, op_ninK, c, pf, setS, wl])]
        exact e
      · rw [m, List.mem_append, List.mem_singleton, List.mem_cons]
        constructor
        · rintro ((q | q) | q)
          · exact .inl q
          · exact .inr (.inl (by rw [q]))
          · exact .inr (.inr q)
        · rintro (q | q | q)
          · exact .inl (.inl q)
          · cases q; exact .inl (.inr rfl)
          · exact .inr q
theorem far_inner (h o : T) (st : Store) (y : Int) (yv : Nat) : ∀ (cs : List (Option Int)) (K L : List Int) (d : Int → Nat) (s5 : Slot), (∀ i, some i ∈ cs → i ∈ sc rows y) → y ∈ K → d y = yv → FInv rows src K L d → (∀ l ∈ L, yv ≤ d l ∧ d l ≤ yv + 1) → (∀ z ∈ K, d z ≤ yv + 1) →
    ∃ K' L' d' s5', forE (CL P n) (HR P) WN (.nm 5) fa2 (cs.map cT) [.val h, .val o, .val (.int y), .own (.dic (dk (fT d) K)), .own (.lst (L.map T.int)), s5] st = .nx [.val h, .val o, .val (.int y), .own (.dic (dk (fT d') K')), .own (.lst (L'.map T.int)), s5'] st ∧ FInv rows src K' L' d' ∧ (∀ x, x ∈ K' ↔ x ∈ K ∨ some x ∈ cs) ∧ (∀ x ∈ K, d' x = d x) ∧ (∀ x ∈ K', x ∈ K ∨ x ∈ L') ∧ (∀ x ∈ L, x ∈ L') ∧ (∀ z ∈ K', d' z ≤ yv + 1) ∧ (∃ j, K'.length = K.length + j ∧ L'.length = L.length + j)
  | [], K, L, d, s5, _, _, _, I, _, h2 => ⟨K, L, d, s5, by simp [forE_nil], I, by simp, fun _ _ => rfl, fun x hx => .inl hx, fun x hx => hx, h2, 0, rfl, rfl⟩
  | none :: cs, K, L, d, s5, hr, yk, yd, I, h1, h2 => by
    obtain ⟨K', L', d', s5', e, r⟩ := far_inner h o st y yv cs K L d (.val .non) (fun i hi => hr i (List.mem_cons_of_mem _ hi)) yk yd I h1 h2
    refine ⟨K', L', d', s5', ?_, r.1, fun x => by rw [r.2.1]; simp, r.2.2⟩
    rw [List.map_cons, forE_cons (ρ' := [.val h, .val o, .val (.int y), .own (.dic (dk (fT d) K)), .own (.lst (L.map T.int)), .val .non]) (st' := st) (by simp [cT, fa2])]
    exact e
  | some i :: cs, K, L, d, s5, hr, yk, yd, I, h1, h2 => by
    have is := hr i List.mem_cons_self
    have kl := nd_len I.nd (I.inR G hsr)
    have ll := nd_len I.lnd (fun x hx => I.inR G hsr x (I.lk x hx))
    by_cases c : i ∈ K
    · obtain ⟨K', L', d', s5', e, I', m, r⟩ := far_inner h o st y yv cs K L d (.val (.int i)) (fun i hi => hr i (List.mem_cons_of_mem _ hi)) yk yd I h1 h2
      refine ⟨K', L', d', s5', ?_, I', fun x => ?_, r⟩
      · rw [List.map_cons, forE_cons (ρ' := [.val h, .val o, .val (.int y), .own (.dic (dk (fT d) K)), .own (.lst (L.map T.int)), .val (.int i)]) (st' := st) (by simp [cT, fa2, -op_ninD, op_ninK, c])]
        exact e
      · rw [m, List.mem_cons]
        constructor
        · rintro (q | q)
          · exact .inl q
          · exact .inr (.inr q)
        · rintro (q | q | q)
          · exact .inl q
          · cases q; exact .inl c
          · exact .inr q
    · have nk : ∀ x ∈ K, x ≠ i := fun x hx e => c (e ▸ hx)
      have I2 : FInv rows src (K ++ [i]) (L ++ [i]) (upF d i (yv + 1)) := I.push c (.step (by have := I.wk y yk; rwa [yd] at this) is) (fun l hl => (h1 l hl).2) (fun z hz => by have := h2 z hz; omega) (fun l hl => by have := (h1 l hl).1; omega)
      obtain ⟨K', L', d', s5', e, I', m, r1, r2, r3, r4, j, j1, j2⟩ := far_inner h o st y yv cs (K ++ [i]) (L ++ [i]) (upF d i (yv + 1)) (.val (.int i)) (fun i hi => hr i (List.mem_cons_of_mem _ hi)) (List.mem_append_left _ yk) (by simp [upF, nk y yk, yd]) I2 (fun l hl => by
        rcases List.mem_append.mp hl with q | q
        · have := h1 l q; simp [upF, nk l (I.lk l q)]; exact this
        · rw [List.mem_singleton.mp q]; simp [upF]) (fun z hz => by
        rcases List.mem_append.mp hz with q | q
        · simp [upF, nk z q]; exact h2 z q
        · rw [List.mem_singleton.mp q]; simp [upF])
      have pf := put_far (d := d) (v := yv + 1) c (by have := G.m; omega)
      have wl : L.length < sizeLine := by rw [szl]; have := G.m; omega
      have gk : getK (dk (fT d) K) (.inl y) = some (.int ((yv : Int) + 1)) := by rw [getK_dk, if_pos yk]; simp [fT, yd]
      have ea : ((yv + 1 : Nat) : Int) + 1 = (yv : Int) + 1 + 1 := by omega
      rw [ea] at pf
      refine ⟨K', L', d', s5', ?_, I', fun x => ?_, fun x hx => ?_, fun x hx => ?_, fun x hx => r3 x (List.mem_append_left _ hx), r4, j + 1, ?_, ?_⟩
      · rw [List.map_cons, forE_cons (ρ' := [.val h, .val o, .val (.int y), .own (.dic (dk (fT (upF d i (yv + 1))) (K ++ [i]))), .own (.lst ((L ++ [i]).map T.int)), .val (.int i)]) (st' := st) (by simp [cT, fa2, -op_ninD, op_ninK, c, gk, pf, setS, wl])]
        exact e
      · rw [m, List.mem_append, List.mem_singleton, List.mem_cons]
        constructor
        · rintro ((q | q) | q)
          · exact .inl q
          · exact .inr (.inl (by rw [q]))
          · exact .inr (.inr q)
        · rintro (q | q | q)
          · exact .inl (.inl q)
          · cases q; exact .inl (.inr rfl)
          · exact .inr q
      · rw [r1 x (List.mem_append_left _ hx)]; simp [upF, nk x hx]
      · rcases r2 x hx with q | q
        · rcases List.mem_append.mp q with w | w
          · exact .inl w
          · exact .inr (r3 x (List.mem_append_right _ w))
        · exact .inr q
      · rw [j1, List.length_append, List.length_singleton]; omega
      · rw [j2, List.length_append, List.length_singleton]; omega
end
end M
end
/-! M10 -/
section
set_option linter.all false
set_option maxRecDepth 100000
set_option maxHeartbeats 2000000
namespace M
open Q C
open PySem (PyData sizeLine)
theorem far_ok (P n : Nat) {rows : Rows} (G : Gr rows) (l : List (Option Int)) (hr : ∀ i, some i ∈ l → InR rows i) (st : Store) : ∃ K d, CL P (n + 1) 12 [rowsT rows, heldT l] [] st = .ok (farT d K) st ∧ IsFar rows (hs l) K d := by
  rw [cl12, fa_eq]
  have hsr : ∀ x ∈ hs l, InR rows x := fun x hx => hr x (hs_mem.mp hx)
  obtain ⟨K0, d0, s20, e0, I0, z0, m0⟩ := far_first P n G (hs l) hsr (rowsT rows) (heldT l) st l [] (fun _ => 0) .no (fun i hi => hs_mem.mpr hi) ⟨by simp, by simp, by simp, by simp, by simp, by simp⟩ (by simp)
  have e0 : forE (CL P n) (HR P) WN (.nm 2) fa1 (l.map cT) [.val (rowsT rows), .val (heldT l), .no, .own (.dic []), .own (.lst []), .no] st = _ := e0
  have loop := whlE_rule (call := CL P n) (hear := HR P) (W := WN) (c := .op .ne [(.var 4), (.lst [])]) (body := faB)
    (I := fun m ρ st' => st' = st ∧ ∃ K L d s2 s5, ρ = [.val (rowsT rows), .val (heldT l), s2, .own (.dic (dk (fT d) K)), .own (.lst (L.map T.int)), s5] ∧ FInv rows (hs l) K L d ∧ (∀ x ∈ hs l, x ∈ K ∧ d x = 0) ∧ (∀ y ∈ K, y ∈ L ∨ ∀ x ∈ sc rows y, x ∈ K ∧ d x ≤ d y + 1) ∧ m = L.length + (rows.length - K.length))
    (Q := fun r => ∃ K d s2 s4 s5, r = .nx [.val (rowsT rows), .val (heldT l), s2, .own (.dic (dk (fT d) K)), s4, s5] st ∧ IsFar rows (hs l) K d) (fun m ρ st' ⟨hst, K, L, d, s2, s5, hρ, I, sk, cl, hm⟩ => by
    subst hst hρ
    refine ⟨!L.isEmpty, by simp [eq_empI], fun hb => ?_, fun hb => .inl ?_⟩
    · have : L = [] := by simpa using hb
      subst this
      have cl2 : ∀ y ∈ K, ∀ x ∈ sc rows y, x ∈ K ∧ d x ≤ d y + 1 := fun y hy => (cl y hy).resolve_left (by simp)
      refine ⟨K, d, s2, _, s5, rfl, I.nd, rch_of (fun x hx => (sk x hx).1) (fun y hy x hx => (cl2 y hy x hx).1) (fun x hx => (I.wk x hx).rch), I.wk, fun k x w => ?_⟩
      have key : ∀ k x, Wk rows (hs l) k x → x ∈ K ∧ d x ≤ k := by
        intro k x w
        induction w with
        | src h => exact ⟨(sk _ h).1, by rw [(sk _ h).2]; omega⟩
        | step _ h ih =>
          obtain ⟨q1, q2⟩ := cl2 _ ih.1 _ h
          exact ⟨q1, by omega⟩
      exact (key k x w).2
    · cases L with
      | nil => cases hb
      | cons y L0 =>
        have yk := I.lk y List.mem_cons_self
        have yr := I.inR G hsr y yk
        obtain ⟨r, er, rr⟩ := row_at yr
        have srt := List.pairwise_cons.mp I.srt
        have lnd := List.nodup_cons.mp I.lnd
        have I0' : FInv rows (hs l) K L0 d := ⟨I.nd, I.wk, fun x hx => I.lk x (List.mem_cons_of_mem _ hx), lnd.2, srt.2, fun z hz y hy => I.le z hz y (List.mem_cons_of_mem _ hy)⟩
        obtain ⟨K', L', d', s5', e, I', m', r1, r2, r3, r4, j, j1, j2⟩ := far_inner P n G (hs l) hsr (rowsT rows) (heldT l) st' y (d y) r K L0 d s5 (fun i hi => (mem_sc er).mpr hi) yk rfl I0' (fun l' hl' => ⟨srt.1 l' hl', I.le l' (I.lk l' (List.mem_cons_of_mem _ hl')) y List.mem_cons_self⟩) (fun z hz => I.le z hz y List.mem_cons_self)
        have kl := nd_len I'.nd (I'.inR G hsr)
        refine ⟨_, st', L'.length + (rows.length - K'.length), ?_, by rw [hm, j2]; simp; omega, rfl, K', L', d', .val (.int y), s5', rfl, I', fun x hx => ⟨(m' x).mpr (.inl (sk x hx).1), by rw [r1 x (sk x hx).1]; exact (sk x hx).2⟩, fun z hz => ?_, rfl⟩
        · have p0 : L2.ixN (L0.length + 1) 0 = some 0 := ixN_ok (by omega) (by omega)
          simp [faB, popIx, p0, idx_row _ yr er, -op_idxT, rowT, e]
        · rcases r2 z hz with q | q
          · by_cases zy : z = y
            · subst zy
              refine .inr fun x hx => ?_
              have xk := (m' x).mpr (.inr ((mem_sc er).mp hx))
              exact ⟨xk, by rw [r1 z yk]; exact r4 x xk⟩
            · rcases cl z q with w | w
              · rcases List.mem_cons.mp w with w | w
                · exact absurd w zy
                · exact .inl (r3 z w)
              · refine .inr fun x hx => ?_
                obtain ⟨w1, w2⟩ := w x hx
                exact ⟨(m' x).mpr (.inl w1), by rw [r1 x w1, r1 z q]; exact w2⟩
          · exact .inl q) (K0.length + (rows.length - K0.length)) [.val (rowsT rows), .val (heldT l), s20, .own (.dic (dk (fT d0) K0)), .own (.lst (K0.map T.int)), .no] st (by
      have := nd_len I0.nd (I0.inR G hsr)
      have := G.m
      show _ < 100000
      omega) ⟨rfl, K0, K0, d0, s20, .no, rfl, I0, fun x hx => by
        have xk := (m0 x).mpr (.inr (hs_mem.mp hx))
        exact ⟨xk, z0 x xk⟩, fun y hy => .inl hy, rfl⟩
  obtain ⟨K, d, s2, s4, s5, e, hK⟩ := loop
  refine ⟨K, d, ?_, hK⟩
  simp [parSet, isMut, heldT] at e0 e ⊢
  simp [e0, e, setS, farT]
/-! ### paths -/
def cel (rows : Rows) (y f : Int) : Option Int := ((rows[y.toNat]?.getD [])[f.toNat]?).join
def fol (rows : Rows) : Int → List Int → Option Int
  | y, [] => some y
  | y, f :: fs => (cel rows y f).bind fun z => fol rows z fs
theorem fol_app (rows : Rows) (f : Int) : ∀ (fs : List Int) (y : Int), fol rows y (fs ++ [f]) = (fol rows y fs).bind fun z => cel rows z f
  | [], y => by
    show (cel rows y f).bind (fun z => some z) = cel rows y f
    cases cel rows y f <;> rfl
  | g :: fs, y => by
    show (cel rows y g).bind (fun z => fol rows z (fs ++ [f])) = ((cel rows y g).bind fun z => fol rows z fs).bind _
    cases cel rows y g with
    | none => rfl
    | some z => exact fol_app rows f fs z
theorem cel_sc {rows : Rows} {y f z : Int} (h : cel rows y f = some z) : z ∈ sc rows y := by
  unfold cel at h
  unfold sc
  cases e : (rows[y.toNat]?.getD [])[f.toNat]? with
  | none => rw [e] at h; cases h
  | some o =>
    rw [e] at h
    have h : o = some z := by simpa using h
    subst h
    simpa using List.mem_of_getElem? e
theorem fol_wk {rows : Rows} {src : List Int} : ∀ (fs : List Int) {k : Nat} {y x : Int}, Wk rows src k y → fol rows y fs = some x → Wk rows src (k + fs.length) x
  | [], k, y, x, w, h => by cases h; exact w
  | f :: fs, k, y, x, w, h => by
    obtain ⟨z, e1, e2⟩ := Option.bind_eq_some_iff.mp h
    have := fol_wk fs (.step w (cel_sc e1)) e2
    rw [List.length_cons]
    rwa [show k + (fs.length + 1) = k + 1 + fs.length by omega]
/-- p is a way to x -/
def PV (rows : Rows) (held : List (Option Int)) (x : Int) (p : List Int) : Prop := ∃ i fs y0, p = i :: fs ∧ 0 ≤ i ∧ held[i.toNat]? = some (some y0) ∧ fol rows y0 fs = some x ∧ ∀ f ∈ fs, 0 ≤ f
theorem PV.wk {rows : Rows} {held : List (Option Int)} {x : Int} {p : List Int} (h : PV rows held x p) : Wk rows (hs held) (p.length - 1) x := by
  obtain ⟨i, fs, y0, rfl, _, h1, h2, _⟩ := h
  have := fol_wk fs (k := 0) (.src (hs_mem.mpr (List.mem_of_getElem? h1))) h2
  simpa using this
theorem PV.len {rows : Rows} {held : List (Option Int)} {x : Int} {p : List Int} (h : PV rows held x p) : 1 ≤ p.length := by
  obtain ⟨i, fs, y0, rfl, _⟩ := h
  simp
theorem PV.more {rows : Rows} {held : List (Option Int)} {y z f : Int} {p : List Int} (h : PV rows held y p) (hf : 0 ≤ f) (hc : cel rows y f = some z) : PV rows held z (p ++ [f]) := by
  obtain ⟨i, fs, y0, rfl, h1, h2, h3, h4⟩ := h
  refine ⟨i, fs ++ [f], y0, rfl, h1, h2, by rw [fol_app, h3]; exact hc, fun g hg => ?_⟩
  rcases List.mem_append.mp hg with q | q
  · exact h4 g q
  · rw [List.mem_singleton.mp q]; exact hf
def chF : Nat → List (Option Int) → List Int → List (Int × List Int)
  | _, [], _ => []
  | j, none :: r, p => chF (j + 1) r p
  | j, some z :: r, p => (z, p ++ [(j : Int)]) :: chF (j + 1) r p
theorem chF_mem {z : Int} {q p : List Int} : ∀ {r : List (Option Int)} {j : Nat}, (z, q) ∈ chF j r p ↔ ∃ i, r[i]? = some (some z) ∧ q = p ++ [((j + i : Nat) : Int)]
  | [], j => by simp [chF]
  | none :: r, j => by
    unfold chF
    rw [chF_mem (r := r)]
    constructor
    · rintro ⟨i, h1, h2⟩
      exact ⟨i + 1, by simpa using h1, by rw [h2]; congr 2; omega⟩
    · rintro ⟨i, h1, h2⟩
      cases i with
      | zero => simp at h1
      | succ i => exact ⟨i, by simpa using h1, by rw [h2]; congr 2; omega⟩
  | some w :: r, j => by
    unfold chF
    rw [List.mem_cons, chF_mem (r := r)]
    constructor
    · rintro (h | ⟨i, h1, h2⟩)
      · cases h; exact ⟨0, by simp, by simp⟩
      · exact ⟨i + 1, by simpa using h1, by rw [h2]; congr 2; omega⟩
    · rintro ⟨i, h1, h2⟩
      cases i with
      | zero => left; simp at h1; rw [h2, h1]; simp
      | succ i => exact .inr ⟨i, by simpa using h1, by rw [h2]; congr 2; omega⟩
theorem chF_len : ∀ (r : List (Option Int)) (j : Nat) (p : List Int), (chF j r p).length ≤ r.length
  | [], _, _ => by simp [chF]
  | none :: r, j, p => by unfold chF; have := chF_len r (j + 1) p; simp; omega
  | some _ :: r, j, p => by unfold chF; have := chF_len r (j + 1) p; simp; omega
def ent (e : Int × List Int) : T := .tup [.int e.1, .tup (e.2.map T.int)]
theorem chF_T (p : List Int) (g : T → Option T) (hg : ∀ (i : Nat), g (.tup [.int i, .non]) = none) (hg2 : ∀ (i : Nat) (z : Int), g (.tup [.int i, .int z]) = some (ent (z, p ++ [(i : Int)]))) : ∀ (r : List (Option Int)) (j : Nat), ((r.map cT).mapIdx fun i x => T.tup [.int ((j + i : Nat) : Int), x]).filterMap g = (chF j r p).map ent
  | [], j => rfl
  | none :: r, j => by
    have fe : (fun (i : Nat) (x : T) => T.tup [T.int ((j + (i + 1) : Nat) : Int), x]) = fun i x => T.tup [T.int ((j + 1 + i : Nat) : Int), x] := by
      funext i x
      rw [show j + (i + 1) = j + 1 + i by omega]
    rw [List.map_cons, List.mapIdx_cons, List.filterMap_cons, show g (T.tup [T.int ((j + 0 : Nat) : Int), cT none]) = none from hg (j + 0)]
    show List.filterMap g (List.mapIdx (fun (i : Nat) (x : T) => T.tup [T.int ((j + (i + 1) : Nat) : Int), x]) (List.map cT r)) = (chF (j + 1) r p).map ent
    rw [fe]
    exact chF_T p g hg hg2 r (j + 1)
  | some z :: r, j => by
    have fe : (fun (i : Nat) (x : T) => T.tup [T.int ((j + (i + 1) : Nat) : Int), x]) = fun i x => T.tup [T.int ((j + 1 + i : Nat) : Int), x] := by
      funext i x
      rw [show j + (i + 1) = j + 1 + i by omega]
    rw [List.map_cons, List.mapIdx_cons, List.filterMap_cons, show g (T.tup [T.int ((j + 0 : Nat) : Int), cT (some z)]) = some (ent (z, p ++ [((j + 0 : Nat) : Int)])) from hg2 (j + 0) z]
    show ent (z, p ++ [((j + 0 : Nat) : Int)]) :: List.filterMap g (List.mapIdx (fun (i : Nat) (x : T) => T.tup [T.int ((j + (i + 1) : Nat) : Int), x]) (List.map cT r)) = ent (z, p ++ [(j : Int)]) :: (chF (j + 1) r p).map ent
    rw [fe, chF_T p g hg hg2 r (j + 1)]
    rfl
end M
end
/-! M11 -/
section
set_option linter.all false
set_option maxRecDepth 100000
set_option maxHeartbeats 2000000
namespace M
open Q C
open PySem (PyData sizeLine)
theorem cl19 (P n : Nat) (a b c : T) (st : Store) : CL P (n + 1) 19 [a, b, c] [] st = finish (evalSs (CL P n) (HR P) WN b_path_to [.val a, .val b, .val c, .no, .no, .no, .no, .no, .no, .no, .no] st) := rfl
def ptB : List S := [.headTail (.tp [(.nm 8), (.nm 9)]) 3,
      .iff (.op .eq [(.var 8), (.var 2)]) [.ret (.var 9)] [],
      .iff (.op .notIn [(.var 8), (.var 4)]) [.seti 4 (.var 8) (.con (.bl true)),
      .ass 5 (.op .listEnum [(.op .idx [(.op .idx [(.var 0), (.con (.int 1))]), (.var 8)])]),
      .ext 3 (.comp (.tp [(.nm 6), (.nm 10)]) .seq [(.var 5)] [(.op .notN [(.var 10)])] (.tup [(.var 10), (.op .add [(.var 9), (.tup [(.var 6)])])]))] []]
theorem pt_eq : b_path_to = [b_path_to.headD .pas, .own 3 (.comp (.tp [(.nm 6), (.nm 7)]) .enum [(.var 1)] [(.op .notN [(.var 7)])] (.tup [(.var 7), (.tup [(.var 6)])])), .own 4 .dic0, .whl (.op .ne [(.var 3), (.lst [])]) ptB, .ret (.con .non)] := rfl
/-- what holds while paths are sought -/
structure PInv (rows : Rows) (held : List (Option Int)) (x : Int) (W : List (Int × List Int)) (M : List Int) (m : Int → Nat) : Prop where
  v : ∀ e ∈ W, PV rows held e.1 e.2
  srt : W.Pairwise (fun a b => a.2.length ≤ b.2.length)
  le : ∀ a ∈ W, ∀ b ∈ W, a.2.length ≤ b.2.length + 1
  nd : M.Nodup
  inr : ∀ y ∈ M, InR rows y
  xm : x ∉ M
  ml : ∀ y ∈ M, ∀ e ∈ W, m y + 1 ≤ e.2.length
  src : ∀ z ∈ hs held, (z ∈ M ∧ m z = 0) ∨ ∃ p, (z, p) ∈ W ∧ p.length = 1
  cl : ∀ y ∈ M, ∀ z ∈ sc rows y, (z ∈ M ∧ m z ≤ m y + 1) ∨ ∃ p, (z, p) ∈ W ∧ p.length ≤ m y + 2
theorem PInv.key {rows : Rows} {held : List (Option Int)} {x : Int} {W : List (Int × List Int)} {M : List Int} {m : Int → Nat} (I : PInv rows held x W M m) {k : Nat} {z : Int} (w : Wk rows (hs held) k z) : (z ∈ M ∧ m z ≤ k) ∨ ∃ e ∈ W, e.2.length ≤ k + 1 := by
  induction w with
  | src h =>
    rcases I.src _ h with ⟨q1, q2⟩ | ⟨p, q1, q2⟩
    · exact .inl ⟨q1, by omega⟩
    · exact .inr ⟨_, q1, by show p.length ≤ _; omega⟩
  | step _ h ih =>
    rcases ih with ⟨q1, q2⟩ | ⟨e, q1, q2⟩
    · rcases I.cl _ q1 _ h with ⟨r1, r2⟩ | ⟨p, r1, r2⟩
      · exact .inl ⟨r1, by omega⟩
      · exact .inr ⟨_, r1, by show p.length ≤ _; omega⟩
    · exact .inr ⟨e, q1, by omega⟩
theorem PInv.found {rows : Rows} {held : List (Option Int)} {x : Int} {p : List Int} {W : List (Int × List Int)} {M : List Int} {m : Int → Nat} (I : PInv rows held x ((x, p) :: W) M m) : PV rows held x p ∧ ∀ k, Wk rows (hs held) k x → p.length ≤ k + 1 := by
  refine ⟨I.v _ List.mem_cons_self, fun k w => ?_⟩
  rcases I.key w with ⟨q, _⟩ | ⟨e, q1, q2⟩
  · exact absurd q I.xm
  · rcases List.mem_cons.mp q1 with q | q
    · subst q; exact q2
    · have := (List.pairwise_cons.mp I.srt).1 e q
      show p.length ≤ _
      have this : p.length ≤ e.2.length := this
      omega
theorem PInv.none {rows : Rows} {held : List (Option Int)} {x : Int} {M : List Int} {m : Int → Nat} (I : PInv rows held x [] M m) : ¬ Rch rows (hs held) x := fun h => by
  obtain ⟨k, w⟩ := h.wk
  rcases I.key w with ⟨q, _⟩ | ⟨e, q, _⟩
  · exact I.xm q
  · cases q
/-- an object met before -/
theorem PInv.skip {rows : Rows} {held : List (Option Int)} {x y : Int} {p : List Int} {W : List (Int × List Int)} {M : List Int} {m : Int → Nat} (I : PInv rows held x ((y, p) :: W) M m) (hy : y ∈ M) : PInv rows held x W M m where
  v := fun e he => I.v e (List.mem_cons_of_mem _ he)
  srt := (List.pairwise_cons.mp I.srt).2
  le := fun a ha b hb => I.le a (List.mem_cons_of_mem _ ha) b (List.mem_cons_of_mem _ hb)
  nd := I.nd
  inr := I.inr
  xm := I.xm
  ml := fun y hy e he => I.ml y hy e (List.mem_cons_of_mem _ he)
  src := fun z hz => by
    rcases I.src z hz with q | ⟨q, h1, h2⟩
    · exact .inl q
    · rcases List.mem_cons.mp h1 with w | w
      · cases w
        have := I.ml _ hy _ List.mem_cons_self
        have this : m y + 1 ≤ p.length := this
        exact .inl ⟨hy, by omega⟩
      · exact .inr ⟨q, w, h2⟩
  cl := fun y' hy' z hz => by
    rcases I.cl y' hy' z hz with q | ⟨q, h1, h2⟩
    · exact .inl q
    · rcases List.mem_cons.mp h1 with w | w
      · cases w
        have := I.ml _ hy _ List.mem_cons_self
        have this : m y + 1 ≤ p.length := this
        exact .inl ⟨hy, by omega⟩
      · exact .inr ⟨q, w, h2⟩
/-- a new object -/
theorem PInv.meet {rows : Rows} {held : List (Option Int)} {x y : Int} {p : List Int} {W : List (Int × List Int)} {M : List Int} {m : Int → Nat} {r : List (Option Int)} (I : PInv rows held x ((y, p) :: W) M m) (hy : y ∉ M) (yr : InR rows y) (yx : y ≠ x) (er : rows[y.toNat]? = some r) : PInv rows held x (W ++ chF 0 r p) (M ++ [y]) (upF m y (p.length - 1)) := by
  have pl := (I.v _ List.mem_cons_self).len
  have pl : 1 ≤ p.length := pl
  have nk : ∀ z ∈ M, z ≠ y := fun z hz e => hy (e ▸ hz)
  have fr := (List.pairwise_cons.mp I.srt).1
  have cm : ∀ z q, (z, q) ∈ chF 0 r p → q.length = p.length + 1 ∧ PV rows held z q := fun z q h => by
    obtain ⟨i, h1, h2⟩ := chF_mem.mp h
    refine ⟨by rw [h2]; simp, ?_⟩
    rw [h2]
    refine (I.v _ List.mem_cons_self).more (by omega) ?_
    unfold cel
    rw [er]
    simp [h1]
  have bk : ∀ z, some z ∈ r → ∃ q, (z, q) ∈ chF 0 r p ∧ q.length = p.length + 1 := fun z h => by
    obtain ⟨i, hi, e⟩ := List.getElem_of_mem h
    have h1 : r[i]? = some (some z) := by rw [List.getElem?_eq_getElem hi, e]
    exact ⟨_, chF_mem.mpr ⟨i, h1, rfl⟩, by simp⟩
  have wl : ∀ e ∈ W, p.length ≤ e.2.length ∧ e.2.length ≤ p.length + 1 := fun e he => ⟨fr e he, I.le e (List.mem_cons_of_mem _ he) _ List.mem_cons_self⟩
  have al : ∀ e ∈ W ++ chF 0 r p, p.length ≤ e.2.length ∧ e.2.length ≤ p.length + 1 := fun e he => by
    rcases List.mem_append.mp he with q | q
    · exact wl e q
    · have := (cm e.1 e.2 q).1; omega
  refine ⟨fun e he => ?_, ?_, fun a ha b hb => ?_, ?_, fun z hz => ?_, fun h => ?_, fun z hz e he => ?_, fun z hz => ?_, fun z hz w hw => ?_⟩
  · rcases List.mem_append.mp he with q | q
    · exact I.v e (List.mem_cons_of_mem _ q)
    · exact (cm e.1 e.2 q).2
  · rw [List.pairwise_append]
    refine ⟨(List.pairwise_cons.mp I.srt).2, ?_, fun a ha b hb => ?_⟩
    · refine List.pairwise_of_forall_mem_list fun a ha b hb => ?_
      have := (cm a.1 a.2 ha).1; have := (cm b.1 b.2 hb).1; omega
    · have := (wl a ha).2; have := (cm b.1 b.2 hb).1; omega
  · have := al a ha; have := al b hb; omega
  · rw [List.nodup_append]
    exact ⟨I.nd, by simp, fun a ha b hb e => hy (by rw [List.mem_singleton.mp hb] at e; rw [← e]; exact ha)⟩
  · rcases List.mem_append.mp hz with q | q
    · exact I.inr z q
    · rw [List.mem_singleton.mp q]; exact yr
  · rcases List.mem_append.mp h with q | q
    · exact I.xm q
    · exact yx (List.mem_singleton.mp q).symm
  · have := (al e he).1
    rcases List.mem_append.mp hz with q | q
    · have k := I.ml z q _ List.mem_cons_self
      have k : m z + 1 ≤ p.length := k
      simp [upF, nk z q]; omega
    · rw [List.mem_singleton.mp q]; simp [upF]; omega
  · rcases I.src z hz with ⟨q1, q2⟩ | ⟨q, h1, h2⟩
    · exact .inl ⟨List.mem_append_left _ q1, by simp [upF, nk z q1, q2]⟩
    · rcases List.mem_cons.mp h1 with w | w
      · cases w; exact .inl ⟨List.mem_append_right _ List.mem_cons_self, by simp [upF]; omega⟩
      · exact .inr ⟨q, List.mem_append_left _ w, h2⟩
  · rcases List.mem_append.mp hz with q | q
    · have mz : upF m y (p.length - 1) z = m z := by simp [upF, nk z q]
      rw [mz]
      rcases I.cl z q w hw with ⟨r1, r2⟩ | ⟨q', h1, h2⟩
      · exact .inl ⟨List.mem_append_left _ r1, by simp [upF, nk w r1]; exact r2⟩
      · rcases List.mem_cons.mp h1 with u | u
        · cases u; exact .inl ⟨List.mem_append_right _ List.mem_cons_self, by simp [upF]; omega⟩
        · exact .inr ⟨q', List.mem_append_left _ u, h2⟩
    · have zy := List.mem_singleton.mp q
      subst zy
      have mz : upF m z (p.length - 1) z = p.length - 1 := by simp [upF]
      rw [mz]
      obtain ⟨q', h1, h2⟩ := bk w ((mem_sc er).mp hw)
      exact .inr ⟨q', List.mem_append_right _ h1, by omega⟩
theorem dp_ent (W : List (Int × List Int)) : ∀ t ∈ W.map ent, Dp 2 t := by
  intro t ht
  obtain ⟨e, _, rfl⟩ := List.mem_map.mp ht
  refine .tup fun u hu => ?_
  simp only [List.mem_cons, List.not_mem_nil, or_false] at hu
  rcases hu with rfl | rfl
  · exact .int
  · exact .tup fun v hv => by
      obtain ⟨i, _, rfl⟩ := List.mem_map.mp hv
      exact .int
end M
end
/-! M12 -/
section
set_option linter.all false
set_option maxRecDepth 100000
set_option maxHeartbeats 2000000
namespace M
open Q C
open PySem (PyData sizeLine)
def gE : T → Option T
  | .tup [.int i, .int z] => some (.tup [.int z, .tup [.int i]])
  | _ => none
def gP (p : List Int) : T → Option T
  | .tup [.int i, .int z] => some (ent (z, p ++ [i]))
  | _ => none
theorem mapIdx0 (l : List (Option Int)) : (l.map cT).mapIdx (fun i x => T.tup [.int ((0 + i : Nat) : Int), x]) = (l.map cT).mapIdx fun i x => T.tup [.int (i : Int), x] := by
  congr 1
  funext i x
  rw [Nat.zero_add]
theorem gE_all (l : List (Option Int)) : ((l.map cT).mapIdx fun i x => T.tup [.int (i : Int), x]).filterMap gE = (chF 0 l []).map ent := by
  rw [← mapIdx0]
  exact chF_T [] gE (fun i => rfl) (fun i z => rfl) l 0
theorem gP_all (p : List Int) (l : List (Option Int)) : ((l.map cT).mapIdx fun i x => T.tup [.int (i : Int), x]).filterMap (gP p) = (chF 0 l p).map ent := by
  rw [← mapIdx0]
  exact chF_T p (gP p) (fun i => rfl) (fun i z => rfl) l 0
theorem mem_mapIdx {l : List (Option Int)} {t : T} (h : t ∈ (l.map cT).mapIdx fun i x => T.tup [.int (i : Int), x]) : ∃ (i : Nat) (o : Option Int), t = .tup [.int i, cT o] := by
  obtain ⟨i, hi, e⟩ := List.mem_mapIdx.mp h
  have hi' : i < l.length := by simpa using hi
  exact ⟨i, l[i], by rw [← e]; simp⟩
theorem path_ok (P n : Nat) (wide : Int) {rows : Rows} (G : Gr rows) (held : List (Option Int)) (hr : ∀ i, some i ∈ held → InR rows i) (hl : held.length ≤ 6) (x : Int) (xr : InR rows x) (st : Store) :
    (∃ p, CL P (n + 2) 19 [.tup [.int wide, rowsT rows], heldT held, .int x] [] st = .ok (.tup (p.map T.int)) st ∧ PV rows held x p ∧ ∀ k, Wk rows (hs held) k x → p.length ≤ k + 1) ∨ (CL P (n + 2) 19 [.tup [.int wide, rowsT rows], heldT held, .int x] [] st = .ok .non st ∧ ¬ Rch rows (hs held) x) := by
  rw [cl19, pt_eq]
  have b0 := between_int P n x 0 ((rows.length : Int) - 1) st
  have d1 : decide ((0 : Int) ≤ x) = true := decide_eq_true xr.1
  have d2 : decide (x ≤ (rows.length : Int) - 1) = true := decide_eq_true (by have := xr.2; omega)
  rw [d1, d2] at b0
  have NM := G.m
  have sp : ∀ z ∈ hs held, InR rows z := fun z hz => hr z (hs_mem.mp hz)
  have c0 : ∀ st, cmpE (CL P (n + 1)) (HR P) (.tp [(.nm 6), (.nm 7)]) [.op .notN [.var 7]] (.tup [(.var 7), (.tup [(.var 6)])]) [.val (.tup [.int wide, rowsT rows]), .val (heldT held), .val (.int x), .no, .no, .no, .no, .no, .no, .no, .no] ((held.map cT).mapIdx fun i x => T.tup [.int (i : Int), x]) st = .ok ((chF 0 held []).map ent) st := by
    intro st
    rw [← gE_all]
    refine cmp_pure gE fun t ht => ?_
    obtain ⟨i, o, rfl⟩ := mem_mapIdx ht
    cases o <;> simp [cT, gE]
  have I0 : PInv rows held x (chF 0 held []) [] (fun _ => 0) := by
    have cm : ∀ z q, (z, q) ∈ chF 0 held [] → q.length = 1 ∧ PV rows held z q := fun z q h => by
      obtain ⟨i, h1, h2⟩ := chF_mem.mp h
      refine ⟨by rw [h2]; simp, ?_⟩
      rw [h2]
      exact ⟨_, [], z, rfl, by omega, by simpa using h1, rfl, by simp⟩
    refine ⟨fun e he => (cm e.1 e.2 he).2, List.pairwise_of_forall_mem_list fun a ha b hb => ?_, fun a ha b hb => ?_, by simp, by simp, by simp, by simp, fun z hz => .inr ?_, by simp⟩
    · have := (cm a.1 a.2 ha).1; have := (cm b.1 b.2 hb).1; omega
    · have := (cm a.1 a.2 ha).1; have := (cm b.1 b.2 hb).1; omega
    · obtain ⟨i, hi, e⟩ := List.getElem_of_mem (hs_mem.mp hz)
      have h1 : held[i]? = some (some z) := by rw [List.getElem?_eq_getElem hi, e]
      exact ⟨_, chF_mem.mpr ⟨i, h1, rfl⟩, by simp⟩
  have loop := whlE_rule (call := CL P (n + 1)) (hear := HR P) (W := WN) (c := .op .ne [(.var 3), (.lst [])]) (body := ptB)
    (I := fun k ρ st' => st' = st ∧ ∃ W M m s5 s6 s7 s8 s9 s10, ρ = [.val (.tup [.int wide, rowsT rows]), .val (heldT held), .val (.int x), .own (.lst (W.map ent)), .own (.dic (dk tt M)), s5, s6, s7, s8, s9, s10] ∧ PInv rows held x W M m ∧ k = W.length + 5 * (rows.length - M.length) ∧ k ≤ 1000 ∧ ∀ e ∈ W, e.2.length ≤ 2000 - k)
    (Q := fun r => (∃ p, r = .rt (.tup (p.map T.int)) st ∧ PV rows held x p ∧ ∀ k, Wk rows (hs held) k x → p.length ≤ k + 1) ∨ ∃ ρ, r = .nx ρ st ∧ ¬ Rch rows (hs held) x) (fun k ρ st' ⟨hst, W, M, m, s5, s6, s7, s8, s9, s10, hρ, I, hk, hk2, hwl⟩ => by
    subst hst hρ
    refine ⟨!W.isEmpty, ?_, fun hb => ?_, fun hb => ?_⟩
    · have e := eq_emp (st := st') (dp_ent W)
      have e2 : (W.map ent).isEmpty = W.isEmpty := by cases W <;> rfl
      rw [e2] at e
      simp [e]
    · have : W = [] := by simpa using hb
      subst this
      exact .inr ⟨_, rfl, I.none⟩
    · cases W with
      | nil => cases hb
      | cons e0 W0 =>
        obtain ⟨y, p⟩ := e0
        by_cases yx : y = x
        · subst yx
          refine .inr ⟨.tup (p.map T.int), st', ?_, .inl ⟨p, rfl, I.found⟩⟩
          simp [ptB, ent, setS]
        · have pl := (I.v _ List.mem_cons_self).len
          have yr : InR rows y := (I.v _ List.mem_cons_self).wk.rch.inR G sp
          have ml := nd_len I.nd I.inr
          rw [List.length_cons] at hk
          by_cases c : y ∈ M
          · refine .inl ⟨_, st', W0.length + 5 * (rows.length - M.length), ?_, by omega, rfl, W0, M, m, s5, s6, s7, .val (.int y), .val (.tup (p.map T.int)), s10, rfl, I.skip c, rfl, by omega, fun e he => by have := hwl e (List.mem_cons_of_mem _ he); omega⟩
            simp [ptB, ent, setS, yx, -op_ninD, op_ninK, c]
          · obtain ⟨r, er, rr⟩ := row_at yr
            have I' := I.meet c yr yx er
            have l2 := nd_len I'.nd I'.inr
            rw [List.length_append, List.length_singleton] at l2
            have cl := chF_len r 0 p
            have rw4 := G.w r rr
            have pn := put_new tt y M c (by omega)
            have plen := hwl _ List.mem_cons_self
            have plen : p.length ≤ 2000 - k := plen
            have ce : ∀ s4 s7, cmpE (CL P (n + 1)) (HR P) (.tp [(.nm 6), (.nm 10)]) [.op .notN [.var 10]] (.tup [(.var 10), (.op .add [(.var 9), (.tup [(.var 6)])])]) [.val (.tup [.int wide, rowsT rows]), .val (heldT held), .val (.int x), .own (.lst (W0.map ent)), s4, .val (.lst ((r.map cT).mapIdx fun i x => T.tup [.int (i : Int), x])), s6, s7, .val (.int y), .val (.tup (p.map T.int)), s10] ((r.map cT).mapIdx fun i x => T.tup [.int (i : Int), x]) st' = .ok ((chF 0 r p).map ent) st' := by
              intro s4 s7
              rw [← gP_all]
              refine cmp_pure (gP p) fun t ht => ?_
              obtain ⟨i, o, rfl⟩ := mem_mapIdx ht
              have ad := op_addT st' (p.map T.int) [.int i] (by rw [szl]; simp; omega)
              cases o <;> simp [cT, gP, ad, ent]
            have sz : W0.length + (chF 0 r p).length ≤ sizeLine := by rw [szl]; omega
            have le : opEval st' .listEnum [rowT r] = some (.lst ((r.map cT).mapIdx fun i x => T.tup [.int (i : Int), x])) := rfl
            refine .inl ⟨_, st', (W0 ++ chF 0 r p).length + 5 * (rows.length - (M ++ [y]).length), ?_, by simp; omega, rfl, W0 ++ chF 0 r p, M ++ [y], _, .val (.lst ((r.map cT).mapIdx fun i x => T.tup [.int (i : Int), x])), s6, s7, .val (.int y), .val (.tup (p.map T.int)), s10, rfl, I', rfl, by simp; omega, fun e he => ?_⟩
            · have hI : ∀ st, opEval st .idx [.tup [.int wide, rowsT rows], .int 1] = some (rowsT rows) := fun st => by simp
              have se : setS [.val (.tup [.int wide, rowsT rows]), .val (heldT held), .val (.int x), .own (.lst (W0.map ent)), .own (.dic (dk tt (M ++ [y]))), .val (.lst ((r.map cT).mapIdx fun i x => T.tup [.int (i : Int), x])), s6, s7, .val (.int y), .val (.tup (p.map T.int)), s10] 3 (.own (.lst (W0.map ent ++ (chF 0 r p).map ent))) st' = .nx [.val (.tup [.int wide, rowsT rows]), .val (heldT held), .val (.int x), .own (.lst ((W0 ++ chF 0 r p).map ent)), .own (.dic (dk tt (M ++ [y]))), .val (.lst ((r.map cT).mapIdx fun i x => T.tup [.int (i : Int), x])), s6, s7, .val (.int y), .val (.tup (p.map T.int)), s10] st' := by simp [setS]
              simp [ptB, ent, setS, yx, -op_ninD, op_ninK, c, pn, hI, idx_row _ yr er, -op_idxT, le, ce, sz]
            · simp only [List.length_append, List.length_singleton]
              rcases List.mem_append.mp he with q | q
              · have := hwl e (List.mem_cons_of_mem _ q)
                omega
              · obtain ⟨i, h1, h2⟩ := chF_mem.mp (show (e.1, e.2) ∈ chF 0 r p from q)
                rw [h2, List.length_append, List.length_singleton]
                omega) ((chF 0 held []).length + 5 * (rows.length - 0)) [.val (.tup [.int wide, rowsT rows]), .val (heldT held), .val (.int x), .own (.lst ((chF 0 held []).map ent)), .own (.dic (dk tt [])), .no, .no, .no, .no, .no, .no] st (by
      have := chF_len held 0 []
      show _ < 100000
      omega) ⟨rfl, chF 0 held [], [], fun _ => 0, .no, .no, .no, .no, .no, .no, rfl, I0, rfl, by have := chF_len held 0 []; omega, fun e he => by
        have := chF_len held 0 []
        obtain ⟨i, h1, h2⟩ := chF_mem.mp (show (e.1, e.2) ∈ chF 0 held [] from he)
        rw [h2]
        simp
        omega⟩
  have hit : itEval .enum [heldT held] = some ((held.map cT).mapIdx fun i x => T.tup [.int (i : Int), x]) := rfl
  have loop : _ ∨ _ := loop
  have d0 : (T.dic (dk tt [])) = .dic [] := rfl
  rw [d0] at loop
  rcases loop with ⟨p, e, hp⟩ | ⟨ρ, e, hn⟩
  · refine .inl ⟨p, ?_, hp⟩
    simp [b_path_to, b0, hit, c0, setS, freshE, isMut, e]
  · refine .inr ⟨?_, hn⟩
    simp [b_path_to, b0, hit, c0, setS, freshE, isMut, e]
end M
end
/-! M13 -/
section
set_option linter.all false
set_option maxRecDepth 100000
set_option maxHeartbeats 2000000
namespace M
open Q C
open PySem (PyData sizeLine)
/-- values whose kind is plain -/
def Sm : T → Bool
  | .non => true
  | .bl _ => true
  | .int _ => true
  | .str _ => true
  | .tup _ => true
  | .lst _ => true
  | _ => false
def betB (l m : Int) : T → Bool
  | .int i => decide (l ≤ i) && decide (i ≤ m)
  | _ => false
theorem between_ok (P n : Nat) (t : T) (l m : Int) (st : Store) (h : Sm t = true) : CL P (n + 1) 0 [t, .int l, .int m] [] st = .ok (.bl (betB l m t)) st := by
  cases t with
  | int i => exact between_int P n i l m st
  | non => rw [cl0]; simp [b_is_between, opEval, tyOf, isK, isK1, betB]
  | bl b => rw [cl0]; simp [b_is_between, opEval, tyOf, isK, isK1, betB]
  | str s => rw [cl0]; simp [b_is_between, opEval, tyOf, isK, isK1, betB]
  | tup xs => rw [cl0]; simp [b_is_between, opEval, tyOf, isK, isK1, betB]
  | lst xs => rw [cl0]; simp [b_is_between, opEval, tyOf, isK, isK1, betB]
  | dic _ => cases h
  | ref _ => cases h
  | scr _ => cases h
  | tab _ _ => cases h
def heldB (N : Int) (t : T) : Bool := isNonT t || betB 0 (N - 1) t
theorem held_ok (P n : Nat) (t : T) (N : Int) (st : Store) (h : Sm t = true) : CL P (n + 2) 1 [t, .int N] [] st = .ok (.bl (heldB N t)) st := by
  rw [cl1]
  have b := between_ok P n t 0 (N - 1) st h
  by_cases c : isNonT t = true
  · simp [b_is_held, c, heldB]
  · simp [b_is_held, c, heldB, b]
theorem blsOf_map {α : Type} (f : α → Bool) : ∀ l : List α, blsOf (l.map fun x => T.bl (f x)) = some (l.map f)
  | [] => rfl
  | x :: l => by simp [blsOf, blsOf_map f l]
theorem op_all {α : Type} (st : Store) (f : α → Bool) (l : List α) : opEval st .all [.lst (l.map fun x => T.bl (f x))] = some (.bl (l.all f)) := by
  show (some (l.map fun x => T.bl (f x))).bind (fun xs => (blsOf xs).map fun bs => T.bl (bs.all id)) = _
  rw [Option.bind_some, blsOf_map]
  show some (T.bl ((l.map f).all id)) = _
  rw [List.all_map]
  rfl
@[simp] theorem isi_tupT (st : Store) (xs : List T) : opEval st (.isi .tuple) [.tup xs] = some (.bl true) := nr rfl
@[simp] theorem isi_tupL (st : Store) (xs : List T) : opEval st (.isi .tuple) [.lst xs] = some (.bl false) := nr rfl
@[simp] theorem isi_tupN (st : Store) : opEval st (.isi .tuple) [.non] = some (.bl false) := nr rfl
@[simp] theorem isi_seqT (st : Store) (xs : List T) : opEval st (.isi .seq) [.tup xs] = some (.bl true) := nr rfl
@[simp] theorem isi_seqL (st : Store) (xs : List T) : opEval st (.isi .seq) [.lst xs] = some (.bl true) := nr rfl
/-! ### is_heap -/
theorem cl3 (P n : Nat) (a : T) (st : Store) : CL P (n + 1) 3 [a] [] st = finish (evalSs (CL P n) (HR P) WN b_is_heap [.val a, .no, .no, .no, .no] st) := rfl
def ihB : List S := [.iff (.bor [(.not (.op (.isi .tuple) [(.var 1)])), (.op .ne [(.op .len [(.var 1)]), (.var 2)])]) [.ret (.con (.bl false))] [],
      .iff (.not (.op .all [(.comp (.nm 4) .seq [(.var 1)] [] (.call 1 [(.var 4), (.op .len [(.var 3)])] [] []))])) [.ret (.con (.bl false))] []]
def okF (w N : Int) : T → Bool
  | .tup cs => decide ((cs.length : Int) = w) && cs.all (heldB N)
  | _ => false
def Ck : T → Bool
  | .tup cs => cs.all Sm
  | .lst _ => true
  | _ => false
theorem ih_loop (P n : Nat) (a : T) (w : Int) (os : List T) (st : Store) : ∀ (fs : List T) (s1 : Slot), (∀ f ∈ fs, Ck f = true) → ∃ s1', forE (CL P (n + 2)) (HR P) WN (.nm 1) ihB fs [.val a, s1, .val (.int w), .val (.tup os), .no] st = if fs.all (okF w os.length) then .nx [.val a, s1', .val (.int w), .val (.tup os), .no] st else .rt (.bl false) st
  | [], s1, _ => ⟨s1, by simp [forE_nil]⟩
  | f :: fs, s1, h => by
    obtain ⟨s1', e⟩ := ih_loop P n a w os st fs (.val f) fun g hg => h g (List.mem_cons_of_mem _ hg)
    have hf := h f List.mem_cons_self
    have step : asgR (assign (.nm 1) f [.val a, s1, .val (.int w), .val (.tup os), .no]) (fun ρ' => evalSs (CL P (n + 2)) (HR P) WN ihB ρ' st) = if okF w os.length f then .nx [.val a, .val f, .val (.int w), .val (.tup os), .no] st else .rt (.bl false) st := by
      cases f with
      | lst xs => simp [ihB, okF]
      | tup cs =>
        have hf : cs.all Sm = true := hf
        have c : cmpE (CL P (n + 2)) (HR P) (.nm 4) [] (.call 1 [(.var 4), (.op .len [(.var 3)])] [] []) [.val a, .val (.tup cs), .val (.int w), .val (.tup os), .no] cs st = .ok (cs.map fun t => T.bl (heldB os.length t)) st := by
          refine cmp_map (fun t => T.bl (heldB os.length t)) fun t ht => ?_
          have := held_ok P n t os.length st (List.all_eq_true.mp hf t ht)
          simp [this]
        by_cases d : (cs.length : Int) = w
        · by_cases d2 : cs.all (heldB os.length) = true
          · simp [ihB, okF, d, c, op_all, d2]
          · simp [ihB, okF, d, c, op_all, d2]
        · simp [ihB, okF, d]
      | _ => cases hf
    by_cases c : okF w os.length f = true
    · refine ⟨s1', ?_⟩
      rw [if_pos c] at step
      rw [forE_cons step, e, List.all_cons, c, Bool.true_and]
    · refine ⟨s1', ?_⟩
      rw [if_neg c] at step
      have c2 : okF w os.length f = false := by simpa using c
      rw [List.all_cons, c2, Bool.false_and, if_neg (by decide)]
      show forL _ (f :: fs) _ st = _
      unfold forL
      rw [step]
theorem heap_ok (P n : Nat) (w : Int) (os : List T) (st : Store) (hw : 1 ≤ w ∧ w ≤ 4) (hl : os.length ≤ 40) (h : ∀ f ∈ os, Ck f = true) : CL P (n + 3) 3 [.tup [.int w, .tup os]] [] st = .ok (.bl (os.all (okF w os.length))) st := by
  rw [cl3]
  have b : CL P (n + 2) 0 [.int w, .int 1, .int 4] [] st = .ok (.bl true) st := by
    rw [between_int]; simp [hw.1, hw.2]
  obtain ⟨s1, e⟩ := ih_loop P n (.tup [.int w, .tup os]) w os st os .no h
  have be : b_is_heap = [b_is_heap.headD .pas, .tas (.tp [(.nm 2), (.nm 3)]) (.var 0), .iff (.bor [(.not (.op (.isi .tuple) [(.var 3)])), (.op .gt [(.op .len [(.var 3)]), (.con (.int 40))])]) [.ret (.con (.bl false))] [], .for (.nm 1) .seq [(.var 3)] ihB, .ret (.con (.bl true))] := rfl
  have hl2 : ¬ (40 : Int) < os.length := by omega
  rw [be]
  by_cases c : os.all (okF w os.length) = true
  · rw [if_pos c] at e
    rw [c]
    simp [b_is_heap, b, hl2, e]
  · rw [if_neg c] at e
    have c2 : os.all (okF w os.length) = false := by simpa using c
    rw [c2]
    simp [b_is_heap, b, hl2, e]
theorem heap_big (P n : Nat) (w : Int) (os : List T) (st : Store) (hl : 40 < os.length) : CL P (n + 3) 3 [.tup [.int w, .tup os]] [] st = .ok (.bl false) st := by
  rw [cl3]
  have b : CL P (n + 2) 0 [.int w, .int 1, .int 4] [] st = .ok (.bl (betB 1 4 (.int w))) st := between_ok P _ _ _ _ st rfl
  have hl2 : (40 : Int) < os.length := by omega
  by_cases c : betB 1 4 (.int w) = true
  · simp [b_is_heap, b, c, hl2]
  · simp [b_is_heap, b, c]
theorem heap_no (P n : Nat) (t : T) (st : Store) (h : (∃ xs, t = .lst xs) ∨ t = .non ∨ (∃ xs, t = .tup xs ∧ xs.length ≠ 2) ∨ (∃ a o, t = .tup [a, o] ∧ Sm a = true ∧ betB 1 4 a = false) ∨ ∃ w xs, t = .tup [.int w, .lst xs]) : CL P (n + 3) 3 [t] [] st = .ok (.bl false) st := by
  rw [cl3]
  rcases h with ⟨xs, rfl⟩ | rfl | ⟨xs, rfl, h⟩ | ⟨a, o, rfl, h1, h2⟩ | ⟨w, xs, rfl⟩
  · simp [b_is_heap]
  · simp [b_is_heap]
  · have h2 : ¬ (xs.length : Int) = 2 := by omega
    simp [b_is_heap, h2]
  · have b := between_ok P (n + 1) a 1 4 st h1
    rw [h2] at b
    simp [b_is_heap, b]
  · have b : CL P (n + 2) 0 [.int w, .int 1, .int 4] [] st = .ok (.bl (betB 1 4 (.int w))) st := between_ok P _ _ _ _ st rfl
    by_cases c : betB 1 4 (.int w) = true
    · simp [b_is_heap, b, c]
    · simp [b_is_heap, b, c]
/-! ### is_registers -/
theorem cl14 (P n : Nat) (a b : T) (st : Store) : CL P (n + 1) 14 [a, b] [] st = finish (evalSs (CL P n) (HR P) WN b_is_registers [.val a, .val b, .no] st) := rfl
theorem regs_ok (P n : Nat) (w : T) (os cs : List T) (st : Store) (h : cs.all Sm = true) : CL P (n + 3) 14 [.tup [w, .tup os], .tup cs] [] st = .ok (.bl (decide (1 ≤ cs.length ∧ cs.length ≤ 6) && cs.all (heldB os.length))) st := by
  rw [cl14]
  have c : cmpE (CL P (n + 2)) (HR P) (.nm 2) [] (.call 1 [(.var 2), (.op .len [(.op .idx [(.var 0), (.con (.int 1))])])] [] []) [.val (.tup [w, .tup os]), .val (.tup cs), .no] cs st = .ok (cs.map fun t => T.bl (heldB os.length t)) st := by
    refine cmp_map (fun t => T.bl (heldB os.length t)) fun t ht => ?_
    have := held_ok P n t os.length st (List.all_eq_true.mp h t ht)
    simp [this]
  by_cases c1 : 1 ≤ cs.length
  · by_cases c2 : cs.length ≤ 6
    · have e1 : (1 : Int) ≤ cs.length := by omega
      have e2 : (cs.length : Int) ≤ 6 := by omega
      simp [b_is_registers, e1, e2, c, op_all, c1, c2]
    · have e1 : (1 : Int) ≤ cs.length := by omega
      have e2 : ¬ (cs.length : Int) ≤ 6 := by omega
      simp [b_is_registers, e1, e2, c2]
  · have e1 : ¬ (1 : Int) ≤ cs.length := by omega
    simp [b_is_registers, e1, c1]
theorem regs_no (P n : Nat) (a t : T) (st : Store) (h : (∃ xs, t = .lst xs) ∨ t = .non) : CL P (n + 3) 14 [a, t] [] st = .ok (.bl false) st := by
  rw [cl14]
  rcases h with ⟨xs, rfl⟩ | rfl
  · simp [b_is_registers]
  · simp [b_is_registers]
/-! ### errors that are heard -/
theorem path_ex (P n : Nat) (w : T) (os : List T) (held t : T) (st : Store) (h : Sm t = true) (h2 : betB 0 (os.length - 1) t = false) : CL P (n + 2) 19 [.tup [w, .tup os], held, t] [] st = .ex ⟨"NoObject", [t]⟩ st := by
  rw [cl19]
  have b := between_ok P n t 0 ((os.length : Int) - 1) st h
  rw [h2] at b
  simp [b_path_to, b]
theorem hear_obj (P : Nat) (st st' : Store) (t : T) : HR P 0 (.tab P tqL :: st) (.ex ⟨"NoObject", [t]⟩ st') = .ok (.tup [.str "object", t]) st' := by
  show (if P = P ∧ tqL = tqL then (if (Exn.cls ⟨"NoObject", [t]⟩) ∈ nmH then lift (evCl flF ⟨"NoObject", [t]⟩ clH) st' else .bad) else .bad) = _
  rw [if_pos ⟨rfl, rfl⟩, if_pos (show ("NoObject" : PySem.Str) ∈ nmH by decide +kernel)]
  rfl
theorem hear_heap (P : Nat) (st st' : Store) : HR P 0 (.tab P tqL :: st) (.ex ⟨"InvalidHeap", []⟩ st') = .ok (.tup [.str "heap"]) st' := by
  show (if P = P ∧ tqL = tqL then (if (Exn.cls ⟨"InvalidHeap", []⟩) ∈ nmH then lift (evCl flF ⟨"InvalidHeap", []⟩ clH) st' else .bad) else .bad) = _
  rw [if_pos ⟨rfl, rfl⟩, if_pos (show ("InvalidHeap" : PySem.Str) ∈ nmH by decide +kernel)]
  rfl
end M
end
/-! M14 -/
section
set_option linter.all false
set_option maxRecDepth 100000
set_option maxHeartbeats 2000000
namespace M
open Q C
open PySem (PyData sizeLine)
theorem cl2 (P n : Nat) (a b : T) (st : Store) : CL P (n + 1) 2 [a, b] [] st = finish (evalSs (CL P n) (HR P) WN b_padded [.val a, .val b] st) := rfl
/-- a list or a tuple -/
def sq : Bool × List T → T
  | (true, xs) => .lst xs
  | (false, xs) => .tup xs
def padL (w : Int) (xs : List T) : List T := xs ++ List.replicate (w.toNat - xs.length) .non
theorem pad_ok (P n : Nat) (f : Bool × List T) (w : Int) (st : Store) (h1 : f.2.length ≤ 100) (h2 : -100 ≤ w ∧ w ≤ 100) : CL P (n + 1) 2 [sq f, .int w] [] st = .ok (.tup (padL w f.2)) st := by
  rw [cl2]
  obtain ⟨b, xs⟩ := f
  have h1 : xs.length ≤ 100 := h1
  have m : opEval st .mul [.tup [.non], .int (w - xs.length)] = some (.tup (List.replicate (w.toNat - xs.length) .non)) := by
    rw [mulU_ok st [.non] (w - xs.length) (by simp; omega) (by omega) (by omega), flat_one, show (w - (xs.length : Int)).toNat = w.toNat - xs.length by omega]
  have a : opEval st .add [.tup xs, .tup (List.replicate (w.toNat - xs.length) .non)] = some (.tup (padL w xs)) := op_addT st _ _ (by rw [szl]; simp; omega)
  cases b
  · simp [b_padded, sq, m, a]
  · simp [b_padded, sq, m, a]
def mkB2 : List S := b_make_heap.drop 2
theorem mk_eq : mkB2 = [.iff (.not (.call 0 [(.var 0), (.con (.int 1)), (.con (.int 4))] [] [])) [.rse "InvalidHeap" []] [],
      .ass 2 (.tup [(.var 0), (.op .tuple [(.comp (.nm 3) .seq [(.var 1)] [] (.call 2 [(.var 3), (.var 0)] [] []))])]),
      .iff (.not (.call 3 [(.var 2)] [] [])) [.rse "InvalidHeap" []] [],
      .ret (.var 2)] := rfl
def mkO (w : Int) (fs : List (Bool × List T)) : List T := fs.map fun f => .tup (padL w f.2)
/-- behind the width -/
theorem mk_rest (P n : Nat) (w : Int) (fs : List (Bool × List T)) (st : Store) (hw : 1 ≤ w ∧ w ≤ 4) (hl : fs.length ≤ 40) (hf : ∀ f ∈ fs, f.2.length ≤ 100 ∧ f.2.all Sm = true) : finish (evalSs (CL P (n + 3)) (HR P) WN mkB2 [.val (.int w), .val (.tup (fs.map sq)), .no, .no] st) = if (mkO w fs).all (okF w fs.length) then .ok (.tup [.int w, .tup (mkO w fs)]) st else .ex ⟨"InvalidHeap", []⟩ st := by
  have b : CL P (n + 3) 0 [.int w, .int 1, .int 4] [] st = .ok (.bl true) st := by
    rw [between_int]; simp [hw.1, hw.2]
  have c : cmpE (CL P (n + 3)) (HR P) (.nm 3) [] (.call 2 [(.var 3), (.var 0)] [] []) [.val (.int w), .val (.tup (fs.map sq)), .no, .no] (fs.map sq) st = .ok (mkO w fs) st := by
    have key := cmp_map (call := CL P (n + 3)) (hear := HR P) (tg := .nm 3) (cs := []) (elt := .call 2 [(.var 3), (.var 0)] [] []) (ρ := [.val (.int w), .val (.tup (fs.map sq)), .no, .no]) (fun t => match t with | .lst xs => .tup (padL w xs) | .tup xs => .tup (padL w xs) | _ => .non) (st := st) (xs := fs.map sq) fun t ht => by
      obtain ⟨f, hf2, rfl⟩ := List.mem_map.mp ht
      have := pad_ok P (n + 2) f w st (hf f hf2).1 ⟨by omega, by omega⟩
      obtain ⟨b, xs⟩ := f
      cases b <;> simp [sq] at this ⊢ <;> simp [this]
    rw [key]
    unfold mkO
    rw [List.map_map]
    congr 1
    apply List.map_congr_left
    intro f _
    obtain ⟨b, xs⟩ := f
    cases b <;> rfl
  have ck : ∀ f ∈ mkO w fs, Ck f = true := fun g hg => by
    obtain ⟨f, h1, rfl⟩ := List.mem_map.mp hg
    show (padL w f.2).all Sm = true
    unfold padL
    rw [List.all_append, (hf f h1).2, Bool.true_and, List.all_eq_true]
    intro x hx
    rw [(List.mem_replicate.mp hx).2]; rfl
  have hh := heap_ok P n w (mkO w fs) st hw (by unfold mkO; simpa using hl) ck
  have ml : (mkO w fs).length = fs.length := by simp [mkO]
  rw [ml] at hh
  rw [mk_eq]
  by_cases d : (mkO w fs).all (okF w fs.length) = true
  · rw [d] at hh
    simp [b, c, setS, hh, d]
  · have d2 : (mkO w fs).all (okF w fs.length) = false := by simpa using d
    rw [d2] at hh
    simp [b, c, setS, hh, d2]
theorem mk_bad (P n : Nat) (t : T) (fs : List T) (st : Store) (h : Sm t = true) (h2 : betB 1 4 t = false) : finish (evalSs (CL P (n + 3)) (HR P) WN mkB2 [.val t, .val (.tup fs), .no, .no] st) = .ex ⟨"InvalidHeap", []⟩ st := by
  have b := between_ok P (n + 2) t 1 4 st h
  rw [h2] at b
  rw [mk_eq]
  simp [b]
theorem mk_all (P n : Nat) (fs : List (Bool × List T)) (s0 : Slot) (st : Store) : evalS (CL P n) (HR P) WN (b_make_heap.headD .pas) [s0, .val (.tup (fs.map sq)), .no, .no] st = .nx [s0, .val (.tup (fs.map sq)), .no, .no] st := by
  have c : cmpE (CL P n) (HR P) (.nm 3) [] (.op (.isi .seq) [(.var 3)]) [s0, .val (.tup (fs.map sq)), .no, .no] (fs.map sq) st = .ok ((fs.map sq).map fun _ => T.bl true) st := by
    refine cmp_map (fun _ => T.bl true) fun t ht => ?_
    obtain ⟨f, _, rfl⟩ := List.mem_map.mp ht
    obtain ⟨b, xs⟩ := f
    cases b <;> simp [sq]
  have a := op_all st (fun _ : T => true) (fs.map sq)
  have tr : (fs.all fun _ => true) = true := List.all_eq_true.mpr fun _ _ => rfl
  simp at a c
  simp [b_make_heap, c, a, tr]
theorem mk_eq2 : b_make_heap = b_make_heap.headD .pas :: .iff (.op .isN [(.var 0)]) [.ass 0 (.op .maxL [(.op .add [(.lst [(.con (.int 1))]), (.comp (.nm 3) .seq [(.var 1)] [] (.op .len [(.var 3)]))])])] [] :: mkB2 := rfl
theorem mk_given (P n : Nat) (t : T) (fs : List (Bool × List T)) (st : Store) (h : isNonT t = false) : evalSs (CL P n) (HR P) WN b_make_heap [.val t, .val (.tup (fs.map sq)), .no, .no] st = evalSs (CL P n) (HR P) WN mkB2 [.val t, .val (.tup (fs.map sq)), .no, .no] st := by
  have := mk_all P n fs (.val t) st
  rw [mk_eq2]
  generalize mkB2 = b2
  rw [ss_cons, this]
  simp [h]
def lens (fs : List (Bool × List T)) : List Int := fs.map fun f => (f.2.length : Int)
theorem op_maxL (st : Store) (is : List Int) (h : is ≠ []) : opEval st .maxL [.lst (is.map T.int)] = some (.int (maxI is)) := by
  show (some (is.map T.int)).bind (fun xs => (intsOf xs).bind fun is => if is = [] then none else some (T.int (maxI is))) = _
  rw [Option.bind_some, intsOf_map, Option.bind_some, if_neg h]
theorem maxI_ge : ∀ (is : List Int) (x : Int), x ∈ is → x ≤ maxI is
  | [], _, h => by simp at h
  | [a], x, h => by simp at h; subst h; exact Int.le_refl _
  | a :: b :: r, x, h => by
    have ih := maxI_ge (b :: r)
    show x ≤ (if maxI (b :: r) > a then maxI (b :: r) else a)
    rcases List.mem_cons.mp h with q | q
    · split <;> omega
    · have := ih x q
      split <;> omega
theorem maxI_mem : ∀ (is : List Int), is ≠ [] → maxI is ∈ is
  | [], h => absurd rfl h
  | [a], _ => List.mem_cons_self
  | a :: b :: r, _ => by
    have ih := maxI_mem (b :: r) (by simp)
    show (if maxI (b :: r) > a then maxI (b :: r) else a) ∈ _
    split
    · exact List.mem_cons_of_mem _ ih
    · exact List.mem_cons_self
theorem lens_comp (call hear) (fs : List (Bool × List T)) (ρ : Env) (j : Nat) (st : Store) (hj : j < ρ.length) : cmpE call hear (.nm j) [] (.op .len [(.var j)]) ρ (fs.map sq) st = .ok ((lens fs).map T.int) st := by
  have key := cmp_map (call := call) (hear := hear) (tg := .nm j) (cs := []) (elt := .op .len [.var j]) (ρ := ρ) (fun t => match t with | .lst xs => .int xs.length | .tup xs => .int xs.length | _ => .non) (st := st) (xs := fs.map sq) fun t ht => by
    obtain ⟨f, _, rfl⟩ := List.mem_map.mp ht
    obtain ⟨b, xs⟩ := f
    have e1 : ∀ t : T, slotV (ρ.set j (.val t)) j = some t := fun t => by unfold slotV; rw [List.getElem?_set_self hj]
    have e2 : ∀ t : T, slotO (ρ.set j (.val t)) j = none := fun t => by unfold slotO; rw [List.getElem?_set_self hj]
    cases b <;> simp [sq, hj, e1, e2]
  rw [key]
  unfold lens
  rw [List.map_map, List.map_map]
  congr 1
  apply List.map_congr_left
  intro f _
  obtain ⟨b, xs⟩ := f
  cases b <;> rfl
theorem mk_dflt (P n : Nat) (fs : List (Bool × List T)) (st : Store) (hl : fs.length ≤ 40) : evalSs (CL P n) (HR P) WN b_make_heap [.val .non, .val (.tup (fs.map sq)), .no, .no] st = evalSs (CL P n) (HR P) WN mkB2 [.val (.int (maxI (1 :: lens fs))), .val (.tup (fs.map sq)), .no, .no] st := by
  have := mk_all P n fs (.val .non) st
  have c := lens_comp (CL P n) (HR P) fs [.val .non, .val (.tup (fs.map sq)), .no, .no] 3 st (by simp)
  have a : opEval st .add [.lst [.int 1], .lst ((lens fs).map T.int)] = some (.lst ((1 :: lens fs).map T.int)) := op_addL st _ _ (by rw [szl]; simp [lens]; omega)
  have m := op_maxL st (1 :: lens fs) (by simp)
  rw [mk_eq2]
  generalize mkB2 = b2
  rw [ss_cons, this]
  simp at a m
  simp [c, a, m, setS]
theorem cl21 (P n : Nat) (a b c d w : T) (st : Store) : CL P (n + 1) 21 [a, b, c, d] [w] st = finish (evalSs (CL P n) (HR P) WN b_make_heap [.val w, .val (.tup [a, b, c, d]), .no, .no] st) := rfl
theorem cl22 (P n : Nat) (a b c d : T) (st : Store) : CL P (n + 1) 22 [a, b, c, d] [] st = finish (evalSs (CL P n) (HR P) WN b_make_heap [.val .non, .val (.tup [a, b, c, d]), .no, .no] st) := rfl
theorem cl23 (P n : Nat) (w : T) (st : Store) : CL P (n + 1) 23 [] [w] st = finish (evalSs (CL P n) (HR P) WN b_make_heap [.val w, .val (.tup []), .no, .no] st) := rfl
theorem cl24 (P n : Nat) (st : Store) : CL P (n + 1) 24 [] [] st = finish (evalSs (CL P n) (HR P) WN b_make_heap [.val .non, .val (.tup []), .no, .no] st) := rfl
theorem cl25 (P n : Nat) (a b c : T) (st : Store) : CL P (n + 1) 25 [a, b, c] [] st = finish (evalSs (CL P n) (HR P) WN b_make_heap [.val .non, .val (.tup [a, b, c]), .no, .no] st) := rfl
theorem mk_big (w : Int) (fs : List (Bool × List T)) (N : Int) (hw : 0 ≤ w) (h : ∃ f ∈ fs, w < (f.2.length : Int)) : (mkO w fs).all (okF w N) = false := by
  obtain ⟨f, hf, hl⟩ := h
  cases e : (mkO w fs).all (okF w N) with
  | false => rfl
  | true =>
    have := List.all_eq_true.mp e (.tup (padL w f.2)) (List.mem_map.mpr ⟨f, hf, rfl⟩)
    have this : (decide (((padL w f.2).length : Int) = w) && (padL w f.2).all (heldB N)) = true := this
    rw [Bool.and_eq_true] at this
    have := of_decide_eq_true this.1
    unfold padL at this
    rw [List.length_append, List.length_replicate] at this
    omega
/-! ### the end of the law -/
theorem end_ok (P n : Nat) (st : Store) : CL P (n + 4) 23 [] [.int 3] st = .ok (.tup [.int 3, .tup []]) st ∧ CL P (n + 4) 24 [] [] st = .ok (.tup [.int 1, .tup []]) st ∧ CL P (n + 4) 25 [.lst [], .tup [], .lst [.int 0]] [] st = .ok (.tup [.int 1, .tup [.tup [.non], .tup [.non], .tup [.int 0]]]) st := by
  refine ⟨?_, ?_, ?_⟩
  · rw [cl23]
    have := mk_given P (n + 3) (.int 3) [] st rfl
    rw [show (T.tup []) = T.tup (([] : List (Bool × List T)).map sq) from rfl, this, mk_rest P n 3 [] st (by decide) (by simp) (by simp)]
    rfl
  · rw [cl24]
    have := mk_dflt P (n + 3) [] st (by simp)
    rw [show (T.tup []) = T.tup (([] : List (Bool × List T)).map sq) from rfl, this, mk_rest P n (maxI (1 :: lens [])) [] st (by decide) (by simp) (by simp)]
    rfl
  · rw [cl25]
    have := mk_dflt P (n + 3) [(true, []), (false, []), (true, [.int 0])] st (by simp)
    rw [show (T.tup [T.lst [], T.tup [], T.lst [T.int 0]]) = T.tup (([(true, []), (false, []), (true, [.int 0])] : List (Bool × List T)).map sq) from rfl, this, mk_rest P n (maxI (1 :: lens [(true, []), (false, []), (true, [.int 0])])) _ st (by decide) (by simp) (by simp [Sm])]
    rfl
end M
end
/-! M15 -/
section
set_option linter.all false
set_option maxRecDepth 100000
set_option maxHeartbeats 2000000
namespace M
open Q C
open PySem (PyData sizeLine)
/-! ### the law's own parts -/
def L1 : S := .tas (.tp [(.nm 7), (.nm 8)]) (.call 10 [(.var 1), (.con (.int 40))] [] [])
def L2 : S := .par [(9, false), (10, false)] [(.op .idx [(.var 7), (.con (.int 1))]), (.op .len [(.op .idx [(.var 7), (.con (.int 1))])])]
def L3 : S := .par [(11, false), (12, false)] [(.op .tuple [(.call 11 [(.var 9), (.var 8)] [] [])]), (.call 12 [(.var 9), (.var 8)] [] [])]
def L4 : S := .iff (.bor [(.op .ne [(.call 5 [(.var 7), (.var 8)] [] []), (.var 11)]), (.op .ne [(.call 13 [(.var 7), (.var 8)] [] []), (.op .tuple [(.comp (.nm 3) .rng1 [(.var 10)] [(.op .notIn [(.var 3), (.var 11)])] (.var 3))])]), (.op (.notB true) [(.call 3 [(.var 7)] [] [])]), (.op (.notB true) [(.call 14 [(.var 7), (.var 8)] [] [])])]) [.ret (.con (.bl false))] []
def L5 : S := .iff (.op .gt [(.var 10), (.con (.int 0))]) [.ass 13 (.comp (.nm 21) .rng1 [(.con (.int 3))] [] (.call 6 [(.var 1), (.var 10)] [] [])),
      .ass 14 (.op .tuple [(.op .setSort [(.op .catAll [(.comp (.nm 3) .seq [(.var 13)] [] (.op .list [(.call 15 [(.var 7), (.var 3)] [] [])]))])])]),
      .iff (.bor [(.op .ne [(.call 16 [(.var 7), (.op .idx [(.var 13), (.con (.int 0))]), (.op .idx [(.var 13), (.con (.int 1))]), (.op .idx [(.var 13), (.con (.int 2))])] [] []), (.var 14)]), (.op .ne [(.call 17 [(.var 7), (.op .idx [(.var 13), (.con (.int 2))]), (.op .idx [(.var 13), (.con (.int 2))]), (.op .idx [(.var 13), (.con (.int 0))]), (.op .idx [(.var 13), (.con (.int 1))]), (.op .idx [(.var 13), (.con (.int 0))])] [] []), (.var 14)]), (.op .ne [(.var 14), (.op .tuple [(.call 11 [(.var 9), (.var 13)] [] [])])])]) [.ret (.con (.bl false))] []] []
def L6 : S := .iff (.bor [(.op .ne [(.call 18 [(.var 7)] [] []), (.tup [])]), (.op .ne [(.call 5 [(.var 7), (.op .add [(.var 8), (.slc (.var 8) [] [(.op .sub [(.con (.int 6)), (.op .len [(.var 8)])])])])] [] []), (.var 11)])]) [.ret (.con (.bl false))] []
def L7 : S := .for (.nm 3) .seq [(.slc (.call 20 [(.var 1), (.op .listRange [(.var 10)])] [] []) [] [(.con (.int 8))])] [.ass 15 (.call 19 [(.var 7), (.var 8), (.var 3)] [] []),
      .iff (.op .ne [(.op .isN [(.var 15)]), (.op .notIn [(.var 3), (.var 12)])]) [.ret (.con (.bl false))] [],
      .iff (.op .notN [(.var 15)]) [.par [(22, false), (23, true)] [(.op .idx [(.var 8), (.op .idx [(.var 15), (.con (.int 0))])]), (.lst [(.con (.int 1))])],
      .for (.nm 19) .seq [(.slc (.var 15) [(.con (.int 1))] [])] [.ass 22 (.op .idx [(.op .idx [(.var 9), (.var 22)]), (.var 19)]),
      .app 23 (.op .dget [(.var 12), (.var 22)])],
      .iff (.bor [(.op .ne [(.var 22), (.var 3)]), (.op .ne [(.op .len [(.var 15)]), (.op .dget [(.var 12), (.var 3)])]), (.op .ne [(.var 23), (.op .listRange [(.con (.int 1)), (.op .add [(.op .dget [(.var 12), (.var 3)]), (.con (.int 1))])])])]) [.ret (.con (.bl false))] []] []]
def L8 : S := .ass 4 (.call 7 [(.var 1), (.lst [(.var 10), (.op .neg [(.con (.int 1))]), (.con .non), (.con (.bl true)), (.con (.str "0")), (.tup [(.con (.int 0))]), (.op .pow [(.con (.int 10)), (.con (.int 20))])])] [] [])
def L9 : S := .iff (.op .ne [(.heard 0 (.call 19 [(.var 7), (.var 8), (.var 4)] [] [])), (.tup [(.con (.str "object")), (.var 4)])]) [.ret (.con (.bl false))] []
def L10 : S := .iff (.op .eq [(.var 10), (.con (.int 4))]) [.own 16 (.lst []),
      .for (.nm 17) .seq [(.var 9)] [.ass 20 (.op .maxL [(.op .add [(.comp (.tp [(.nm 19), (.nm 25)]) .enum [(.var 17)] [(.op .notN [(.var 25)])] (.op .add [(.var 19), (.con (.int 1))])), (.lst [(.con (.int 0))])])]),
      .app 16 (.call 7 [(.var 1), (.lst [(.op .list [(.slc (.var 17) [] [(.var 20)])]), (.op .tuple [(.slc (.var 17) [] [(.var 20)])]), (.var 17)])] [] [])],
      .ass 18 (.op .maxL [(.op .add [(.lst [(.con (.int 1))]), (.comp (.nm 17) .seq [(.var 16)] [] (.op .len [(.var 17)]))])]),
      .iff (.bor [(.op .ne [(.call 21 [(.op .idx [(.var 16), (.con (.int 0))]), (.op .idx [(.var 16), (.con (.int 1))]), (.op .idx [(.var 16), (.con (.int 2))]), (.op .idx [(.var 16), (.con (.int 3))])] [] [(.op .idx [(.var 7), (.con (.int 0))])]), (.var 7)]), (.band [(.op .eq [(.var 18), (.op .idx [(.var 7), (.con (.int 0))])]), (.op .ne [(.call 22 [(.op .idx [(.var 16), (.con (.int 0))]), (.op .idx [(.var 16), (.con (.int 1))]), (.op .idx [(.var 16), (.con (.int 2))]), (.op .idx [(.var 16), (.con (.int 3))])] [] []), (.var 7)])])]) [.ret (.con (.bl false))] [],
      .frz 16,
      .for (.nm 4) .seq [(.tup [(.con (.int 0)), (.con (.int 5)), (.con (.bl true)), (.con (.str "2")), (.op .sub [(.var 18), (.con (.int 1))])])] [.iff (.band [(.op .ne [(.comp (.nm 17) .seq [(.var 16)] [(.op .gt [(.op .len [(.var 17)]), (.op .sub [(.var 18), (.con (.int 1))])])] (.op .len [(.var 17)])), (.lst [])]), (.op .ne [(.heard 0 (.call 21 [(.op .idx [(.var 16), (.con (.int 0))]), (.op .idx [(.var 16), (.con (.int 1))]), (.op .idx [(.var 16), (.con (.int 2))]), (.op .idx [(.var 16), (.con (.int 3))])] [] [(.var 4)])), (.tup [(.con (.str "heap"))])])]) [.ret (.con (.bl false))] []]] []
def L11 : S := .own 5 (.lst [(.tup [(.op .idx [(.var 7), (.con (.int 0))]), (.op .list [(.var 9)])]), (.lst [(.op .idx [(.var 7), (.con (.int 0))]), (.var 9)]), (.tup [(.op .idx [(.var 7), (.con (.int 0))])]), (.tup [(.op .idx [(.var 7), (.con (.int 0))]), (.var 9), (.con (.int 0))]), (.tup [(.con (.bl true)), (.var 9)]), (.tup [(.op .idx [(.var 7), (.con (.int 0))]), (.op .add [(.var 9), (.tup [(.op .mul [(.tup [(.con .non)]), (.op .add [(.op .idx [(.var 7), (.con (.int 0))]), (.con (.int 1))])])])])])])
def L12 : S := .app 5 (.tup [(.op .idx [(.var 7), (.con (.int 0))]), (.op .add [(.var 9), (.tup [(.op .add [(.tup [(.op .add [(.var 10), (.con (.int 1))])]), (.op .mul [(.tup [(.con .non)]), (.op .sub [(.op .idx [(.var 7), (.con (.int 0))]), (.con (.int 1))])])])])])])
def L13 : S := .own 5 (.op .add [(.var 5), (.lst [(.tup [(.op .idx [(.var 7), (.con (.int 0))]), (.op .add [(.var 9), (.tup [(.op .mul [(.tup [(.con (.bl false))]), (.op .idx [(.var 7), (.con (.int 0))])])])])]), (.tup [(.op .idx [(.var 7), (.con (.int 0))]), (.op .add [(.var 9), (.tup [(.op .mul [(.lst [(.con .non)]), (.op .idx [(.var 7), (.con (.int 0))])])])])]), (.tup [(.op .idx [(.var 7), (.con (.int 0))]), (.op .mul [(.tup [(.op .mul [(.tup [(.con .non)]), (.op .idx [(.var 7), (.con (.int 0))])])]), (.con (.int 41))])]), (.tup [(.con (.int 5)), (.tup [])]), (.tup [(.con (.int 0)), (.tup [])]), (.con .non)])])
def L14 : S := .iff (.bor [(.op .ne [(.comp (.nm 24) .seq [(.var 5)] [(.op (.notB false) [(.call 3 [(.var 24)] [] [])])] (.var 24)), (.lst [])]), (.op (.notB true) [(.call 3 [(.tup [(.op .idx [(.var 7), (.con (.int 0))]), (.op .mul [(.tup [(.op .mul [(.tup [(.con .non)]), (.op .idx [(.var 7), (.con (.int 0))])])]), (.con (.int 40))])])] [] [])])]) [.ret (.con (.bl false))] []
def L15 : S := .ass 6 (.lst [(.tup []), (.op .add [(.var 8), (.op .mul [(.tup [(.con .non)]), (.op .sub [(.con (.int 7)), (.op .len [(.var 8)])])])]), (.op .add [(.slc (.var 8) [] [(.op .neg [(.con (.int 1))])]), (.tup [(.var 10)])]), (.op .add [(.slc (.var 8) [] [(.op .neg [(.con (.int 1))])]), (.tup [(.op .neg [(.con (.int 1))])])]), (.op .add [(.slc (.var 8) [] [(.op .neg [(.con (.int 1))])]), (.tup [(.con (.bl true))])]), (.op .list [(.var 8)]), (.con .non), (.op .add [(.slc (.var 8) [] [(.op .neg [(.con (.int 1))])]), (.tup [(.con (.str "0"))])])])
def L16 : S := .iff (.bor [(.op .ne [(.comp (.nm 24) .seq [(.var 6)] [(.op (.notB false) [(.call 14 [(.var 7), (.var 24)] [] [])])] (.var 24)), (.lst [])]), (.op (.notB true) [(.call 14 [(.var 7), (.op .mul [(.tup [(.con .non)]), (.con (.int 6))])] [] [])])]) [.ret (.con (.bl false))] []

theorem law_eq : b_law = [.ass 1 (.call 9 [(.var 0)] [] []), .for (.nm 2) .rng1 [(.con (.int 5))] [L1, L2, L3, L4, L5, L6, L7, L8, L9, L10, L11, L12, L13, L14, L15, L16], b_law.getLastD .pas] := rfl
theorem eraseD_nd : ∀ (n : Nat) (l : List Int), l.length ≤ n → l.eraseDups.Nodup
  | _, [], _ => by simp
  | 0, a :: l, h => by simp at h
  | n + 1, a :: l, h => by
    rw [List.eraseDups_cons, List.nodup_cons]
    refine ⟨fun m => ?_, eraseD_nd n _ (by have := List.length_filter_le (fun b => !b == a) l; simp at h; omega)⟩
    have := (List.mem_filter.mp (List.mem_eraseDups.mp m)).2
    simp at this
/-! slots -/
theorem sv_ne {ρ : Env} {i j : Nat} {s : Slot} (h : i ≠ j) : slotV (ρ.set i s) j = slotV ρ j := by unfold slotV; rw [List.getElem?_set_ne h]
theorem sv_eq {ρ : Env} {i : Nat} {t : T} (h : i < ρ.length) : slotV (ρ.set i (.val t)) i = some t := by unfold slotV; rw [List.getElem?_set_self h]
theorem so_eq {ρ : Env} {i : Nat} {t : T} (h : i < ρ.length) : slotO (ρ.set i (.own t)) i = some t := by unfold slotO; rw [List.getElem?_set_self h]
theorem so_ne {ρ : Env} {i j : Nat} {s : Slot} (h : i ≠ j) : slotO (ρ.set i s) j = slotO ρ j := by unfold slotO; rw [List.getElem?_set_ne h]
theorem so_none {ρ : Env} {j : Nat} {t : T} (h : slotV ρ j = some t) : slotO ρ j = none := by
  unfold slotV at h
  unfold slotO
  split at h
  · rename_i e; rw [e]
  · cases h
theorem so_noneV {ρ : Env} {i : Nat} {t : T} (h : i < ρ.length) : slotO (ρ.set i (.val t)) i = none := so_none (sv_eq h)
theorem ne_same {t : T} (h : Dm t) (st : Store) : opEval st .ne [t, t] = some (.bl false) := by
  rw [op_ne, eq_same h]; rfl
theorem dp_tupI (l : List Int) : Dp 1 (.tup (l.map T.int)) := .tup (dp_ints l)
/-- what stands in the turn's frame -/
structure LF (w : WD) (K : List Int) (d : Int → Nat) (KF : List Int) (ρ : Env) : Prop where
  len : ρ.length = 26
  pen : slotV ρ 1 = some (.ref 1)
  heap : slotV ρ 7 = some w.heapT
  held : slotV ρ 8 = some (heldT w.held)
  rows : slotV ρ 9 = some w.rowsT
  many : slotV ρ 10 = some (.int w.rows.length)
  due : slotV ρ 11 = some (.tup ((sortI K).map T.int))
  far : slotV ρ 12 = some (farT d KF)
theorem LF.set {w : WD} {K : List Int} {d : Int → Nat} {KF : List Int} {ρ : Env} (F : LF w K d KF ρ) {i : Nat} {s : Slot} (h : i ≠ 1 ∧ i ≠ 7 ∧ i ≠ 8 ∧ i ≠ 9 ∧ i ≠ 10 ∧ i ≠ 11 ∧ i ≠ 12) : LF w K d KF (ρ.set i s) := by
  obtain ⟨h1, h2, h3, h4, h5, h6, h7⟩ := h
  exact ⟨by simpa using F.len, (sv_ne h1).trans F.pen, (sv_ne h2).trans F.heap, (sv_ne h3).trans F.held, (sv_ne h4).trans F.rows, (sv_ne h5).trans F.many, (sv_ne h6).trans F.due, (sv_ne h7).trans F.far⟩
/-- of a good world -/
theorem Good.gr {w : WD} (g : Good w) : Gr w.rows := ⟨g.m, fun r hr => by rw [(g.row r hr).1]; exact g.w4, fun r hr i hi => (g.row r hr).2 i hi⟩
structure LW (w : WD) (K : List Int) (d : Int → Nat) (KF : List Int) : Prop where
  g : Good w
  k : IsR w.rows (hs w.held) K
  f : IsFar w.rows (hs w.held) KF d
theorem sm_c (r : List (Option Int)) : (r.map cT).all Sm = true := by
  rw [List.all_map, List.all_eq_true]
  intro o _
  cases o <;> rfl
theorem held_c {N : Int} {r : List (Option Int)} (h : ∀ i, some i ∈ r → 0 ≤ i ∧ i < N) : (r.map cT).all (heldB N) = true := by
  rw [List.all_map, List.all_eq_true]
  intro o ho
  cases o with
  | none => rfl
  | some i =>
    have := h i ho
    show (false || (decide (0 ≤ i) && decide (i ≤ N - 1))) = true
    rw [decide_eq_true this.1, decide_eq_true (by omega)]; rfl
theorem okF_row {w : WD} (g : Good w) {N : Int} (hN : (w.rows.length : Int) ≤ N) : (w.rows.map rowT).all (okF w.wide N) = true := by
  rw [List.all_map, List.all_eq_true]
  intro r hr
  obtain ⟨h1, h2⟩ := g.row r hr
  show (decide (((r.map cT).length : Int) = (w.wide : Int)) && (r.map cT).all (heldB N)) = true
  rw [held_c (N := N) fun i hi => by have := h2 i hi; omega, List.length_map, h1]
  simp
theorem ck_rows (w : WD) : ∀ f ∈ w.rows.map rowT, Ck f = true := fun f hf => by
  obtain ⟨r, _, rfl⟩ := List.mem_map.mp hf
  exact sm_c r
section
variable (P : Nat) (cells : List Int)
/-- the first three statements -/
theorem l13 (k : Nat) (ρ : Env) (st : Store) (hl : ρ.length = 26) (hp : slotV ρ 1 = some (.ref 1)) (h : Pen P cells (k + 600) st) : ∃ w K d KF ρ' st', evalSs (CL P 8) (HR P) WN [L1, L2, L3] ρ st = .nx ρ' st' ∧ LF w K d KF ρ' ∧ LW w K d KF ∧ Pen P cells k st' := by
  obtain ⟨w, st', e, g, p⟩ := world_ok P 5 cells k st h
  have e : CL P 8 10 [.ref 1, .int 40] [] st = .ok (.tup [w.heapT, heldT w.held]) st' := e
  have hin : ∀ i, some i ∈ w.held → InR w.rows i := fun i hi => g.held i hi
  obtain ⟨K, e1, hK⟩ := lreach_ok P 7 g.gr (heldT w.held) w.held rfl hin (by have := g.h6; omega) st'
  obtain ⟨KF, d, e2, hF⟩ := far_ok P 7 g.gr w.held hin st'
  have e1 : CL P 8 11 [w.rowsT, heldT w.held] [] st' = _ := e1
  have e2 : CL P 8 12 [w.rowsT, heldT w.held] [] st' = _ := e2
  let ρ1 := (ρ.set 7 (.val w.heapT)).set 8 (.val (heldT w.held))
  let ρ2 := (ρ1.set 9 (.val w.rowsT)).set 10 (.val (.int w.rows.length))
  let ρ3 := (ρ2.set 11 (.val (.tup ((sortI K).map T.int)))).set 12 (.val (farT d KF))
  have x1 : evalS (CL P 8) (HR P) WN L1 ρ st = .nx ρ1 st' := by
    simp [L1, hp, e, hl, ρ1]
  have v7 : slotV ρ1 7 = some w.heapT := by simp only [ρ1]; rw [sv_ne (by decide), sv_eq (by omega)]
  have v8 : slotV ρ1 8 = some (heldT w.held) := by simp only [ρ1]; rw [sv_eq (by simp; omega)]
  have lr : ∀ st, opEval st .idx [w.heapT, .int 1] = some w.rowsT := fun st => by simp [WD.heapT]
  have x2 : evalS (CL P 8) (HR P) WN L2 ρ1 st' = .nx ρ2 st' := by
    have l1 : ρ1.length = 26 := by simp [ρ1, hl]
    have ln : ∀ st, opEval st .len [w.rowsT] = some (.int w.rows.length) := fun st => by simp [WD.rowsT]
    simp [L2, v7, so_none v7, lr, ln, parSet, l1, ρ2]
  have v9 : slotV ρ2 9 = some w.rowsT := by simp only [ρ2]; rw [sv_ne (by decide), sv_eq (by simp [ρ1, hl])]
  have v8' : slotV ρ2 8 = some (heldT w.held) := by simp only [ρ2]; rw [sv_ne (by decide), sv_ne (by decide)]; exact v8
  have x3 : evalS (CL P 8) (HR P) WN L3 ρ2 st' = .nx ρ3 st' := by
    have l2 : ρ2.length = 26 := by simp [ρ2, ρ1, hl]
    simp [L3, v9, v8', e1, e2, parSet, l2, ρ3]
  refine ⟨w, K, d, KF, ρ3, st', by rw [ss_cons, x1, seqR_nx, ss_cons, x2, seqR_nx, ss_cons, x3, seqR_nx, ss_nil], ?_, ⟨g, hK, hF⟩, p⟩
  refine ⟨by simp [ρ3, ρ2, ρ1, hl], ?_, ?_, ?_, ?_, ?_, ?_, ?_⟩
  · simp only [ρ3, ρ2, ρ1]; rw [sv_ne (by decide), sv_ne (by decide), sv_ne (by decide), sv_ne (by decide), sv_ne (by decide), sv_ne (by decide)]; exact hp
  · simp only [ρ3, ρ2]; rw [sv_ne (by decide), sv_ne (by decide), sv_ne (by decide), sv_ne (by decide)]; exact v7
  · simp only [ρ3]; rw [sv_ne (by decide), sv_ne (by decide)]; exact v8'
  · simp only [ρ3]; rw [sv_ne (by decide), sv_ne (by decide)]; exact v9
  · simp only [ρ3, ρ2]; rw [sv_ne (by decide), sv_ne (by decide), sv_eq (by simp [ρ1, hl])]
  · simp only [ρ3]; rw [sv_ne (by decide), sv_eq (by simp [ρ2, ρ1, hl])]
  · simp only [ρ3]; rw [sv_eq (by simp [ρ2, ρ1, hl])]
theorem unT_dp (N : Nat) (S : List Int) : Dp 1 (.tup (unT N S)) := by
  refine .tup fun x hx => ?_
  unfold unT at hx
  obtain ⟨y, hy, e⟩ := List.mem_filterMap.mp hx
  obtain ⟨i, _, rfl⟩ := List.mem_map.mp hy
  simp only at e
  split at e
  · cases e
  · cases e; exact .int
theorem l4 {w : WD} {K : List Int} {d : Int → Nat} {KF : List Int} {ρ : Env} (F : LF w K d KF ρ) (G : LW w K d KF) (st : Store) : evalS (CL P 8) (HR P) WN L4 ρ st = .nx ρ st := by
  have g := G.g
  have hin : ∀ i, some i ∈ w.held → InR w.rows i := fun i hi => g.held i hi
  obtain ⟨K1, e1, h1⟩ := reachable_ok P 6 w.wide g.gr w.held hin (by have := g.h6; omega) st
  obtain ⟨K2, e2, h2⟩ := unreachable_ok P 5 w.wide g.gr w.held hin (by have := g.h6; omega) st
  rw [h1.sort G.k fun _ => Iff.rfl] at e1
  rw [h2.sort G.k fun _ => Iff.rfl] at e2
  have e1 : CL P 8 5 [w.heapT, heldT w.held] [] st = _ := e1
  have e2 : CL P 8 13 [w.heapT, heldT w.held] [] st = _ := e2
  have e3 := heap_ok P 5 w.wide (w.rows.map rowT) st ⟨by have := g.w1; omega, by have := g.w4; omega⟩ (by simpa using g.m) (ck_rows w)
  rw [okF_row g (by simp)] at e3
  have e3 : CL P 8 3 [w.heapT] [] st = _ := e3
  have e4 := regs_ok P 5 (.int w.wide) (w.rows.map rowT) (w.held.map cT) st (sm_c _)
  have hh : (w.held.map cT).all (heldB ((w.rows.map rowT).length : Nat)) = true := held_c fun i hi => by have := g.held i hi; simpa using this
  rw [hh, List.length_map] at e4
  have hd : decide (1 ≤ w.held.length ∧ w.held.length ≤ 6) = true := decide_eq_true ⟨g.h1, g.h6⟩
  rw [hd] at e4
  have e4 : CL P 8 14 [w.heapT, heldT w.held] [] st = _ := e4
  have rg := rng1 (w.rows.length : Int) (by omega) (by have := g.m; omega)
  have c : cmpE (CL P 8) (HR P) (.nm 3) [.op .notIn [.var 3, .var 11]] (.var 3) ρ ((List.range w.rows.length).map fun (i : Nat) => T.int i) st = .ok (unT w.rows.length (sortI K)) st := by
    refine cmp_pure _ fun x hx => ?_
    obtain ⟨i, _, rfl⟩ := List.mem_map.mp hx
    have h3 : 3 < ρ.length := by rw [F.len]; decide
    have v3 := sv_eq (ρ := ρ) (t := .int (i : Int)) h3
    have v11 : slotV (ρ.set 3 (.val (.int (i : Int)))) 11 = some (.tup ((sortI K).map T.int)) := (sv_ne (by decide)).trans F.due
    by_cases q : (i : Int) ∈ sortI K <;> simp [h3, v3, so_none v3, v11, so_none v11, op_ninT, q]
  have n1 := ne_same (dp_tupI (sortI K)).dm st
  have n2 := ne_same (unT_dp w.rows.length (sortI K)).dm st
  simp at rg
  simp [L4, F.heap, F.held, F.due, so_none F.due, F.many, so_none F.many, e1, -op_ne, n1, e2, rg, c, n2, e3, e4]
end
end M
end
/-! M16 -/
section
set_option linter.all false
set_option maxRecDepth 100000
set_option maxHeartbeats 2000000
namespace M
open Q C
open PySem (PyData sizeLine)
/-! ### reached from several -/
theorem rch_split {rows : Rows} {s : List Int} {x : Int} (h : Rch rows s x) : ∃ y ∈ s, Rch rows [y] x := by
  induction h with
  | src h => exact ⟨_, h, .src (by simp)⟩
  | step _ hx ih =>
    obtain ⟨y, hy, r⟩ := ih
    exact ⟨y, hy, .step r hx⟩
theorem rch_one {rows : Rows} {s : List Int} {x y : Int} (hy : y ∈ s) (h : Rch rows [y] x) : Rch rows s x :=
  rch_mono (fun z hz => by rw [List.mem_singleton.mp hz]; exact .src hy) h
theorem rch_set {rows : Rows} {s1 s2 : List Int} (h : ∀ y, y ∈ s1 ↔ y ∈ s2) (x : Int) : Rch rows s1 x ↔ Rch rows s2 x :=
  ⟨rch_mono fun y hy => .src ((h y).mp hy), rch_mono fun y hy => .src ((h y).mpr hy)⟩
theorem rf1 (P : Nat) {w : WD} (g : Good w) (src : List Int) (hs : ∀ x ∈ src, InR w.rows x) (hl : src.length ≤ 50) (st : Store) :
    ∃ K, finish (evalSs (CL P 7) (HR P) WN b_reach_from [.val w.heapT, .val (.tup (src.map T.int)), .no, .no, .no, .no] st) = .ok (.tup ((sortI K).map T.int)) st ∧ IsR w.rows src K := rf_body P 7 w.wide w.rows src st g.gr hs hl
theorem op_cat3 (st : Store) (a b c : List T) (h : a.length + b.length + c.length ≤ 1000) : opEval st .catAll [.lst [.lst a, .lst b, .lst c]] = some (.lst (a ++ (b ++ c))) := by
  show (if ([a, b, c] : List (List T)).flatten.length ≤ sizeLine then some (T.lst ([a, b, c] : List (List T)).flatten) else none) = _
  rw [if_pos (by rw [szl]; simp; omega)]
  simp
theorem op_ss (st : Store) (is : List Int) (h : is.length ≤ 4000) (h2 : is.eraseDups.length < 64) : opEval st .setSort [.lst (is.map T.int)] = some (.lst ((sortI is.eraseDups).map T.int)) := by
  show ((intsOf (is.map T.int)).bind fun is => if is.length ≤ 4000 ∧ is.eraseDups.length < 64 then some (T.lst ((sortI is.eraseDups).map .int)) else none) = _
  rw [intsOf_map, Option.bind_some, if_pos ⟨h, h2⟩]
def L5a : S := .ass 13 (.comp (.nm 21) .rng1 [(.con (.int 3))] [] (.call 6 [(.var 1), (.var 10)] [] []))
def L5b : S := .ass 14 (.op .tuple [(.op .setSort [(.op .catAll [(.comp (.nm 3) .seq [(.var 13)] [] (.op .list [(.call 15 [(.var 7), (.var 3)] [] [])]))])])])
def L5c : S := .iff (.bor [(.op .ne [(.call 16 [(.var 7), (.op .idx [(.var 13), (.con (.int 0))]), (.op .idx [(.var 13), (.con (.int 1))]), (.op .idx [(.var 13), (.con (.int 2))])] [] []), (.var 14)]), (.op .ne [(.call 17 [(.var 7), (.op .idx [(.var 13), (.con (.int 2))]), (.op .idx [(.var 13), (.con (.int 2))]), (.op .idx [(.var 13), (.con (.int 0))]), (.op .idx [(.var 13), (.con (.int 1))]), (.op .idx [(.var 13), (.con (.int 0))])] [] []), (.var 14)]), (.op .ne [(.var 14), (.op .tuple [(.call 11 [(.var 9), (.var 13)] [] [])])])]) [.ret (.con (.bl false))] []
theorem l5_eq : L5 = .iff (.op .gt [(.var 10), (.con (.int 0))]) [L5a, L5b, L5c] [] := rfl
section
variable (P : Nat) (cells : List Int)
theorem l5a {w : WD} {K : List Int} {d : Int → Nat} {KF : List Int} {ρ : Env} (F : LF w K d KF ρ) (hm : 0 < w.rows.length) (h40 : w.rows.length ≤ 40) (k : Nat) (st : Store) (h : Pen P cells (k + 3) st) :
    ∃ a b c st', evalS (CL P 8) (HR P) WN L5a ρ st = .nx (ρ.set 13 (.val (.lst [.int a, .int b, .int c]))) st' ∧ InR w.rows a ∧ InR w.rows b ∧ InR w.rows c ∧ Pen P cells k st' := by
  have rg := rng1 3 (by omega) (by omega)
  obtain ⟨ys, st', e, l, p, j⟩ := cmp_draw (call := CL P 8) (hear := HR P) (tg := .nm 21) (cs := []) (elt := .call 6 [.var 1, .var 10] [] []) (ρ := ρ) (Pen P cells) (fun t => ∃ i, t = .int i ∧ InR w.rows i) 1 (xs := (List.range (Int.toNat 3)).map fun (i : Nat) => T.int i) k st (fun x hx k st j => by
    obtain ⟨r, st', e, r0, r1, r2, j'⟩ := draw_ok P 7 cells k st w.rows.length (by omega) j
    have e : CL P 8 6 [.ref 1, .int w.rows.length] [] st = .ok (.int r) st' := e
    refine ⟨.int r, st', ?_, ⟨r, rfl, by constructor <;> omega⟩, j'⟩
    have l21 : 21 < ρ.length := by rw [F.len]; decide
    have v1 : slotV (ρ.set 21 (.val x)) 1 = some (.ref 1) := (sv_ne (by decide)).trans F.pen
    have v10 : slotV (ρ.set 21 (.val x)) 10 = some (.int w.rows.length) := (sv_ne (by decide)).trans F.many
    simp [l21, v1, v10, e]) (by simpa using h)
  have l : ys.length = 3 := by simpa using l
  match ys, l, p, e with
  | [x, y, z], _, p, e =>
    obtain ⟨a, rfl, ha⟩ := p x (by simp)
    obtain ⟨b, rfl, hb⟩ := p y (by simp)
    obtain ⟨c, rfl, hc⟩ := p z (by simp)
    refine ⟨a, b, c, st', ?_, ha, hb, hc, j⟩
    rw [L5a]
    have l13 : 13 < ρ.length := by rw [F.len]; decide
    simp only [s_ass, e_comp, bs_cons, bs_nil, own_con, orB_n, e_con, bind_ok', rg, itO_s, e, then_ok', setS, if_pos l13]
theorem un_len {rows : Rows} {src U : List Int} (G : Gr rows) (hs : ∀ x ∈ src, InR rows x) (h : IsR rows src U) : U.length ≤ 40 :=
  Nat.le_trans (nd_len h.1 fun x hx => ((h.2 x).mp hx).inR G hs) G.m
theorem l5 {w : WD} {K : List Int} {d : Int → Nat} {KF : List Int} {ρ : Env} (F : LF w K d KF ρ) (G : LW w K d KF) (k : Nat) (st : Store) (h : Pen P cells (k + 3) st) :
    ∃ ρ' st', evalS (CL P 8) (HR P) WN L5 ρ st = .nx ρ' st' ∧ LF w K d KF ρ' ∧ Pen P cells k st' := by
  have g := G.g
  have N40 := g.m
  by_cases hm : 0 < w.rows.length
  · obtain ⟨a, b, c, st', e1, ha, hb, hc, j⟩ := l5a P cells F hm g.m k st h
    have i1 : ∀ {a x : Int}, InR w.rows a → x ∈ [a] → InR w.rows x := fun h hx => by rw [List.mem_singleton.mp hx]; exact h
    have i3 : ∀ x ∈ [a, b, c], InR w.rows x := fun x hx => by simp at hx; rcases hx with rfl | rfl | rfl <;> assumption
    have i5 : ∀ x ∈ [c, c, a, b, a], InR w.rows x := fun x hx => by simp at hx; rcases hx with rfl | rfl | rfl | rfl <;> assumption
    obtain ⟨Ka, ea, ra⟩ := rf1 P g [a] (fun x hx => i1 ha hx) (by simp) st'
    obtain ⟨Kb, eb, rb⟩ := rf1 P g [b] (fun x hx => i1 hb hx) (by simp) st'
    obtain ⟨Kc, ec, rc⟩ := rf1 P g [c] (fun x hx => i1 hc hx) (by simp) st'
    obtain ⟨K3, e3, r3⟩ := rf1 P g [a, b, c] i3 (by simp) st'
    obtain ⟨K5, e5, r5⟩ := rf1 P g [c, c, a, b, a] i5 (by simp) st'
    obtain ⟨K6, e6, r6⟩ := lreach_ok P 7 g.gr (.lst [.int a, .int b, .int c]) [some a, some b, some c] rfl (fun i hi => i3 i (by simpa using hi)) (by simp) st'
    have la := un_len g.gr (fun x hx => i1 ha hx) ra
    have lb := un_len g.gr (fun x hx => i1 hb hx) rb
    have lc := un_len g.gr (fun x hx => i1 hc hx) rc
    let U : List Int := sortI Ka ++ (sortI Kb ++ sortI Kc)
    have rU : IsR w.rows [a, b, c] U.eraseDups := by
      refine ⟨eraseD_nd _ U (Nat.le_refl _), fun x => ?_⟩
      rw [List.mem_eraseDups]
      simp only [U, List.mem_append, sortI_mem, ra.2, rb.2, rc.2]
      constructor
      · rintro (q | q | q)
        · exact rch_one (by simp) q
        · exact rch_one (by simp) q
        · exact rch_one (by simp) q
      · intro q
        obtain ⟨y, hy, q2⟩ := rch_split q
        simp at hy
        rcases hy with e | e | e
        · exact .inl (e ▸ q2)
        · exact .inr (.inl (e ▸ q2))
        · exact .inr (.inr (e ▸ q2))
    have lU := un_len g.gr i3 rU
    have lu : U.length ≤ 120 := by simp [U, sortI_len]; omega
    have s3 : sortI K3 = sortI U.eraseDups := r3.sort rU fun _ => Iff.rfl
    have s5 : sortI K5 = sortI U.eraseDups := r5.sort rU (rch_set fun y => by simp; omega)
    have s6 : sortI K6 = sortI U.eraseDups := r6.sort rU fun _ => Iff.rfl
    rw [s3] at e3
    rw [s5] at e5
    rw [s6] at e6
    have ea : CL P 8 15 [w.heapT, .int a] [] st' = .ok (.tup ((sortI Ka).map T.int)) st' := (cl15 ..).trans ea
    have eb : CL P 8 15 [w.heapT, .int b] [] st' = .ok (.tup ((sortI Kb).map T.int)) st' := (cl15 ..).trans eb
    have ec : CL P 8 15 [w.heapT, .int c] [] st' = .ok (.tup ((sortI Kc).map T.int)) st' := (cl15 ..).trans ec
    have e3 : CL P 8 16 [w.heapT, .int a, .int b, .int c] [] st' = .ok (.tup ((sortI U.eraseDups).map T.int)) st' := (cl16 ..).trans e3
    have e5 : CL P 8 17 [w.heapT, .int c, .int c, .int a, .int b, .int a] [] st' = .ok (.tup ((sortI U.eraseDups).map T.int)) st' := (cl17 ..).trans e5
    have e6 : CL P 8 11 [w.rowsT, .lst [.int a, .int b, .int c]] [] st' = _ := e6
    let ρ1 := ρ.set 13 (.val (.lst [.int a, .int b, .int c]))
    let ρ2 := ρ1.set 14 (.val (.tup ((sortI U.eraseDups).map T.int)))
    have F1 : LF w K d KF ρ1 := F.set (by decide)
    have F2 : LF w K d KF ρ2 := F1.set (by decide)
    have v13 : slotV ρ1 13 = some (.lst [.int a, .int b, .int c]) := sv_eq (by rw [F.len]; decide)
    have v13' : slotV ρ2 13 = some (.lst [.int a, .int b, .int c]) := (sv_ne (by decide)).trans v13
    have v14 : slotV ρ2 14 = some (.tup ((sortI U.eraseDups).map T.int)) := sv_eq (by rw [F1.len]; decide)
    have el : ∀ i S, CL P 8 15 [w.heapT, .int i] [] st' = .ok (.tup S) st' → elO (CL P 8) (HR P) [] (.op .list [.call 15 [.var 7, .var 3] [] []]) (assign (.nm 3) (.int i) ρ1) st' = .ok (some (.lst S)) st' := by
      intro i S e
      have l3 : 3 < ρ1.length := by rw [F1.len]; decide
      have v3 := sv_eq (ρ := ρ1) (t := .int i) l3
      have v7 : slotV (ρ1.set 3 (.val (.int i))) 7 = some w.heapT := (sv_ne (by decide)).trans F1.heap
      simp [l3, v3, v7, e]
    have x2 : evalS (CL P 8) (HR P) WN L5b ρ1 st' = .nx ρ2 st' := by
      have c3 : cmpE (CL P 8) (HR P) (.nm 3) [] (.op .list [.call 15 [.var 7, .var 3] [] []]) ρ1 [.int a, .int b, .int c] st' = .ok [.lst ((sortI Ka).map T.int), .lst ((sortI Kb).map T.int), .lst ((sortI Kc).map T.int)] st' := by
        unfold cmpE compL
        rw [el a _ ea, noex_ok, O.bind_ok]
        unfold compL
        rw [el b _ eb, noex_ok, O.bind_ok]
        unfold compL
        rw [el c _ ec, noex_ok, O.bind_ok]
        rfl
      have ct := op_cat3 st' ((sortI Ka).map T.int) ((sortI Kb).map T.int) ((sortI Kc).map T.int) (by simp [sortI_len]; omega)
      rw [← List.map_append, ← List.map_append] at ct
      have ss := op_ss st' U (by omega) (by omega)
      have l14 : 14 < ρ1.length := by rw [F1.len]; decide
      simp [L5b, v13, so_none v13, c3, ct, -List.map_append, ss, U, l14, setS, ρ2]
    have n1 := ne_same (dp_tupI (sortI U.eraseDups)).dm st'
    have x3 : evalS (CL P 8) (HR P) WN L5c ρ2 st' = .nx ρ2 st' := by
      simp [L5c, F2.heap, F2.rows, v13', v14, so_none v13', so_none v14, e3, e5, e6, -op_ne, n1]
    refine ⟨ρ2, st', ?_, F2, j⟩
    have dm : decide ((0 : Int) < w.rows.length) = true := decide_eq_true (by omega)
    rw [l5_eq]
    simp only [s_iff, own_op, orB_n, e_op, bs_cons, bs_nil, own_var, own_con, so_none F.many, e_var, F.many, lift_s, e_con, bind_ok', op_gt, dm, then_ok', tr_bl, tstR_t]
    rw [ss_cons, e1, seqR_nx, ss_cons, x2, seqR_nx, ss_cons, x3, seqR_nx, ss_nil]
  · refine ⟨ρ, st, ?_, F, h.less (by omega)⟩
    have dm : decide ((0 : Int) < w.rows.length) = false := decide_eq_false (by omega)
    rw [l5_eq]
    simp only [s_iff, own_op, orB_n, e_op, bs_cons, bs_nil, own_var, own_con, so_none F.many, e_var, F.many, lift_s, e_con, bind_ok', op_gt, dm, then_ok', tr_bl, tstR_f, ss_nil]
theorem slc_held (st : Store) (l : List (Option Int)) (a b : Option Int) : slice st (heldT l) a b = some (.tup (cut (l.map cT) a b)) := rfl
theorem l6 {w : WD} {K : List Int} {d : Int → Nat} {KF : List Int} {ρ : Env} (F : LF w K d KF ρ) (G : LW w K d KF) (st : Store) : evalS (CL P 8) (HR P) WN L6 ρ st = .nx ρ st := by
  have g := G.g
  obtain ⟨K0, e0, r0⟩ := rf1 P g [] (by simp) (by simp) st
  have k0 : K0 = [] := by
    cases K0 with
    | nil => rfl
    | cons x K0 =>
      obtain ⟨y, hy, _⟩ := rch_split ((r0.2 x).mp (by simp))
      cases hy
  subst k0
  have e0 : CL P 8 18 [w.heapT] [] st = .ok (.tup []) st := (cl18 ..).trans e0
  have h1 := g.h1
  have h6 := g.h6
  let l2 := w.held ++ w.held.take (6 - w.held.length)
  have m2 : ∀ i, some i ∈ l2 ↔ some i ∈ w.held := fun i => by
    simp only [l2, List.mem_append]
    exact ⟨fun q => q.elim id List.mem_of_mem_take, .inl⟩
  obtain ⟨K1, e1, r1⟩ := reachable_ok P 6 w.wide g.gr l2 (fun i hi => g.held i ((m2 i).mp hi)) (by simp [l2]; omega) st
  have s1 : sortI K1 = sortI K := r1.sort G.k (rch_set fun y => by rw [hs_mem, hs_mem, m2])
  rw [s1] at e1
  have e1 : CL P 8 5 [w.heapT, .tup (l2.map cT)] [] st = _ := e1
  have ct := cut_to (w.held.map cT) (6 - w.held.length)
  have ad : opEval st .add [heldT w.held, .tup ((w.held.map cT).take (6 - w.held.length))] = some (.tup (l2.map cT)) := by
    refine (op_addT st (w.held.map cT) ((w.held.map cT).take (6 - w.held.length)) (by rw [szl]; simp; omega)).trans ?_
    simp [l2]
  have ln : opEval st .len [heldT w.held] = some (.int w.held.length) := by simp [heldT]
  have n0 := ne_same (t := .tup []) (Dp.dm (n := 1) (.tup (by simp))) st
  have n1 := ne_same (dp_tupI (sortI K)).dm st
  have i6 : (6 : Int) - w.held.length = ((6 - w.held.length : Nat) : Int) := by omega
  simp [L6, F.heap, F.held, F.due, so_none F.held, so_none F.due, e0, -op_ne, n0, ln, i6, partOf, slc_held, ct, ad, e1, n1]
end
end M
end
/-! M17 -/
section
set_option linter.all false
set_option maxRecDepth 100000
set_option maxHeartbeats 2000000
namespace M
open Q C
open PySem (PyData sizeLine)
/-! ### ways -/
theorem far_bound {rows : Rows} {src K : List Int} {d : Int → Nat} (F : IsFar rows src K d) : ∀ (n : Nat) (x : Int), x ∈ K → d x = n → ∃ l : List Int, l.Nodup ∧ l.length = n + 1 ∧ ∀ y ∈ l, y ∈ K ∧ d y ≤ n
  | 0, x, hx, e => ⟨[x], by simp, rfl, fun y hy => by rw [List.mem_singleton.mp hy]; exact ⟨hx, by omega⟩⟩
  | n + 1, x, hx, e => by
    have w := F.wk x hx
    rw [e] at w
    cases w with
    | @step _ _ y wy hxy =>
      have hy : y ∈ K := (F.mem y).mpr wy.rch
      have l1 := F.le n y wy
      have l2 := F.le (d y + 1) x (.step (F.wk y hy) hxy)
      obtain ⟨l, nd, ln, hl⟩ := far_bound F n y hy (by omega)
      refine ⟨x :: l, ?_, by simp [ln], fun z hz => ?_⟩
      · rw [List.nodup_cons]
        exact ⟨fun q => by have := (hl x q).2; omega, nd⟩
      · rcases List.mem_cons.mp hz with rfl | q
        · exact ⟨hx, by omega⟩
        · exact ⟨(hl z q).1, by have := (hl z q).2; omega⟩
theorem far_lt {rows : Rows} (G : Gr rows) {src K : List Int} {d : Int → Nat} (hs : ∀ x ∈ src, InR rows x) (F : IsFar rows src K d) {x : Int} (hx : x ∈ K) : d x < 40 := by
  obtain ⟨l, nd, ln, hl⟩ := far_bound F (d x) x hx rfl
  have := nd_len nd fun y hy => ((F.mem y).mp (hl y hy).1).inR G hs
  have := G.m
  omega
def wl (n : Nat) : List T := (List.range n).map fun (i : Nat) => T.int ((i : Int) + 1)
theorem wl_s (n : Nat) : wl (n + 1) = wl n ++ [.int ((n : Int) + 1)] := by simp [wl, List.range_succ]
theorem wl_len (n : Nat) : (wl n).length = n := by simp [wl]
theorem wl_dp (n : Nat) : Dp 1 (.lst (wl n)) := .lst fun x hx => by
  obtain ⟨i, _, rfl⟩ := List.mem_map.mp hx
  exact .int
theorem op_rgA (st : Store) (a b : Int) (h : (-1000000 ≤ a ∧ a ≤ 1000000) ∧ (-1000000 ≤ b ∧ b ≤ 1000000)) : opEval st .listRange [.int a, .int b] = some (.lst ((rgI a b).map T.int)) := if_pos h
theorem op_rg (st : Store) (n : Nat) (h : n < 1000) : opEval st .listRange [.int 1, .int ((n : Int) + 1)] = some (.lst (wl n)) := by
  have e := op_rgA st 1 ((n : Int) + 1) ⟨⟨by omega, by omega⟩, by omega, by omega⟩
  rw [e]
  have e2 : (rgI 1 ((n : Int) + 1)).map T.int = wl n := by
    unfold rgI wl
    rw [show ((n : Int) + 1 - 1).toNat = n by omega, List.map_map]
    apply List.map_congr_left
    intro i _
    rw [Function.comp_apply, Int.add_comm]
  rw [e2]
theorem op_rg0 (st : Store) (n : Nat) (h : n < 1000) : opEval st .listRange [.int (n : Int)] = some (.lst ((rgI 0 n).map T.int)) := if_pos (by constructor <;> omega)
theorem rg_mem {n : Nat} {x : Int} (h : x ∈ rgI 0 n) : 0 ≤ x ∧ x < n := by
  simp [rgI] at h
  omega
theorem rg_len (n : Nat) : (rgI 0 n).length = n := by simp [rgI]
def L7a : S := .ass 15 (.call 19 [(.var 7), (.var 8), (.var 3)] [] [])
def L7b : S := .iff (.op .ne [(.op .isN [(.var 15)]), (.op .notIn [(.var 3), (.var 12)])]) [.ret (.con (.bl false))] []
def L7d : S := .par [(22, false), (23, true)] [(.op .idx [(.var 8), (.op .idx [(.var 15), (.con (.int 0))])]), (.lst [(.con (.int 1))])]
def L7e : List S := [.ass 22 (.op .idx [(.op .idx [(.var 9), (.var 22)]), (.var 19)]), .app 23 (.op .dget [(.var 12), (.var 22)])]
def L7f : S := .iff (.bor [(.op .ne [(.var 22), (.var 3)]), (.op .ne [(.op .len [(.var 15)]), (.op .dget [(.var 12), (.var 3)])]), (.op .ne [(.var 23), (.op .listRange [(.con (.int 1)), (.op .add [(.op .dget [(.var 12), (.var 3)]), (.con (.int 1))])])])]) [.ret (.con (.bl false))] []
def L7B : List S := [L7a, L7b, .iff (.op .notN [(.var 15)]) [L7d, .for (.nm 19) .seq [(.slc (.var 15) [(.con (.int 1))] [])] L7e, L7f] []]
theorem l7_eq : L7 = .for (.nm 3) .seq [(.slc (.call 20 [(.var 1), (.op .listRange [(.var 10)])] [] []) [] [(.con (.int 8))])] L7B := rfl
theorem dget_far (st : Store) {d : Int → Nat} {KF : List Int} {x : Int} (h : x ∈ KF) : opEval st .dget [farT d KF, .int x] = some (.int ((d x : Int) + 1)) := by
  show getK (dk (fT d) KF) (.inl x) = _
  rw [getK_dk, if_pos h]; rfl
theorem idx_cel (st : Store) {w : WD} {y f z : Int} (hy : InR w.rows y) (hf : 0 ≤ f) (h : cel w.rows y f = some z) : (opEval st .idx [w.rowsT, .int y]).bind (fun r => opEval st .idx [r, .int f]) = some (.int z) := by
  obtain ⟨r, er, _⟩ := row_at hy
  have ir : opEval st .idx [w.rowsT, .int y] = some (rowT r) := idx_row st hy er
  rw [ir, Option.bind_some]
  unfold cel at h
  rw [er] at h
  simp only [Option.getD_some] at h
  have h2 : r[f.toNat]? = some (some z) := by
    cases e : r[f.toNat]? with
    | none => rw [e] at h; cases h
    | some o => rw [e] at h; cases o with
      | none => cases h
      | some z' => cases h; rfl
  have fl : f.toNat < r.length := by
    by_cases q : f.toNat < r.length
    · exact q
    · rw [List.getElem?_eq_none (by omega)] at h2; cases h2
  show L2.atI (r.map cT) f = _
  rw [atI_pos hf (by simp; omega), List.getElem?_map, h2]; rfl
section
variable (P : Nat) (cells : List Int) {w : WD} {K : List Int} {d : Int → Nat} {KF : List Int} (G : LW w K d KF)
include G
theorem l7_in (x : Int) (st : Store) : ∀ (fs : List Int) (y : Int) (j : Nat) (ρ : Env), LF w K d KF ρ → slotV ρ 22 = some (.int y) → slotO ρ 23 = some (.lst (wl (j + 1))) → Wk w.rows (hs w.held) j y → fol w.rows y fs = some x → (∀ f ∈ fs, 0 ≤ f) → d x = j + fs.length →
    ∃ ρ', forE (CL P 8) (HR P) WN (.nm 19) L7e (fs.map T.int) ρ st = .nx ρ' st ∧ LF w K d KF ρ' ∧ slotV ρ' 3 = slotV ρ 3 ∧ slotV ρ' 15 = slotV ρ 15 ∧ slotV ρ' 22 = some (.int x) ∧ slotO ρ' 23 = some (.lst (wl (d x + 1)))
  | [], y, j, ρ, F, v22, v23, hw, hf, hp, hd => by
    cases hf
    exact ⟨ρ, rfl, F, rfl, rfl, v22, by rw [hd]; exact v23⟩
  | f :: fs, y, j, ρ, F, v22, v23, hw, hf, hp, hd => by
    have hin : ∀ i ∈ hs w.held, InR w.rows i := fun i hi => G.g.held i (hs_mem.mp hi)
    obtain ⟨z, e1, e2⟩ := Option.bind_eq_some_iff.mp hf
    have yr := hw.rch.inR G.g.gr hin
    have wz : Wk w.rows (hs w.held) (j + 1) z := .step hw (cel_sc e1)
    have zK : z ∈ KF := (G.f.mem z).mpr wz.rch
    have dz : d z = j + 1 := by
      have a := G.f.le _ _ wz
      have b := G.f.le _ _ (fol_wk fs (G.f.wk z zK) e2)
      simp at hd
      omega
    have j40 := far_lt G.g.gr hin G.f zK
    have ic := idx_cel st yr (hp f (by simp)) e1
    obtain ⟨r, ir, ic⟩ := Option.bind_eq_some_iff.mp ic
    let ρ1 := ρ.set 19 (.val (.int f))
    let ρ2 := ρ1.set 22 (.val (.int z))
    let ρ3 := ρ2.set 23 (.own (.lst (wl (j + 2))))
    have F1 : LF w K d KF ρ1 := F.set (by decide)
    have F2 : LF w K d KF ρ2 := F1.set (by decide)
    have F3 : LF w K d KF ρ3 := F2.set (by decide)
    obtain ⟨ρ', e, F', p3, p15, p22, p23⟩ := l7_in x st fs z (j + 1) ρ3 F3 ((sv_ne (by decide)).trans (sv_eq (by rw [F1.len]; decide))) (so_eq (by rw [F2.len]; decide)) wz e2 (fun g hg => hp g (List.mem_cons_of_mem _ hg)) (by simp at hd; omega)
    refine ⟨ρ', ?_, F', ?_, ?_, p22, p23⟩
    · rw [List.map_cons, forE_cons (ρ' := ρ3) (st' := st) ?_, e]
      have a19 : slotV ρ1 19 = some (.int f) := sv_eq (by rw [F.len]; decide)
      have a22 : slotV ρ1 22 = some (.int y) := (sv_ne (by decide)).trans v22
      have b22 : slotV ρ2 22 = some (.int z) := sv_eq (by rw [F1.len]; decide)
      have b23 : slotO ρ2 23 = some (.lst (wl (j + 1))) := by simp only [ρ2, ρ1]; rw [so_ne (by decide), so_ne (by decide)]; exact v23
      have l1 : 19 < ρ.length := by rw [F.len]; decide
      have l2 : 22 < ρ1.length := by rw [F1.len]; decide
      have l3 : 23 < ρ2.length := by rw [F2.len]; decide
      have x1 : evalS (CL P 8) (HR P) WN (.ass 22 (.op .idx [(.op .idx [(.var 9), (.var 22)]), (.var 19)])) ρ1 st = .nx ρ2 st := by
        simp [F1.rows, so_none F1.rows, a22, so_none a22, a19, so_none a19, ir, ic, setS, l2, ρ2]
      have dg := dget_far st (d := d) zK
      have sz : (wl (j + 1)).length < sizeLine := by rw [wl_len, szl]; omega
      have x2 : evalS (CL P 8) (HR P) WN (.app 23 (.op .dget [(.var 12), (.var 22)])) ρ2 st = .nx ρ3 st := by
        simp [b23, F2.far, so_none F2.far, b22, so_none b22, dg, sz, setS, l3, ρ3, dz, wl_s (j + 1)]
      rw [as_nm, if_pos l1, asgR_s, L7e, ss_cons, x1, seqR_nx, ss_cons, x2, seqR_nx, ss_nil]
    · rw [p3]; simp only [ρ3, ρ2, ρ1]; rw [sv_ne (by decide), sv_ne (by decide), sv_ne (by decide)]
    · rw [p15]; simp only [ρ3, ρ2, ρ1]; rw [sv_ne (by decide), sv_ne (by decide), sv_ne (by decide)]
theorem l7_body (i : Int) (hi : InR w.rows i) (ρ : Env) (st : Store) (F : LF w K d KF ρ) : ∃ ρ', asgR (assign (.nm 3) (.int i) ρ) (fun ρ' => evalSs (CL P 8) (HR P) WN L7B ρ' st) = .nx ρ' st ∧ LF w K d KF ρ' := by
  have hin : ∀ i, some i ∈ w.held → InR w.rows i := fun i hi => G.g.held i hi
  have hin2 : ∀ i ∈ hs w.held, InR w.rows i := fun i hi => G.g.held i (hs_mem.mp hi)
  have l3 : 3 < ρ.length := by rw [F.len]; decide
  let ρ0 := ρ.set 3 (.val (.int i))
  have F0 : LF w K d KF ρ0 := F.set (by decide)
  have v3 : slotV ρ0 3 = some (.int i) := sv_eq l3
  have l15 : 15 < ρ0.length := by rw [F0.len]; decide
  have nf : opEval st .notIn [.int i, farT d KF] = some (.bl (!decide (i ∈ KF))) := op_ninK st (fT d) i KF
  rcases path_ok P 6 w.wide G.g.gr w.held hin G.g.h6 i hi st with ⟨p, ep, pv, mn⟩ | ⟨ep, nr⟩
  · have ep : CL P 8 19 [w.heapT, heldT w.held, .int i] [] st = _ := ep
    have iK : i ∈ KF := (G.f.mem i).mpr pv.wk.rch
    have wk := pv.wk
    obtain ⟨i0, fs, y0, rfl, h1, h2, h3, h4⟩ := pv
    have dx : d i = fs.length := by
      have a := G.f.le _ _ wk
      have b := mn _ (G.f.wk i iK)
      simp at a b
      omega
    let ρ1 := ρ0.set 15 (.val (.tup ((i0 :: fs).map T.int)))
    have F1 : LF w K d KF ρ1 := F0.set (by decide)
    have a3 : slotV ρ1 3 = some (.int i) := (sv_ne (by decide)).trans v3
    have a15 : slotV ρ1 15 = some (.tup ((i0 :: fs).map T.int)) := sv_eq l15
    have x1 : evalS (CL P 8) (HR P) WN L7a ρ0 st = .nx ρ1 st := by
      simp [L7a, F0.heap, F0.held, v3, ep, setS, l15, ρ1]
    have x2 : evalS (CL P 8) (HR P) WN L7b ρ1 st = .nx ρ1 st := by
      simp [L7b, a15, so_none a15, a3, so_none a3, F1.far, so_none F1.far, nf, iK]
    let ρ2 := (ρ1.set 22 (.val (.int y0))).set 23 (.own (.lst [.int 1]))
    have F2 : LF w K d KF ρ2 := (F1.set (by decide)).set (by decide)
    have i0l : i0.toNat < w.held.length := by
      by_cases q : i0.toNat < w.held.length
      · exact q
      · rw [List.getElem?_eq_none (by omega)] at h2; cases h2
    have ih : opEval st .idx [heldT w.held, .int i0] = some (.int y0) := by
      show L2.atI (w.held.map cT) i0 = _
      rw [atI_pos h1 (by simp; omega), List.getElem?_map, h2]; rfl
    have x3 : evalS (CL P 8) (HR P) WN L7d ρ1 st = .nx ρ2 st := by
      simp [L7d, a15, so_none a15, F1.held, so_none F1.held, ih, parSet, isMut, F1.len, ρ2]
    have w1 : wl 1 = [.int 1] := rfl
    have b15 : slotV ρ2 15 = some (.tup ((i0 :: fs).map T.int)) := by simp only [ρ2]; rw [sv_ne (by decide), sv_ne (by decide)]; exact a15
    have b3 : slotV ρ2 3 = some (.int i) := by simp only [ρ2]; rw [sv_ne (by decide), sv_ne (by decide)]; exact a3
    obtain ⟨ρ', e, F', p3, p15, p22, p23⟩ := l7_in P G i st fs y0 0 ρ2 F2 ((sv_ne (by decide)).trans (sv_eq (by rw [F1.len]; decide))) (by rw [Nat.zero_add, w1]; exact so_eq (by simp [F1.len])) (.src (hs_mem.mpr (List.mem_of_getElem? h2))) h3 h4 (by omega)
    rw [b3] at p3
    rw [b15] at p15
    have c1 := cut_1 ((i0 :: fs).map T.int)
    have x4 : evalS (CL P 8) (HR P) WN (.for (.nm 19) .seq [(.slc (.var 15) [(.con (.int 1))] [])] L7e) ρ2 st = .nx ρ' st := by
      simp at c1
      simp [b15, so_none b15, partOf, slice, c1, e]
    have dg := dget_far st (d := d) iK
    have rg := op_rg st (d i + 1) (by have := far_lt G.g.gr hin2 G.f iK; omega)
    have nw := ne_same (wl_dp (d i + 1)).dm st
    have x5 : evalS (CL P 8) (HR P) WN L7f ρ' st = .nx ρ' st := by
      simp at rg
      simp [L7f, p22, so_none p22, p3, so_none p3, p15, so_none p15, F'.far, so_none F'.far, dg, dx]
      simp [← dx, p23, dg, rg, -op_ne, nw]
    refine ⟨ρ', ?_, F'⟩
    rw [as_nm, if_pos l3, asgR_s, L7B, ss_cons, x1, seqR_nx, ss_cons, x2, seqR_nx, ss_cons]
    have nn : evalS (CL P 8) (HR P) WN (.iff (.op .notN [(.var 15)]) [L7d, .for (.nm 19) .seq [(.slc (.var 15) [(.con (.int 1))] [])] L7e, L7f] []) ρ1 st = .nx ρ' st := by
      simp only [s_iff, own_op, orB_n, e_op, bs_cons, bs_nil, own_var, so_none a15, e_var, a15, lift_s, bind_ok', op_notN, isN_tup, then_ok', tr_bl, Bool.not_false, tstR_t]
      rw [ss_cons, x3, seqR_nx, ss_cons, x4, seqR_nx, ss_cons, x5, seqR_nx, ss_nil]
    rw [nn, seqR_nx, ss_nil]
  · have ep : CL P 8 19 [w.heapT, heldT w.held, .int i] [] st = _ := ep
    have iK : i ∉ KF := fun q => nr ((G.f.mem i).mp q)
    let ρ1 := ρ0.set 15 (.val .non)
    have F1 : LF w K d KF ρ1 := F0.set (by decide)
    have a3 : slotV ρ1 3 = some (.int i) := (sv_ne (by decide)).trans v3
    have a15 : slotV ρ1 15 = some .non := sv_eq l15
    have x1 : evalS (CL P 8) (HR P) WN L7a ρ0 st = .nx ρ1 st := by
      simp [L7a, F0.heap, F0.held, v3, ep, setS, l15, ρ1]
    have x2 : evalS (CL P 8) (HR P) WN L7b ρ1 st = .nx ρ1 st := by
      simp [L7b, a15, so_none a15, a3, so_none a3, F1.far, so_none F1.far, nf, iK]
    refine ⟨ρ1, ?_, F1⟩
    rw [as_nm, if_pos l3, asgR_s, L7B, ss_cons, x1, seqR_nx, ss_cons, x2, seqR_nx]
    simp [a15, so_none a15]
theorem l7 {ρ : Env} (F : LF w K d KF ρ) (k : Nat) (st : Store) (h : Pen P cells (k + 40) st) : ∃ ρ' st', evalS (CL P 8) (HR P) WN L7 ρ st = .nx ρ' st' ∧ LF w K d KF ρ' ∧ Pen P cells k st' := by
  have N40 := G.g.m
  obtain ⟨zs, st', e, hz, j⟩ := mixed_ok P 6 cells k st (rgI 0 w.rows.length) (by rw [rg_len]; exact N40) h
  have e : CL P 8 20 [.ref 1, .lst ((rgI 0 w.rows.length).map T.int)] [] st = _ := e
  have rg := op_rg0 st w.rows.length (by omega)
  have ct := cut_to (zs.map T.int) 8
  obtain ⟨ρ', st2, e2, I2⟩ := forE_rule (call := CL P 8) (hear := HR P) (W := WN) (tg := .nm 3) (body := L7B) (I := fun xs ρ s => s = st' ∧ LF w K d KF ρ ∧ ∀ x ∈ xs, ∃ i, x = .int i ∧ InR w.rows i) (fun x xs ρ s ⟨hs, F, hx⟩ => by
    subst hs
    obtain ⟨i, rfl, hi⟩ := hx x (by simp)
    obtain ⟨ρ', e, F'⟩ := l7_body P G i hi ρ s F
    exact ⟨ρ', s, e, rfl, F', fun y hy => hx y (List.mem_cons_of_mem _ hy)⟩) ((zs.map T.int).take 8) ρ st' ⟨rfl, F, fun x hx => by
      obtain ⟨z, hz2, rfl⟩ := List.mem_map.mp (List.mem_of_mem_take hx)
      exact ⟨z, rfl, rg_mem (hz z hz2)⟩⟩
  obtain ⟨rfl, F', _⟩ := I2
  refine ⟨ρ', st2, ?_, F', j⟩
  rw [l7_eq]
  simp at ct
  simp [F.pen, F.many, so_none F.many, rg, e, partOf, slice, lstOf, ct]
  simpa using e2
end
end M
end
/-! M18 -/
section
set_option linter.all false
set_option maxRecDepth 100000
set_option maxHeartbeats 2000000
namespace M
open Q C
open PySem (PyData sizeLine)
/-! ### what is no object -/
def oddL (many : Int) : List T := [.int many, .int (-1), .non, .bl true, .str "0", .tup [.int 0], .int (10 ^ 20)]
theorem odd_ok {many : Int} (h0 : many ≤ 40) {x : T} (h : x ∈ oddL many) : Sm x = true ∧ betB 0 (many - 1) x = false ∧ Dp 1 x := by
  simp only [oddL, List.mem_cons, List.not_mem_nil, or_false] at h
  rcases h with rfl | rfl | rfl | rfl | rfl | rfl | rfl
  · exact ⟨rfl, by simp [betB]; omega, .int⟩
  · exact ⟨rfl, by simp [betB], .int⟩
  · exact ⟨rfl, rfl, .non⟩
  · exact ⟨rfl, rfl, .bl⟩
  · exact ⟨rfl, rfl, .str (by decide +kernel)⟩
  · exact ⟨rfl, rfl, .tup (by intro y hy; rw [List.mem_singleton.mp hy]; exact .int)⟩
  · exact ⟨rfl, by simp [betB]; omega, .int⟩
theorem so_L (ρ : Env) (i : Nat) (t : T) (h : slotV ρ i = some t) : slotO ρ i = none := so_none h
section
variable (P : Nat) (cells : List Int) {w : WD} {K : List Int} {d : Int → Nat} {KF : List Int} (G : LW w K d KF)
include G
theorem l8 {ρ : Env} (F : LF w K d KF ρ) (k : Nat) (st : Store) (h : Pen P cells (k + 1) st) : ∃ x ρ' st', evalS (CL P 8) (HR P) WN L8 ρ st = .nx ρ' st' ∧ LF w K d KF ρ' ∧ slotV ρ' 4 = some x ∧ x ∈ oddL w.rows.length ∧ Pen P cells k st' := by
  obtain ⟨x, st', e, hx, j⟩ := pick_ok P 6 cells k st (oddL w.rows.length) (by simp [oddL]) (by simp [oddL]) h
  have e : CL P 8 7 [.ref 1, .lst (oddL w.rows.length)] [] st = _ := e
  have l4 : 4 < ρ.length := by rw [F.len]; decide
  have pw : opEval st .pow [.int 10, .int 20] = some (.int (10 ^ 20)) := op_pow st 10 20 ⟨by omega, by omega, by decide⟩
  unfold oddL at e
  refine ⟨x, ρ.set 4 (.val x), st', ?_, F.set (by decide), sv_eq l4, hx, j⟩
  simp only [L8, s_ass, e_call, es_cons, es_nil, e_var, F.pen, lift_s, bind_ok', e_lst, F.many, e_op, bs_cons, bs_nil, own_con, orB_n, e_con, op_neg, e_tup, pw, flatS_nil, itO_s, List.append_nil, e, then_ok', setS, if_pos l4]
theorem l9 {ρ : Env} (F : LF w K d KF ρ) {x : T} (v4 : slotV ρ 4 = some x) (hx : x ∈ oddL w.rows.length) (st : Store) (k : Nat) (h : Pen P cells k st) : evalS (CL P 8) (HR P) WN L9 ρ st = .nx ρ st := by
  obtain ⟨h1, h2, h3⟩ := odd_ok (by have := G.g.m; omega) hx
  have e := path_ex P 6 (.int w.wide) (w.rows.map rowT) (heldT w.held) x st h1 (by rw [List.length_map]; exact h2)
  have e : CL P 8 19 [w.heapT, heldT w.held, x] [] st = _ := e
  obtain ⟨a, gr, rfl, _⟩ := h
  have hh := hear_obj P [penT cells a gr] [.tab P tqL, penT cells a gr] x
  have n1 := ne_same (t := .tup [.str "object", x]) (Dp.dm (n := 2) (.tup (by intro y hy; simp at hy; rcases hy with rfl | rfl; exact .str (by decide +kernel); cases h3 <;> constructor <;> assumption))) [.tab P tqL, penT cells a gr]
  simp [L9, F.heap, F.held, v4, e, hh, -op_ne, n1]
end
/-! ### told by first fields -/
def pos : List (Option Int) → Nat → List Int
  | [], _ => []
  | none :: r, j => pos r (j + 1)
  | some _ :: r, j => ((j : Int) + 1) :: pos r (j + 1)
def gQ : T → Option T
  | .tup [.int i, .int _] => some (.int (i + 1))
  | _ => none
theorem gQ_all : ∀ (r : List (Option Int)) (j : Nat), ((r.map cT).mapIdx fun i x => T.tup [.int ((j + i : Nat) : Int), x]).filterMap gQ = (pos r j).map T.int
  | [], j => rfl
  | o :: r, j => by
    rw [List.map_cons, List.mapIdx_cons]
    have e : ((r.map cT).mapIdx fun i x => T.tup [.int ((j + (i + 1) : Nat) : Int), x]) = (r.map cT).mapIdx fun i x => T.tup [.int ((j + 1 + i : Nat) : Int), x] := by
      congr 1
      funext i x
      rw [show j + (i + 1) = j + 1 + i by omega]
    rw [e]
    cases o with
    | none =>
      rw [List.filterMap_cons]
      exact gQ_all r (j + 1)
    | some z =>
      rw [List.filterMap_cons]
      show T.int (((j + 0 : Nat) : Int) + 1) :: _ = _
      rw [gQ_all r (j + 1)]
      rfl
theorem pos_lt {p : Int} : ∀ {r : List (Option Int)} {j : Nat}, p ∈ pos r j → (j : Int) < p ∧ p ≤ j + r.length
  | [], j, h => by cases h
  | none :: r, j, h => by
    have := pos_lt (r := r) (j := j + 1) h
    simp
    omega
  | some z :: r, j, h => by
    simp only [pos, List.mem_cons] at h
    rcases h with rfl | h
    · simp; omega
    · have := pos_lt (r := r) (j := j + 1) h
      simp
      omega
theorem pos_at {z : Int} : ∀ {r : List (Option Int)} {j i : Nat}, r[i]? = some (some z) → ((j + i : Nat) : Int) + 1 ∈ pos r j
  | [], j, i, h => by simp at h
  | o :: r, j, 0, h => by
    simp at h
    subst h
    simp [pos]
  | o :: r, j, i + 1, h => by
    have := pos_at (r := r) (j := j + 1) (i := i) (by simpa using h)
    rw [show j + 1 + i = j + (i + 1) by omega] at this
    cases o
    · exact this
    · exact List.mem_cons_of_mem _ this
theorem pos_pad (r : List (Option Int)) : ∃ m : Nat, maxI (pos r 0 ++ [0]) = m ∧ m ≤ r.length ∧ r.take m ++ List.replicate (r.length - m) none = r := by
  have hm := maxI_mem (pos r 0 ++ [0]) (by simp)
  have hb : 0 ≤ maxI (pos r 0 ++ [0]) ∧ maxI (pos r 0 ++ [0]) ≤ r.length := by
    rcases List.mem_append.mp hm with q | q
    · have := pos_lt q; omega
    · have := List.mem_singleton.mp q; omega
  refine ⟨(maxI (pos r 0 ++ [0])).toNat, by omega, by omega, ?_⟩
  generalize hM : (maxI (pos r 0 ++ [0])).toNat = m
  have hd : r.drop m = List.replicate (r.length - m) none := by
    rw [List.eq_replicate_iff]
    refine ⟨by simp, fun b hb2 => ?_⟩
    obtain ⟨i, hi⟩ := List.mem_iff_getElem?.mp hb2
    rw [List.getElem?_drop] at hi
    cases b with
    | none => rfl
    | some z =>
      have := maxI_ge (pos r 0 ++ [0]) _ (List.mem_append_left _ (pos_at (j := 0) hi))
      omega
  rw [← hd, List.take_append_drop]
end M
end
/-! M19 -/
section
set_option linter.all false
set_option maxRecDepth 100000
set_option maxHeartbeats 2000000
namespace M
open Q C
open PySem (PyData sizeLine)
def L10a : List S := [.ass 20 (.op .maxL [(.op .add [(.comp (.tp [(.nm 19), (.nm 25)]) .enum [(.var 17)] [(.op .notN [(.var 25)])] (.op .add [(.var 19), (.con (.int 1))])), (.lst [(.con (.int 0))])])]),
      .app 16 (.call 7 [(.var 1), (.lst [(.op .list [(.slc (.var 17) [] [(.var 20)])]), (.op .tuple [(.slc (.var 17) [] [(.var 20)])]), (.var 17)])] [] [])]
def L10b : S := .ass 18 (.op .maxL [(.op .add [(.lst [(.con (.int 1))]), (.comp (.nm 17) .seq [(.var 16)] [] (.op .len [(.var 17)]))])])
def L10c : S := .iff (.bor [(.op .ne [(.call 21 [(.op .idx [(.var 16), (.con (.int 0))]), (.op .idx [(.var 16), (.con (.int 1))]), (.op .idx [(.var 16), (.con (.int 2))]), (.op .idx [(.var 16), (.con (.int 3))])] [] [(.op .idx [(.var 7), (.con (.int 0))])]), (.var 7)]), (.band [(.op .eq [(.var 18), (.op .idx [(.var 7), (.con (.int 0))])]), (.op .ne [(.call 22 [(.op .idx [(.var 16), (.con (.int 0))]), (.op .idx [(.var 16), (.con (.int 1))]), (.op .idx [(.var 16), (.con (.int 2))]), (.op .idx [(.var 16), (.con (.int 3))])] [] []), (.var 7)])])]) [.ret (.con (.bl false))] []
def L10d : List S := [.iff (.band [(.op .ne [(.comp (.nm 17) .seq [(.var 16)] [(.op .gt [(.op .len [(.var 17)]), (.op .sub [(.var 18), (.con (.int 1))])])] (.op .len [(.var 17)])), (.lst [])]), (.op .ne [(.heard 0 (.call 21 [(.op .idx [(.var 16), (.con (.int 0))]), (.op .idx [(.var 16), (.con (.int 1))]), (.op .idx [(.var 16), (.con (.int 2))]), (.op .idx [(.var 16), (.con (.int 3))])] [] [(.var 4)])), (.tup [(.con (.str "heap"))])])]) [.ret (.con (.bl false))] []]
def L10e : S := .for (.nm 4) .seq [(.tup [(.con (.int 0)), (.con (.int 5)), (.con (.bl true)), (.con (.str "2")), (.op .sub [(.var 18), (.con (.int 1))])])] L10d
theorem l10_eq : L10 = .iff (.op .eq [(.var 10), (.con (.int 4))]) [.own 16 (.lst []), .for (.nm 17) .seq [(.var 9)] L10a, L10b, L10c, .frz 16, L10e] [] := rfl
theorem it_enumT (xs : List T) : itEval .enum [.tup xs] = some (xs.mapIdx fun i x => .tup [.int i, x]) := nr rfl
theorem slc_tup (st : Store) (xs : List T) (a b : Option Int) : slice st (.tup xs) a b = some (.tup (cut xs a b)) := nr rfl
/-- told lists of first fields -/
def Told (wide : Nat) (fs : List (Bool × List T)) (rows : Rows) : Prop := fs.map (fun f => padL wide f.2) = rows.map (fun r => r.map cT) ∧ ∀ f ∈ fs, f.2.length ≤ wide ∧ f.2.all Sm = true
theorem all_take {p : T → Bool} {l : List T} (h : l.all p = true) (m : Nat) : (l.take m).all p = true := by
  rw [List.all_eq_true] at h ⊢
  exact fun x hx => h x (List.mem_of_mem_take hx)
section
variable (P : Nat) (cells : List Int) {w : WD} {K : List Int} {d : Int → Nat} {KF : List Int} (G : LW w K d KF)
include G
theorem l10_row (r : List (Option Int)) (hr : r ∈ w.rows) (fs : List (Bool × List T)) (ρ : Env) (F : LF w K d KF ρ) (v16 : slotO ρ 16 = some (.lst (fs.map sq))) (hl : fs.length ≤ 100) (k : Nat) (st : Store) (h : Pen P cells (k + 1) st) :
    ∃ f ρ' st', asgR (assign (.nm 17) (rowT r) ρ) (fun ρ' => evalSs (CL P 8) (HR P) WN L10a ρ' st) = .nx ρ' st' ∧ LF w K d KF ρ' ∧ slotO ρ' 16 = some (.lst ((fs ++ [f]).map sq)) ∧ (f.2.length ≤ w.wide ∧ f.2.all Sm = true ∧ padL w.wide f.2 = r.map cT) ∧ Pen P cells k st' := by
  obtain ⟨rl, _⟩ := G.g.row r hr
  have w4 := G.g.w4
  obtain ⟨m, em, ml, tk⟩ := pos_pad r
  let xs : List T := [.lst ((r.map cT).take m), .tup ((r.map cT).take m), rowT r]
  obtain ⟨x, st', e, hx, j⟩ := pick_ok P 6 cells k st xs (by simp [xs]) (by simp [xs]) h
  have e : CL P 8 7 [.ref 1, .lst xs] [] st = _ := e
  obtain ⟨f, rfl, hf⟩ : ∃ f : Bool × List T, x = sq f ∧ (f.2.length ≤ w.wide ∧ f.2.all Sm = true ∧ padL w.wide f.2 = r.map cT) := by
    have pt : padL w.wide ((r.map cT).take m) = r.map cT := by
      unfold padL
      have : ((w.wide : Int).toNat - ((r.map cT).take m).length) = r.length - m := by simp; omega
      rw [this]
      have t2 := congrArg (List.map cT) tk
      rw [List.map_append, List.map_take, List.map_replicate] at t2
      exact t2
    have pa : padL w.wide (r.map cT) = r.map cT := by
      unfold padL
      have : ((w.wide : Int).toNat - (r.map cT).length) = 0 := by simp; omega
      rw [this]; simp
    simp only [xs, List.mem_cons, List.not_mem_nil, or_false] at hx
    rcases hx with rfl | rfl | rfl
    · exact ⟨(true, (r.map cT).take m), rfl, by simp; omega, all_take (sm_c r) m, pt⟩
    · exact ⟨(false, (r.map cT).take m), rfl, by simp; omega, all_take (sm_c r) m, pt⟩
    · exact ⟨(false, r.map cT), rfl, by simp; omega, sm_c r, pa⟩
  have l17 : 17 < ρ.length := by rw [F.len]; decide
  let ρ0 := ρ.set 17 (.val (rowT r))
  have F0 : LF w K d KF ρ0 := F.set (by decide)
  have a17 : slotV ρ0 17 = some (rowT r) := sv_eq l17
  have a16 : slotO ρ0 16 = some (.lst (fs.map sq)) := (so_ne (by decide)).trans v16
  have l20 : 20 < ρ0.length := by rw [F0.len]; decide
  let ρ1 := ρ0.set 20 (.val (.int m))
  have F1 : LF w K d KF ρ1 := F0.set (by decide)
  have b17 : slotV ρ1 17 = some (rowT r) := (sv_ne (by decide)).trans a17
  have b16 : slotO ρ1 16 = some (.lst (fs.map sq)) := (so_ne (by decide)).trans a16
  have b20 : slotV ρ1 20 = some (.int m) := sv_eq l20
  have l16 : 16 < ρ1.length := by rw [F1.len]; decide
  have c : cmpE (CL P 8) (HR P) (.tp [(.nm 19), (.nm 25)]) [.op .notN [.var 25]] (.op .add [(.var 19), (.con (.int 1))]) ρ0 ((r.map cT).mapIdx fun i x => T.tup [.int (i : Int), x]) st = .ok ((pos r 0).map T.int) st := by
    have := gQ_all r 0
    rw [mapIdx0] at this
    rw [← this]
    refine cmp_pure gQ fun t ht => ?_
    obtain ⟨i, o, rfl⟩ := mem_mapIdx ht
    have l19 : 19 < ρ0.length := by rw [F0.len]; decide
    have l25 : 25 < (ρ0.set 19 (.val (.int (i : Int)))).length := by rw [List.length_set, F0.len]; decide
    have q25 := sv_eq (t := cT o) l25
    have q19 : slotV ((ρ0.set 19 (.val (.int (i : Int)))).set 25 (.val (cT o))) 19 = some (.int i) := (sv_ne (by decide)).trans (sv_eq l19)
    rw [List.length_set] at l25
    cases o <;> simp [l19, l25, q25, so_none q25, q19, so_none q19, cT, gQ] <;> (simp only [cT] at q25 q19; simp [q25, so_none q25, q19, so_none q19])
  have pl : (pos r 0).length ≤ 100 := by
    have : ∀ (r : List (Option Int)) (j : Nat), (pos r j).length ≤ r.length := by
      intro r
      induction r with
      | nil => intro j; simp [pos]
      | cons o r ih => intro j; cases o <;> simp [pos] <;> have := ih (j + 1) <;> omega
    have := this r 0
    omega
  have ad : opEval st .add [.lst ((pos r 0).map T.int), .lst [.int 0]] = some (.lst ((pos r 0 ++ [0]).map T.int)) := by
    rw [List.map_append]
    exact op_addL st _ _ (by rw [szl]; simp; omega)
  have mx := op_maxL st (pos r 0 ++ [0]) (by simp)
  rw [em] at mx
  have ct := cut_to (r.map cT) m
  have en := it_enumT (r.map cT)
  have sl := slc_tup st (r.map cT) none (some (m : Int))
  rw [ct] at sl
  refine ⟨f, ρ1.set 16 (.own (.lst ((fs ++ [f]).map sq))), st', ?_, F1.set (by decide), so_eq l16, hf, j⟩
  have x1 : evalS (CL P 8) (HR P) WN (L10a.headD .pas) ρ0 st = .nx ρ1 st := by
    have a17' : slotV ρ0 17 = some (.tup (r.map cT)) := a17
    simp only [L10a, List.headD_cons, s_ass, e_op, bs_cons, bs_nil, own_op, own_comp, own_lst, orB_n, e_comp, own_var, so_none a17, e_var, a17', lift_s, bind_ok', en, itO_s, c, e_lst, es_cons, es_nil, e_con, ad, mx, then_ok', setS, if_pos l20, ρ1]
  have x2 : evalS (CL P 8) (HR P) WN (L10a.getLastD .pas) ρ1 st = .nx (ρ1.set 16 (.own (.lst ((fs ++ [f]).map sq)))) st' := by
    have b17' : slotV ρ1 17 = some (.tup (r.map cT)) := b17
    have sz : (fs.map sq).length < sizeLine := by rw [szl]; simp; omega
    have e2 : CL P 8 7 [.ref 1, .lst [.lst ((r.map cT).take m), .tup ((r.map cT).take m), .tup (r.map cT)]] [] st = .ok (sq f) st' := e
    have gl : L10a.getLastD .pas = .app 16 (.call 7 [(.var 1), (.lst [(.op .list [(.slc (.var 17) [] [(.var 20)])]), (.op .tuple [(.slc (.var 17) [] [(.var 20)])]), (.var 17)])] [] []) := rfl
    rw [gl]
    simp only [s_app, b16, lstR_s, e_call, es_cons, es_nil, e_var, F1.pen, lift_s, bind_ok', e_lst, e_op, bs_cons, bs_nil, own_slc, orB_n, e_slc, own_var, so_none b17, b17', so_none b20, b20, partOf, itO_s, sl, op_listT, op_tupT, flatS_nil, List.append_nil, e2, then_ok', if_pos sz, setS, if_pos l16, List.map_append, List.map_cons, List.map_nil]
  rw [as_nm, if_pos l17, asgR_s, show L10a = [L10a.headD .pas, L10a.getLastD .pas] from rfl, ss_cons, x1, seqR_nx, ss_cons, x2, seqR_nx, ss_nil]
theorem l10_rows (ρ : Env) (F : LF w K d KF ρ) (v16 : slotO ρ 16 = some (.lst [])) (k : Nat) (st : Store) (h : Pen P cells (k + w.rows.length) st) :
    ∃ fs ρ' st', forE (CL P 8) (HR P) WN (.nm 17) L10a (w.rows.map rowT) ρ st = .nx ρ' st' ∧ LF w K d KF ρ' ∧ slotO ρ' 16 = some (.lst (fs.map sq)) ∧ Told w.wide fs w.rows ∧ Pen P cells k st' := by
  have N40 := G.g.m
  obtain ⟨ρ', st', e, dn, rest, fs, hx, hw, F', v, ht, j⟩ := forE_rule (call := CL P 8) (hear := HR P) (W := WN) (tg := .nm 17) (body := L10a) (I := fun xs ρ s => ∃ (dn rest : Rows) (fs : List (Bool × List T)), xs = rest.map rowT ∧ w.rows = dn ++ rest ∧ LF w K d KF ρ ∧ slotO ρ 16 = some (.lst (fs.map sq)) ∧ Told w.wide fs dn ∧ Pen P cells (k + rest.length) s) (fun x xs ρ s ⟨dn, rest, fs, hx, hw, F, v, ht, j⟩ => by
    cases rest with
    | nil => cases hx
    | cons r rest =>
      cases hx
      have lf : fs.length = dn.length := by have := congrArg List.length ht.1; simpa using this
      have ld := congrArg List.length hw
      simp at ld
      obtain ⟨f, ρ', s', e, F', v', hf, j'⟩ := l10_row P cells G r (by rw [hw]; simp) fs ρ F v (by omega) (k + rest.length) s j
      refine ⟨ρ', s', e, dn ++ [r], rest, fs ++ [f], rfl, by rw [hw]; simp, F', v', ⟨?_, ?_⟩, j'⟩
      · rw [List.map_append, List.map_append, ht.1]; simp [hf.2.2]
      · intro g hg
        rcases List.mem_append.mp hg with q | q
        · exact ht.2 g q
        · rw [List.mem_singleton.mp q]; exact ⟨hf.1, hf.2.1⟩) (w.rows.map rowT) ρ st ⟨[], w.rows, [], rfl, rfl, F, v16, ⟨rfl, by simp⟩, h⟩
  cases rest with
  | cons r rest => cases hx
  | nil =>
    rw [List.append_nil] at hw
    subst hw
    exact ⟨fs, ρ', st', e, F', v, ht, j⟩
end
end M
end
/-! M20 -/
section
set_option linter.all false
set_option maxRecDepth 100000
set_option maxHeartbeats 2000000
namespace M
open Q C
open PySem (PyData sizeLine)
theorem mkO_told {wide : Nat} {fs : List (Bool × List T)} {rows : Rows} (h : Told wide fs rows) : mkO wide fs = rows.map rowT := by
  have := congrArg (List.map T.tup) h.1
  rw [List.map_map, List.map_map] at this
  exact this
theorem told_len {wide : Nat} {fs : List (Bool × List T)} {rows : Rows} (h : Told wide fs rows) : fs.length = rows.length := by
  have := congrArg List.length h.1
  simpa using this
def gG (W : Int) (t : T) : Option T := match opEval [] .len [t] with
  | some (.int n) => if W - 1 < n then some (.int n) else none
  | _ => none
theorem gG_sq (W : Int) (f : Bool × List T) : gG W (sq f) = if W - 1 < (f.2.length : Int) then some (.int f.2.length) else none := by
  obtain ⟨b, xs⟩ := f
  cases b <;> simp [gG, sq]
theorem len_sq (st : Store) (f : Bool × List T) : opEval st .len [sq f] = some (.int f.2.length) := by
  obtain ⟨b, xs⟩ := f
  cases b <;> simp [sq]
theorem gG_dp (W : Int) (fs : List (Bool × List T)) : ∀ x ∈ (fs.map sq).filterMap (gG W), Dp 0 x := by
  intro x hx
  obtain ⟨t, ht, e⟩ := List.mem_filterMap.mp hx
  obtain ⟨f, hf, rfl⟩ := List.mem_map.mp ht
  rw [gG_sq] at e
  split at e
  · cases e; exact .int
  · cases e
theorem gG_mem (W : Int) (fs : List (Bool × List T)) (h : ((fs.map sq).filterMap (gG W)).isEmpty = false) : ∃ f ∈ fs, W - 1 < (f.2.length : Int) := by
  cases e : (fs.map sq).filterMap (gG W) with
  | nil => rw [e] at h; cases h
  | cons x xs =>
    have hx : x ∈ (fs.map sq).filterMap (gG W) := by rw [e]; simp
    obtain ⟨t, ht, e2⟩ := List.mem_filterMap.mp hx
    obtain ⟨f, hf, rfl⟩ := List.mem_map.mp ht
    rw [gG_sq] at e2
    split at e2
    · exact ⟨f, hf, by assumption⟩
    · cases e2
theorem heap_dm {w : WD} : Dp 4 w.heapT := by
  refine .tup fun x hx => ?_
  simp at hx
  rcases hx with rfl | rfl
  · exact .int
  · refine .tup fun y hy => ?_
    obtain ⟨r, _, rfl⟩ := List.mem_map.mp hy
    refine .tup fun z hz => ?_
    obtain ⟨o, _, rfl⟩ := List.mem_map.mp hz
    cases o
    · exact .non
    · exact .int
section
variable (P : Nat) (cells : List Int) {w : WD} {K : List Int} {d : Int → Nat} {KF : List Int} (G : LW w K d KF)
include G
theorem mk_w (fs : List (Bool × List T)) (ht : Told w.wide fs w.rows) (st : Store) : finish (evalSs (CL P 7) (HR P) WN mkB2 [.val (.int w.wide), .val (.tup (fs.map sq)), .no, .no] st) = .ok w.heapT st := by
  have g := G.g
  have h4 := g.w4
  have h1 := g.w1
  have := mk_rest P 4 w.wide fs st ⟨by omega, by omega⟩ (by rw [told_len ht]; exact g.m) (fun f hf => ⟨by have := (ht.2 f hf).1; omega, (ht.2 f hf).2⟩)
  rw [mkO_told ht, told_len ht, okF_row g (by omega), if_pos rfl] at this
  exact this
theorem mk_ex (fs : List (Bool × List T)) (ht : Told w.wide fs w.rows) (t : T) (W : Int) (hn : Sm t = true) (h : betB 1 4 t = false ∨ t = .int (W - 1)) (hb : ∃ f ∈ fs, W - 1 < (f.2.length : Int)) (st : Store) : finish (evalSs (CL P 7) (HR P) WN mkB2 [.val t, .val (.tup (fs.map sq)), .no, .no] st) = .ex ⟨"InvalidHeap", []⟩ st := by
  cases b : betB 1 4 t with
  | false => exact mk_bad P 4 t (fs.map sq) st hn b
  | true =>
    rcases h with h | rfl
    · rw [h] at b; cases b
    · have b2 : (decide ((1 : Int) ≤ W - 1) && decide (W - 1 ≤ 4)) = true := b
      rw [Bool.and_eq_true] at b2
      have c1 := of_decide_eq_true b2.1
      have c2 := of_decide_eq_true b2.2
      have h4 := G.g.w4
      have := mk_rest P 4 (W - 1) fs st ⟨c1, c2⟩ (by rw [told_len ht]; exact G.g.m) (fun f hf => ⟨by have := (ht.2 f hf).1; omega, (ht.2 f hf).2⟩)
      rw [mk_big (W - 1) fs _ (by omega) hb] at this
      exact this
theorem l10c (f0 f1 f2 f3 : Bool × List T) (ht : Told w.wide [f0, f1, f2, f3] w.rows) (ρ : Env) (F : LF w K d KF ρ) (v16 : slotO ρ 16 = some (.lst ([f0, f1, f2, f3].map sq))) (v18 : slotV ρ 18 = some (.int (maxI (1 :: lens [f0, f1, f2, f3])))) (st : Store) : evalS (CL P 8) (HR P) WN L10c ρ st = .nx ρ st := by
  have m := mk_w P G _ ht st
  have e1 : CL P 8 21 [sq f0, sq f1, sq f2, sq f3] [.int w.wide] st = .ok w.heapT st := by
    rw [cl21 P 7]
    have := mk_given P 7 (.int w.wide) [f0, f1, f2, f3] st rfl
    simp only [List.map_cons, List.map_nil] at this m
    rw [this]
    exact m
  have n1 := ne_same heap_dm.dm st (t := w.heapT)
  have iw : opEval st .idx [w.heapT, .int 0] = some (.int w.wide) := by simp [WD.heapT]
  by_cases c : maxI (1 :: lens [f0, f1, f2, f3]) = w.wide
  · have e2 : CL P 8 22 [sq f0, sq f1, sq f2, sq f3] [] st = .ok w.heapT st := by
      rw [cl22 P 7]
      have := mk_dflt P 7 [f0, f1, f2, f3] st (by simp)
      rw [c] at this
      simp only [List.map_cons, List.map_nil] at this m
      rw [this]
      exact m
    have q : opEval st .eq [.int (maxI (1 :: lens [f0, f1, f2, f3])), .int w.wide] = some (.bl true) := by rw [op_eq, eq_int, decide_eq_true c]; rfl
    simp [L10c, v16, v18, so_none v18, F.heap, so_none F.heap, iw, e1, -op_ne, n1, -op_eq, q, e2]
  · have q : opEval st .eq [.int (maxI (1 :: lens [f0, f1, f2, f3])), .int w.wide] = some (.bl false) := by rw [op_eq, eq_int, decide_eq_false c]; rfl
    simp [L10c, v16, v18, so_none v18, F.heap, so_none F.heap, iw, e1, -op_ne, n1, -op_eq, q]
theorem l10d (f0 f1 f2 f3 : Bool × List T) (ht : Told w.wide [f0, f1, f2, f3] w.rows) (W : Int) (t : T) (hs : Sm t = true) (hn : isNonT t = false) (hd : betB 1 4 t = false ∨ t = .int (W - 1)) (ρ : Env) (F : LF w K d KF ρ) (v16 : slotV ρ 16 = some (.lst ([f0, f1, f2, f3].map sq))) (v18 : slotV ρ 18 = some (.int W)) (k : Nat) (st : Store) (h : Pen P cells k st) :
    ∃ ρ', asgR (assign (.nm 4) t ρ) (fun ρ' => evalSs (CL P 8) (HR P) WN L10d ρ' st) = .nx ρ' st ∧ LF w K d KF ρ' ∧ slotV ρ' 16 = some (.lst ([f0, f1, f2, f3].map sq)) ∧ slotV ρ' 18 = some (.int W) := by
  have l4 : 4 < ρ.length := by rw [F.len]; decide
  let ρ0 := ρ.set 4 (.val t)
  have F0 : LF w K d KF ρ0 := F.set (by decide)
  have a4 : slotV ρ0 4 = some t := sv_eq l4
  have a16 : slotV ρ0 16 = some (.lst ([f0, f1, f2, f3].map sq)) := (sv_ne (by decide)).trans v16
  have a18 : slotV ρ0 18 = some (.int W) := (sv_ne (by decide)).trans v18
  refine ⟨ρ0, ?_, F0, a16, a18⟩
  have c : cmpE (CL P 8) (HR P) (.nm 17) [(.op .gt [(.op .len [(.var 17)]), (.op .sub [(.var 18), (.con (.int 1))])])] (.op .len [(.var 17)]) ρ0 ([f0, f1, f2, f3].map sq) st = .ok (([f0, f1, f2, f3].map sq).filterMap (gG W)) st := by
    refine cmp_pure (gG W) fun x hx => ?_
    obtain ⟨f, hf, rfl⟩ := List.mem_map.mp hx
    have l17 : 17 < ρ0.length := by rw [F0.len]; decide
    have b17 := sv_eq (ρ := ρ0) (t := sq f) l17
    have b18 : slotV (ρ0.set 17 (.val (sq f))) 18 = some (.int W) := (sv_ne (by decide)).trans a18
    rw [gG_sq]
    by_cases q : W - 1 < (f.2.length : Int) <;> simp [l17, b17, so_none b17, b18, so_none b18, len_sq, q]
  have ne := eq_emp (st := st) (gG_dp W [f0, f1, f2, f3])
  have nq : opEval st .ne [.lst (([f0, f1, f2, f3].map sq).filterMap (gG W)), .lst []] = some (.bl (!(([f0, f1, f2, f3].map sq).filterMap (gG W)).isEmpty)) := by rw [op_ne, ne]; rfl
  have key : evalSs (CL P 8) (HR P) WN L10d ρ0 st = .nx ρ0 st := by
    cases em : (([f0, f1, f2, f3].map sq).filterMap (gG W)).isEmpty with
    | true =>
      rw [em] at nq
      generalize ([f0, f1, f2, f3].map sq).filterMap (gG W) = R at c nq
      simp only [L10d, ss_cons, s_iff, own_band, orB_n, e_band, fs_cons, bop_two, e_op, bs_cons, bs_nil, own_comp, own_lst, e_comp, own_var, so_none a16, e_var, a16, lift_s, bind_ok', it_seqL, itO_s, c, e_lst, es_nil, nq, Bool.not_true, tr_bl, bopK_s, if_pos rfl, if_true, then_ok', tstR_f, ss_nil, seqR_nx]
    | false =>
      rw [em] at nq
      have mx := mk_ex P G _ ht t W hs hd (gG_mem W _ em) st
      have e1 : CL P 8 21 [sq f0, sq f1, sq f2, sq f3] [t] st = .ex ⟨"InvalidHeap", []⟩ st := by
        rw [cl21 P 7]
        have := mk_given P 7 t [f0, f1, f2, f3] st hn
        simp only [List.map_cons, List.map_nil] at this mx
        rw [this]
        exact mx
      obtain ⟨a, gr, rfl, _⟩ := h
      have hh := hear_heap P [penT cells a gr] [.tab P tqL, penT cells a gr]
      have n1 := ne_same (t := .tup [.str "heap"]) (Dp.dm (n := 2) (.tup (by intro y hy; simp at hy; rw [hy]; exact .str (by decide +kernel)))) [.tab P tqL, penT cells a gr]
      have nqf : ¬ ((!false) = false) := by decide
      generalize hst : [T.tab P tqL, penT cells a gr] = st at *
      generalize ([f0, f1, f2, f3].map sq).filterMap (gG W) = R at c nq
      have i0 : opEval st .idx [.lst ([f0, f1, f2, f3].map sq), .int 0] = some (sq f0) := by simp
      have i1 : opEval st .idx [.lst ([f0, f1, f2, f3].map sq), .int 1] = some (sq f1) := by simp
      have i2 : opEval st .idx [.lst ([f0, f1, f2, f3].map sq), .int 2] = some (sq f2) := by simp
      have i3 : opEval st .idx [.lst ([f0, f1, f2, f3].map sq), .int 3] = some (sq f3) := by simp
      simp only [L10d, ss_cons, s_iff, own_band, orB_n, e_band, fs_cons, fs_nil, bop_two, bop_one, e_op, bs_cons, bs_nil, own_comp, own_lst, own_heard, own_tup, own_con, e_comp, own_var, so_none a16, e_var, a16, lift_s, bind_ok', it_seqL, itO_s, c, e_lst, es_nil, nq, tr_bl, bopK_s, if_neg nqf, e_heard, e_call, es_cons, i0, i1, i2, i3, e_con, a4, e1, flatS_nil, List.append_nil, hh, e_tup, n1, then_ok', tstR_f, ss_nil, seqR_nx]
  rw [as_nm, if_pos l4, asgR_s, key]
theorem l10 {ρ : Env} (F : LF w K d KF ρ) (k : Nat) (st : Store) (h : Pen P cells (k + 40) st) : ∃ ρ' st', evalS (CL P 8) (HR P) WN L10 ρ st = .nx ρ' st' ∧ LF w K d KF ρ' ∧ Pen P cells k st' := by
  by_cases c : (w.rows.length : Int) = 4
  · have q : opEval st .eq [.int w.rows.length, .int 4] = some (.bl true) := by rw [op_eq, eq_int, decide_eq_true c]; rfl
    have l16 : 16 < ρ.length := by rw [F.len]; decide
    have Fa : LF w K d KF (ρ.set 16 (.own (.lst []))) := F.set (by decide)
    obtain ⟨fs, ρ1, st1, e1, F1, v16, ht, j⟩ := l10_rows P cells G (ρ.set 16 (.own (.lst []))) Fa (so_eq l16) (k + 36) st (h.less (by omega))
    have tl := told_len ht
    match fs, tl, ht, v16 with
    | [f0, f1, f2, f3], _, ht, v16 =>
      let W := maxI (1 :: lens [f0, f1, f2, f3])
      let ρ2 := ρ1.set 18 (.val (.int W))
      have l18 : 18 < ρ1.length := by rw [F1.len]; decide
      have F2 : LF w K d KF ρ2 := F1.set (by decide)
      have a18 : slotV ρ2 18 = some (.int W) := sv_eq l18
      have a16 : slotO ρ2 16 = some (.lst ([f0, f1, f2, f3].map sq)) := (so_ne (by decide)).trans v16
      have l16b : 16 < ρ2.length := by rw [F2.len]; decide
      let ρ3 := ρ2.set 16 (.val (.lst ([f0, f1, f2, f3].map sq)))
      have F3 : LF w K d KF ρ3 := F2.set (by decide)
      have b16 : slotV ρ3 16 = some (.lst ([f0, f1, f2, f3].map sq)) := sv_eq l16b
      have b18 : slotV ρ3 18 = some (.int W) := (sv_ne (by decide)).trans a18
      have x0 : evalS (CL P 8) (HR P) WN (.own 16 (.lst [])) ρ st = .nx (ρ.set 16 (.own (.lst []))) st := by
        simp [freshE, isMut, setS, l16]
      have x1 : evalS (CL P 8) (HR P) WN (.for (.nm 17) .seq [(.var 9)] L10a) (ρ.set 16 (.own (.lst []))) st = .nx ρ1 st1 := by
        have r9 : slotV (ρ.set 16 (.own (.lst []))) 9 = some (.tup (w.rows.map rowT)) := Fa.rows
        simp only [s_for, es_cons, es_nil, e_var, r9, lift_s, bind_ok', then_ok', it_seqT, itR_s, e1]
      have x2 : evalS (CL P 8) (HR P) WN L10b ρ1 st1 = .nx ρ2 st1 := by
        have c := lens_comp (CL P 8) (HR P) [f0, f1, f2, f3] ρ1 17 st1 (by rw [F1.len]; decide)
        have a : opEval st1 .add [.lst [.int 1], .lst ((lens [f0, f1, f2, f3]).map T.int)] = some (.lst ((1 :: lens [f0, f1, f2, f3]).map T.int)) := op_addL st1 _ _ (by rw [szl]; simp [lens])
        have m := op_maxL st1 (1 :: lens [f0, f1, f2, f3]) (by simp)
        simp only [L10b, s_ass, e_op, bs_cons, bs_nil, own_op, own_lst, own_comp, orB_n, e_lst, es_cons, es_nil, e_con, bind_ok', e_comp, own_var, v16, orB_s, it_seqL, itO_s, c, lift_s, a, m, then_ok', setS, if_pos l18, ρ2, W]
      have x3 := l10c P G f0 f1 f2 f3 ht ρ2 F2 a16 a18 st1
      have x4 : evalS (CL P 8) (HR P) WN (.frz 16) ρ2 st1 = .nx ρ3 st1 := by
        rw [s_frz, a16, someR_s, setS, if_pos l16b]
      obtain ⟨ρ4, st4, e4, hst, F4, _⟩ := forE_rule (call := CL P 8) (hear := HR P) (W := WN) (tg := .nm 4) (body := L10d) (I := fun xs ρ s => s = st1 ∧ LF w K d KF ρ ∧ (slotV ρ 16 = some (.lst ([f0, f1, f2, f3].map sq)) ∧ slotV ρ 18 = some (.int W)) ∧ ∀ t ∈ xs, Sm t = true ∧ isNonT t = false ∧ (betB 1 4 t = false ∨ t = .int (W - 1))) (fun t xs ρ s ⟨hs, F, hv, ht2⟩ => by
        subst hs
        obtain ⟨h1, h2, h3⟩ := ht2 t (by simp)
        obtain ⟨ρ', e, F', v1, v2⟩ := l10d P cells G f0 f1 f2 f3 ht W t h1 h2 h3 ρ F hv.1 hv.2 _ s j
        exact ⟨ρ', s, e, rfl, F', ⟨v1, v2⟩, fun y hy => ht2 y (List.mem_cons_of_mem _ hy)⟩) [.int 0, .int 5, .bl true, .str "2", .int (W - 1)] ρ3 st1 ⟨rfl, F3, ⟨b16, b18⟩, by
          intro t ht3
          simp only [List.mem_cons, List.not_mem_nil, or_false] at ht3
          rcases ht3 with rfl | rfl | rfl | rfl | rfl
          · exact ⟨rfl, rfl, .inl rfl⟩
          · exact ⟨rfl, rfl, .inl rfl⟩
          · exact ⟨rfl, rfl, .inl rfl⟩
          · exact ⟨rfl, rfl, .inl rfl⟩
          · exact ⟨rfl, rfl, .inr rfl⟩⟩
      subst hst
      have x5 : evalS (CL P 8) (HR P) WN L10e ρ3 st4 = .nx ρ4 st4 := by
        simp only [L10e, s_for, es_cons, es_nil, e_tup, e_con, bind_ok', e_op, bs_cons, bs_nil, own_var, own_con, so_none b18, orB_n, e_var, b18, lift_s, op_sub, then_ok', it_seqT, itR_s, e4]
      refine ⟨ρ4, st4, ?_, F4, j.less (by omega)⟩
      rw [l10_eq]
      simp only [s_iff, own_op, orB_n, e_op, bs_cons, bs_nil, own_var, own_con, so_none F.many, e_var, F.many, lift_s, e_con, bind_ok', q, then_ok', tr_bl, tstR_t]
      rw [ss_cons, x0, seqR_nx, ss_cons, x1, seqR_nx, ss_cons, x2, seqR_nx, ss_cons, x3, seqR_nx, ss_cons, x4, seqR_nx, ss_cons, x5, seqR_nx, ss_nil]
    | [], tl, _, _ => simp at tl; omega
    | [_], tl, _, _ => simp at tl; omega
    | [_, _], tl, _, _ => simp at tl; omega
    | [_, _, _], tl, _, _ => simp at tl; omega
    | _ :: _ :: _ :: _ :: _ :: _, tl, _, _ => simp at tl; omega
  · have q : opEval st .eq [.int w.rows.length, .int 4] = some (.bl false) := by rw [op_eq, eq_int, decide_eq_false c]; rfl
    refine ⟨ρ, st, ?_, F, h.less (by omega)⟩
    rw [l10_eq]
    simp only [s_iff, own_op, orB_n, e_op, bs_cons, bs_nil, own_var, own_con, so_none F.many, e_var, F.many, lift_s, e_con, bind_ok', q, then_ok', tr_bl, tstR_f, ss_nil]
end
end M
end
/-! M21 -/
section
set_option linter.all false
set_option maxRecDepth 100000
set_option maxHeartbeats 2000000
namespace M
open Q C
open PySem (PyData sizeLine)
/-! ### what is no heap, what are no registers -/
theorem cut_mem {xs : List T} {a b : Option Int} {x : T} (h : x ∈ cut xs a b) : x ∈ xs := List.mem_of_mem_drop (List.mem_of_mem_take h)
theorem cut_len (xs : List T) (a b : Option Int) : (cut xs a b).length ≤ xs.length := by
  unfold cut
  rw [List.length_take, List.length_drop]
  omega
theorem cmp_none {call : Nat → List T → List T → Store → O T} {hear : Nat → Store → O T → O T} {tg : Tg} {cs : List E} {elt : E} {ρ : Env} {st : Store} {xs : List T} (h : ∀ x ∈ xs, elO call hear cs elt (assign tg x ρ) st = .ok none st) : cmpE call hear tg cs elt ρ xs st = .ok [] st := by
  rw [cmp_pure (fun _ => none) h]
  congr 1
  induction xs with
  | nil => rfl
  | cons x xs ih => exact ih fun y hy => h y (List.mem_cons_of_mem _ hy)
def nn (k : Nat) : List T := List.replicate k .non
def bad1 (w : WD) : List T :=
  [.tup [.int w.wide, .lst (w.rows.map rowT)], .lst [.int w.wide, w.rowsT], .tup [.int w.wide], .tup [.int w.wide, w.rowsT, .int 0], .tup [.bl true, w.rowsT],
   .tup [.int w.wide, .tup (w.rows.map rowT ++ [.tup (nn (w.wide + 1))])]]
def bad2 (w : WD) : T := .tup [.int w.wide, .tup (w.rows.map rowT ++ [.tup (.int (w.rows.length + 1) :: nn (w.wide - 1))])]
def bad3 (w : WD) : List T :=
  [.tup [.int w.wide, .tup (w.rows.map rowT ++ [.tup (List.replicate w.wide (.bl false))])], .tup [.int w.wide, .tup (w.rows.map rowT ++ [.lst (nn w.wide)])],
   .tup [.int w.wide, .tup (List.replicate 41 (.tup (nn w.wide)))], .tup [.int 5, .tup []], .tup [.int 0, .tup []], .non]
section
variable (P : Nat) {w : WD} {K : List Int} {d : Int → Nat} {KF : List Int} (G : LW w K d KF)
include G
theorem l11 {ρ : Env} (F : LF w K d KF ρ) (st : Store) : evalS (CL P 8) (HR P) WN L11 ρ st = .nx (ρ.set 5 (.own (.lst (bad1 w)))) st := by
  have h4 := G.g.w4
  have N40 := G.g.m
  have l5 : 5 < ρ.length := by rw [F.len]; decide
  have iw : opEval st .idx [w.heapT, .int 0] = some (.int w.wide) := by simp [WD.heapT]
  have li : opEval st .list [w.rowsT] = some (.lst (w.rows.map rowT)) := nr rfl
  have mu : opEval st .mul [.tup [.non], .int ((w.wide : Int) + 1)] = some (.tup (nn (w.wide + 1))) := by
    rw [mulU_ok st [.non] _ (by simp; omega) (by omega) (by omega), flat_one, show ((w.wide : Int) + 1).toNat = w.wide + 1 by omega]; rfl
  have ad : opEval st .add [w.rowsT, .tup [.tup (nn (w.wide + 1))]] = some (.tup (w.rows.map rowT ++ [.tup (nn (w.wide + 1))])) := op_addT st _ _ (by rw [szl]; simp; omega)
  simp [L11, F.heap, so_none F.heap, F.rows, so_none F.rows, iw, li, mu, ad, freshE, isMut, setS, l5, bad1]
theorem l12 {ρ : Env} (F : LF w K d KF ρ) (v : slotO ρ 5 = some (.lst (bad1 w))) (st : Store) : evalS (CL P 8) (HR P) WN L12 ρ st = .nx (ρ.set 5 (.own (.lst (bad1 w ++ [bad2 w])))) st := by
  have h4 := G.g.w4
  have h1 := G.g.w1
  have N40 := G.g.m
  have l5 : 5 < ρ.length := by rw [F.len]; decide
  have iw : opEval st .idx [w.heapT, .int 0] = some (.int w.wide) := by simp [WD.heapT]
  have mu : opEval st .mul [.tup [.non], .int ((w.wide : Int) - 1)] = some (.tup (nn (w.wide - 1))) := by
    rw [mulU_ok st [.non] _ (by simp; omega) (by omega) (by omega), flat_one, show ((w.wide : Int) - 1).toNat = w.wide - 1 by omega]; rfl
  have ad1 : opEval st .add [.tup [.int ((w.rows.length : Int) + 1)], .tup (nn (w.wide - 1))] = some (.tup (.int ((w.rows.length : Int) + 1) :: nn (w.wide - 1))) := op_addT st _ _ (by rw [szl]; simp [nn]; omega)
  have ad : opEval st .add [w.rowsT, .tup [.tup (.int ((w.rows.length : Int) + 1) :: nn (w.wide - 1))]] = some (.tup (w.rows.map rowT ++ [.tup (.int ((w.rows.length : Int) + 1) :: nn (w.wide - 1))])) := op_addT st _ _ (by rw [szl]; simp; omega)
  have sz : (bad1 w).length < sizeLine := by rw [szl]; simp [bad1]
  simp [L12, v, F.heap, so_none F.heap, F.rows, so_none F.rows, F.many, so_none F.many, iw, mu, ad1, ad, setS, l5, sz, bad2]
theorem l13' {ρ : Env} (F : LF w K d KF ρ) (v : slotO ρ 5 = some (.lst (bad1 w ++ [bad2 w]))) (st : Store) : evalS (CL P 8) (HR P) WN L13 ρ st = .nx (ρ.set 5 (.own (.lst (bad1 w ++ [bad2 w] ++ bad3 w)))) st := by
  have h4 := G.g.w4
  have h1 := G.g.w1
  have N40 := G.g.m
  have l5 : 5 < ρ.length := by rw [F.len]; decide
  have iw : opEval st .idx [w.heapT, .int 0] = some (.int w.wide) := by simp [WD.heapT]
  have mu1 : opEval st .mul [.tup [.bl false], .int (w.wide : Int)] = some (.tup (List.replicate w.wide (.bl false))) := by
    rw [mulU_ok st [.bl false] _ (by simp; omega) (by omega) (by omega), flat_one, show (w.wide : Int).toNat = w.wide by omega]
  have mu2 : opEval st .mul [.lst [.non], .int (w.wide : Int)] = some (.lst (nn w.wide)) := by
    rw [mulT_ok st [.non] _ (by omega) (by simp; omega) (by omega), flat_one, show (w.wide : Int).toNat = w.wide by omega]; rfl
  have mu3 : opEval st .mul [.tup [.non], .int (w.wide : Int)] = some (.tup (nn w.wide)) := by
    rw [mulU_ok st [.non] _ (by simp; omega) (by omega) (by omega), flat_one, show (w.wide : Int).toNat = w.wide by omega]; rfl
  have mu4 : opEval st .mul [.tup [.tup (nn w.wide)], .int 41] = some (.tup (List.replicate 41 (.tup (nn w.wide)))) := by
    rw [mulU_ok st [.tup (nn w.wide)] 41 (by simp) (by omega) (by omega), flat_one]; rfl
  have ad1 : opEval st .add [w.rowsT, .tup [.tup (List.replicate w.wide (.bl false))]] = some (.tup (w.rows.map rowT ++ [.tup (List.replicate w.wide (.bl false))])) := op_addT st _ _ (by rw [szl]; simp; omega)
  have ad2 : opEval st .add [w.rowsT, .tup [.lst (nn w.wide)]] = some (.tup (w.rows.map rowT ++ [.lst (nn w.wide)])) := op_addT st _ _ (by rw [szl]; simp; omega)
  have ad3 : opEval st .add [.lst (bad1 w ++ [bad2 w]), .lst (bad3 w)] = some (.lst (bad1 w ++ [bad2 w] ++ bad3 w)) := op_addL st _ _ (by rw [szl]; simp [bad1, bad3])
  simp [bad3] at ad3
  simp [L13, v, F.heap, so_none F.heap, F.rows, so_none F.rows, F.many, so_none F.many, iw, mu1, mu2, mu3, mu4, ad1, ad2, ad3, freshE, freshOp, isMut, setS, l5, bad3]
theorem hp_bad (os : List T) (st : Store) (ck : ∀ f ∈ os, Ck f = true) (hb : ∃ f ∈ os, okF w.wide os.length f = false) : CL P 8 3 [.tup [.int w.wide, .tup os]] [] st = .ok (.bl false) st := by
  have h4 := G.g.w4
  have h1 := G.g.w1
  by_cases c : os.length ≤ 40
  · have := heap_ok P 5 w.wide os st ⟨by omega, by omega⟩ c ck
    have e : os.all (okF w.wide os.length) = false := by
      rw [List.all_eq_false]
      obtain ⟨f, hf, e⟩ := hb
      exact ⟨f, hf, by rw [e]; decide⟩
    rw [e] at this
    exact this
  · exact heap_big P 5 w.wide os st (by omega)
theorem hp_add (f : T) (st : Store) (ck : Ck f = true) (hb : okF w.wide (w.rows.length + 1) f = false) : CL P 8 3 [.tup [.int w.wide, .tup (w.rows.map rowT ++ [f])]] [] st = .ok (.bl false) st := by
  refine hp_bad P G _ st (fun g hg => ?_) ⟨f, by simp, by simpa using hb⟩
  rcases List.mem_append.mp hg with q | q
  · exact ck_rows w g q
  · rw [List.mem_singleton.mp q]; exact ck
theorem nn_sm (k : Nat) : (nn k).all Sm = true := by simp [nn, Sm]
theorem bads (st : Store) : ∀ t ∈ bad1 w ++ [bad2 w] ++ bad3 w, CL P 8 3 [t] [] st = .ok (.bl false) st := by
  intro t ht
  have h4 := G.g.w4
  have h1 := G.g.w1
  simp only [bad1, bad3, List.mem_append, List.mem_cons, List.not_mem_nil, or_false] at ht
  rcases ht with ((rfl | rfl | rfl | rfl | rfl | rfl) | rfl) | rfl | rfl | rfl | rfl | rfl | rfl
  · exact heap_no P 5 _ st (.inr (.inr (.inr (.inr ⟨_, _, rfl⟩))))
  · exact heap_no P 5 _ st (.inl ⟨_, rfl⟩)
  · exact heap_no P 5 _ st (.inr (.inr (.inl ⟨_, rfl, by simp⟩)))
  · exact heap_no P 5 _ st (.inr (.inr (.inl ⟨_, rfl, by simp⟩)))
  · exact heap_no P 5 _ st (.inr (.inr (.inr (.inl ⟨_, _, rfl, rfl, rfl⟩))))
  · refine hp_add P G _ st (nn_sm G _) ?_
    show (decide (((nn (w.wide + 1)).length : Int) = w.wide) && _) = false
    rw [decide_eq_false (by simp [nn]; omega)]; rfl
  · refine hp_add P G _ st ?_ ?_
    · show (Sm (.int ((w.rows.length : Int) + 1)) && (nn (w.wide - 1)).all Sm) = true
      rw [nn_sm G]; rfl
    · show (_ && ((false || (decide ((0 : Int) ≤ w.rows.length + 1) && decide ((w.rows.length : Int) + 1 ≤ w.rows.length + 1 - 1))) && _)) = false
      rw [decide_eq_false (show ¬ (w.rows.length : Int) + 1 ≤ w.rows.length + 1 - 1 by omega)]
      simp
  · refine hp_add P G _ st (by simp [Ck, Sm]) ?_
    obtain ⟨k, hk⟩ : ∃ k, w.wide = k + 1 := ⟨w.wide - 1, by omega⟩
    rw [hk, List.replicate_succ]
    show (_ && ((false || false) && _)) = false
    simp
  · exact hp_add P G _ st rfl rfl
  · exact heap_big P 5 _ _ st (by simp)
  · exact heap_no P 5 _ st (.inr (.inr (.inr (.inl ⟨_, _, rfl, rfl, rfl⟩))))
  · exact heap_no P 5 _ st (.inr (.inr (.inr (.inl ⟨_, _, rfl, rfl, rfl⟩))))
  · exact heap_no P 5 _ st (.inr (.inl rfl))
theorem l14 {ρ : Env} (F : LF w K d KF ρ) (v : slotO ρ 5 = some (.lst (bad1 w ++ [bad2 w] ++ bad3 w))) (st : Store) : evalS (CL P 8) (HR P) WN L14 ρ st = .nx ρ st := by
  have h4 := G.g.w4
  have h1 := G.g.w1
  have bd := bads P G st
  generalize bad1 w ++ [bad2 w] ++ bad3 w = bs at v bd
  have iw : opEval st .idx [w.heapT, .int 0] = some (.int w.wide) := by simp [WD.heapT]
  have mu3 : opEval st .mul [.tup [.non], .int (w.wide : Int)] = some (.tup (nn w.wide)) := by
    rw [mulU_ok st [.non] _ (by simp; omega) (by omega) (by omega), flat_one, show (w.wide : Int).toNat = w.wide by omega]; rfl
  have mu4 : opEval st .mul [.tup [.tup (nn w.wide)], .int 40] = some (.tup (List.replicate 40 (.tup (nn w.wide)))) := by
    rw [mulU_ok st [.tup (nn w.wide)] 40 (by simp) (by omega) (by omega), flat_one]; rfl
  have c : cmpE (CL P 8) (HR P) (.nm 24) [(.op (.notB false) [(.call 3 [(.var 24)] [] [])])] (.var 24) ρ bs st = .ok [] st := by
    refine cmp_none fun x hx => ?_
    have l24 : 24 < ρ.length := by rw [F.len]; decide
    have v24 := sv_eq (ρ := ρ) (t := x) l24
    simp [l24, v24, so_none v24, bd x hx]
  have n0 := ne_same (t := .lst []) (Dp.dm (n := 1) (.lst (by simp))) st
  have hb : CL P 8 3 [.tup [.int w.wide, .tup (List.replicate 40 (.tup (nn w.wide)))]] [] st = .ok (.bl true) st := by
    have hc : ∀ f ∈ List.replicate 40 (T.tup (nn w.wide)), f = .tup (nn w.wide) := fun f hf => (List.mem_replicate.mp hf).2
    have := heap_ok P 5 w.wide (List.replicate 40 (.tup (nn w.wide))) st ⟨by omega, by omega⟩ (by simp) (fun f hf => by rw [hc f hf]; exact nn_sm G _)
    have e : (List.replicate 40 (T.tup (nn w.wide))).all (okF w.wide (List.replicate 40 (T.tup (nn w.wide))).length) = true := by
      rw [List.all_eq_true]
      intro f hf
      rw [hc f hf]
      show (decide (((nn w.wide).length : Int) = w.wide) && (nn w.wide).all (heldB _)) = true
      simp [nn, heldB]
    rw [e] at this
    exact this
  simp [L14, v, c, -op_ne, n0, F.heap, so_none F.heap, iw, mu3, mu4, -List.reduceReplicate, hb]
def badR (w : WD) : List T :=
  let h := cut (w.held.map cT) none (some (-1))
  [.tup [], .tup (w.held.map cT ++ nn (7 - w.held.length)), .tup (h ++ [.int w.rows.length]), .tup (h ++ [.int (-1)]), .tup (h ++ [.bl true]), .lst (w.held.map cT), .non, .tup (h ++ [.str "0"])]
theorem l15 {ρ : Env} (F : LF w K d KF ρ) (st : Store) : evalS (CL P 8) (HR P) WN L15 ρ st = .nx (ρ.set 6 (.val (.lst (badR w)))) st := by
  have h6 := G.g.h6
  have h1 := G.g.h1
  have l6 : 6 < ρ.length := by rw [F.len]; decide
  have ln : opEval st .len [heldT w.held] = some (.int w.held.length) := by simp [heldT]
  have mu : opEval st .mul [.tup [.non], .int ((7 : Int) - w.held.length)] = some (.tup (nn (7 - w.held.length))) := by
    rw [mulU_ok st [.non] _ (by simp; omega) (by omega) (by omega), flat_one, show ((7 : Int) - w.held.length).toNat = 7 - w.held.length by omega]; rfl
  have ad0 : opEval st .add [heldT w.held, .tup (nn (7 - w.held.length))] = some (.tup (w.held.map cT ++ nn (7 - w.held.length))) := op_addT st _ _ (by rw [szl]; simp [nn]; omega)
  have li : opEval st .list [heldT w.held] = some (.lst (w.held.map cT)) := nr rfl
  have sl := slc_held st w.held none (some (-1))
  have cl := cut_len (w.held.map cT) none (some (-1))
  rw [List.length_map] at cl
  have ad : ∀ t, opEval st .add [.tup (cut (w.held.map cT) none (some (-1))), .tup [t]] = some (.tup (cut (w.held.map cT) none (some (-1)) ++ [t])) := fun t => op_addT st _ _ (by rw [szl]; simp only [List.length_singleton]; omega)
  simp [L15, F.held, so_none F.held, F.many, so_none F.many, ln, mu, ad0, li, partOf, sl, ad, setS, l6, badR]
theorem rg_bad (cs : List T) (st : Store) (hs : cs.all Sm = true) (h : (decide (1 ≤ cs.length ∧ cs.length ≤ 6) && cs.all (heldB w.rows.length)) = false) : CL P 8 14 [w.heapT, .tup cs] [] st = .ok (.bl false) st := by
  have := regs_ok P 5 (.int w.wide) (w.rows.map rowT) cs st hs
  rw [List.length_map, h] at this
  exact this
theorem cut_sm (b : Option Int) : (cut (w.held.map cT) none b).all Sm = true := by
  rw [List.all_eq_true]
  intro x hx
  exact List.all_eq_true.mp (sm_c w.held) x (cut_mem hx)
theorem rg_one (t : T) (st : Store) (hs : Sm t = true) (h : heldB w.rows.length t = false) : CL P 8 14 [w.heapT, .tup (cut (w.held.map cT) none (some (-1)) ++ [t])] [] st = .ok (.bl false) st := by
  refine rg_bad P G _ st ?_ ?_
  · rw [List.all_append, cut_sm G]
    simp [hs]
  · rw [List.all_append]
    simp [h]
theorem badRs (st : Store) : ∀ t ∈ badR w, CL P 8 14 [w.heapT, t] [] st = .ok (.bl false) st := by
  intro t ht
  have h6 := G.g.h6
  simp only [badR, List.mem_cons, List.not_mem_nil, or_false] at ht
  rcases ht with rfl | rfl | rfl | rfl | rfl | rfl | rfl | rfl
  · exact rg_bad P G [] st rfl rfl
  · refine rg_bad P G _ st (by rw [List.all_append, sm_c, nn_sm G]; rfl) ?_
    rw [decide_eq_false (by simp [nn]; omega)]; rfl
  · refine rg_one P G _ st rfl ?_
    show (false || (decide ((0 : Int) ≤ w.rows.length) && decide ((w.rows.length : Int) ≤ w.rows.length - 1))) = false
    rw [decide_eq_false (show ¬ (w.rows.length : Int) ≤ w.rows.length - 1 by omega)]; simp
  · exact rg_one P G _ st rfl rfl
  · exact rg_one P G _ st rfl rfl
  · exact regs_no P 5 _ _ st (.inl ⟨_, rfl⟩)
  · exact regs_no P 5 _ _ st (.inr rfl)
  · exact rg_one P G _ st rfl rfl
theorem l16 {ρ : Env} (F : LF w K d KF ρ) (v : slotV ρ 6 = some (.lst (badR w))) (st : Store) : evalS (CL P 8) (HR P) WN L16 ρ st = .nx ρ st := by
  have bd := badRs P G st
  generalize badR w = bs at v bd
  have mu : opEval st .mul [.tup [.non], .int 6] = some (.tup (nn 6)) := by
    rw [mulU_ok st [.non] _ (by simp) (by omega) (by omega), flat_one]; rfl
  have c : cmpE (CL P 8) (HR P) (.nm 24) [(.op (.notB false) [(.call 14 [(.var 7), (.var 24)] [] [])])] (.var 24) ρ bs st = .ok [] st := by
    refine cmp_none fun x hx => ?_
    have l24 : 24 < ρ.length := by rw [F.len]; decide
    have v24 := sv_eq (ρ := ρ) (t := x) l24
    have v7 : slotV (ρ.set 24 (.val x)) 7 = some w.heapT := (sv_ne (by decide)).trans F.heap
    simp [l24, v24, so_none v24, v7, bd x hx]
  have n0 := ne_same (t := .lst []) (Dp.dm (n := 1) (.lst (by simp))) st
  have hb : CL P 8 14 [w.heapT, .tup (nn 6)] [] st = .ok (.bl true) st := by
    have := regs_ok P 5 (.int w.wide) (w.rows.map rowT) (nn 6) st rfl
    exact this
  simp [L16, v, so_none v, c, -op_ne, n0, F.heap, mu, hb]
end
end M
end
/-! M22 -/
section
set_option linter.all false
set_option maxRecDepth 100000
set_option maxHeartbeats 2000000
namespace M
open Q C
open PySem (PyData sizeLine)
/-! ### the whole law -/
theorem turn (P : Nat) (cells : List Int) (k : Nat) (ρ : Env) (st : Store) (hl : ρ.length = 26) (hp : slotV ρ 1 = some (.ref 1)) (h : Pen P cells (k + 1000) st) :
    ∃ ρ' st', evalSs (CL P 8) (HR P) WN [L1, L2, L3, L4, L5, L6, L7, L8, L9, L10, L11, L12, L13, L14, L15, L16] ρ st = .nx ρ' st' ∧ ρ'.length = 26 ∧ slotV ρ' 1 = some (.ref 1) ∧ Pen P cells k st' := by
  obtain ⟨w, K, d, KF, ρ1, s1, e1, F1, G, j1⟩ := l13 P cells (k + 400) ρ st hl hp h
  have e4 := l4 P F1 G s1
  obtain ⟨ρ5, s5, e5, F5, j5⟩ := l5 P cells F1 G (k + 397) s1 j1
  have e6 := l6 P F5 G s5
  obtain ⟨ρ7, s7, e7, F7, j7⟩ := l7 P cells G F5 (k + 357) s5 j5
  obtain ⟨x, ρ8, s8, e8, F8, v8, hx, j8⟩ := l8 P cells G F7 (k + 356) s7 j7
  have e9 := l9 P cells G F8 v8 hx s8 _ j8
  obtain ⟨ρ10, s10, e10, F10, j10⟩ := l10 P cells G F8 (k + 316) s8 j8
  have l5' : 5 < ρ10.length := by rw [F10.len]; decide
  have e11 := l11 P G F10 s10
  let ρ11 := ρ10.set 5 (.own (.lst (bad1 w)))
  have F11 : LF w K d KF ρ11 := F10.set (by decide)
  have e12 := l12 P G F11 (so_eq l5') s10
  let ρ12 := ρ11.set 5 (.own (.lst (bad1 w ++ [bad2 w])))
  have F12 : LF w K d KF ρ12 := F11.set (by decide)
  have e13 := l13' P G F12 (so_eq (by rw [F11.len]; decide)) s10
  let ρ13 := ρ12.set 5 (.own (.lst (bad1 w ++ [bad2 w] ++ bad3 w)))
  have F13 : LF w K d KF ρ13 := F12.set (by decide)
  have e14 := l14 P G F13 (so_eq (by rw [F12.len]; decide)) s10
  have e15 := l15 P G F13 s10
  let ρ15 := ρ13.set 6 (.val (.lst (badR w)))
  have F15 : LF w K d KF ρ15 := F13.set (by decide)
  have e16 := l16 P G F15 (sv_eq (by rw [F13.len]; decide)) s10
  refine ⟨ρ15, s10, ?_, F15.len, F15.pen, j10.less (by omega)⟩
  rw [show [L1, L2, L3, L4, L5, L6, L7, L8, L9, L10, L11, L12, L13, L14, L15, L16] = [L1, L2, L3] ++ [L4, L5, L6, L7, L8, L9, L10, L11, L12, L13, L14, L15, L16] from rfl, ss_app, e1, seqR_nx]
  rw [ss_cons, e4, seqR_nx, ss_cons, e5, seqR_nx, ss_cons, e6, seqR_nx, ss_cons, e7, seqR_nx, ss_cons, e8, seqR_nx, ss_cons, e9, seqR_nx, ss_cons, e10, seqR_nx]
  rw [ss_cons, e11, seqR_nx, ss_cons, e12, seqR_nx, ss_cons, e13, seqR_nx, ss_cons, e14, seqR_nx, ss_cons, e15, seqR_nx, ss_cons, e16, seqR_nx, ss_nil]
theorem last_ok (P : Nat) (ρ : Env) (st : Store) : evalS (CL P 8) (HR P) WN (b_law.getLastD .pas) ρ st = .rt (.bl true) st := by
  obtain ⟨e1, e2, e3⟩ := end_ok P 4 st
  have e1 : CL P 8 23 [] [.int 3] st = _ := e1
  have e2 : CL P 8 24 [] [] st = _ := e2
  have e3 : CL P 8 25 [.lst [], .tup [], .lst [.int 0]] [] st = _ := e3
  have q (t : T) (h : Dp 4 t) : opEval st .eq [t, t] = some (.bl true) := by rw [op_eq, eq_same h.dm]; rfl
  have q1 := q (.tup [.int 3, .tup []]) (.tup (by intro x hx; simp at hx; rcases hx with rfl | rfl; exact .int; exact .tup (by simp)))
  have q2 := q (.tup [.int 1, .tup []]) (.tup (by intro x hx; simp at hx; rcases hx with rfl | rfl; exact .int; exact .tup (by simp)))
  have q3 := q (.tup [.int 1, .tup [.tup [.non], .tup [.non], .tup [.int 0]]]) (.tup (by
    intro x hx
    simp at hx
    rcases hx with rfl | rfl
    · exact .int
    · refine .tup fun y hy => ?_
      simp at hy
      rcases hy with rfl | rfl
      · exact .tup (by intro z hz; simp at hz; rw [hz]; exact .non)
      · exact .tup (by intro z hz; simp at hz; rw [hz]; exact .int)))
  have gl : b_law.getLastD .pas = .ret (.band [(.op .eq [(.call 23 [] [] [(.con (.int 3))]), (.tup [(.con (.int 3)), (.tup [])])]), (.op .eq [(.call 24 [] [] []), (.tup [(.con (.int 1)), (.tup [])])]), (.op .eq [(.call 25 [(.lst []), (.tup []), (.lst [(.con (.int 0))])] [] []), (.tup [(.con (.int 1)), (.tup [(.tup [(.con .non)]), (.tup [(.con .non)]), (.tup [(.con (.int 0))])])])])]) := rfl
  rw [gl]
  simp [e1, e2, e3, -op_eq, q1, q2, q3]
theorem math (P : Nat) (ns : List Int) (hn : ns.length ≤ 63) : ∃ st, finish (evalSs (CL P 8) (HR P) WN b_law (Slot.val (.scr (ns.map T.int)) :: List.replicate (fn_law.ns - 1) Slot.no) [.tab P tqL]) = .ok (.bl true) st := by
  let ρ0 : Env := Slot.val (.scr (ns.map T.int)) :: List.replicate 25 Slot.no
  have l0 : ρ0.length = 26 := by simp [ρ0]
  obtain ⟨cells, s1, e1, j1⟩ := pen_ok P 7 ns hn
  have e1 : CL P 8 9 [.scr (ns.map T.int)] [] [.tab P tqL] = _ := e1
  let ρ1 := ρ0.set 1 (.val (.ref 1))
  have l1 : ρ1.length = 26 := by simp [ρ1, l0]
  have v0 : slotV ρ0 0 = some (.scr (ns.map T.int)) := rfl
  have v1 : slotV ρ1 1 = some (.ref 1) := sv_eq (by omega)
  have x1 : evalS (CL P 8) (HR P) WN (.ass 1 (.call 9 [(.var 0)] [] [])) ρ0 [.tab P tqL] = .nx ρ1 s1 := by
    simp only [s_ass, e_call, es_cons, es_nil, e_var, v0, lift_s, bind_ok', bs_nil, flatS_nil, itO_s, List.append_nil, e1, then_ok', setS, if_pos (show 1 < ρ0.length by omega), ρ1]
  have rg := rng1 5 (by omega) (by omega)
  obtain ⟨ρ2, s2, e2, l2, v2, _⟩ := forE_rule (call := CL P 8) (hear := HR P) (W := WN) (tg := .nm 2) (body := [L1, L2, L3, L4, L5, L6, L7, L8, L9, L10, L11, L12, L13, L14, L15, L16]) (I := fun xs ρ s => ρ.length = 26 ∧ slotV ρ 1 = some (.ref 1) ∧ Pen P cells (1000 * xs.length) s) (fun x xs ρ s ⟨l, v, j⟩ => by
    have l2 : 2 < ρ.length := by omega
    obtain ⟨ρ', s', e, l', v', j'⟩ := turn P cells (1000 * xs.length) (ρ.set 2 (.val x)) s (by simpa using l) ((sv_ne (by decide)).trans v) (by rw [List.length_cons, Nat.mul_add] at j; exact j)
    exact ⟨ρ', s', by rw [as_nm, if_pos l2, asgR_s, e], l', v', j'⟩) ((List.range (Int.toNat 5)).map fun (i : Nat) => T.int i) ρ1 s1 ⟨l1, v1, j1.less (by simp)⟩
  have x2 : evalS (CL P 8) (HR P) WN (.for (.nm 2) .rng1 [(.con (.int 5))] [L1, L2, L3, L4, L5, L6, L7, L8, L9, L10, L11, L12, L13, L14, L15, L16]) ρ1 s1 = .nx ρ2 s2 := by
    simp only [s_for, es_cons, es_nil, e_con, bind_ok', then_ok', rg, itR_s, e2]
  refine ⟨s2, ?_⟩
  show finish (evalSs (CL P 8) (HR P) WN b_law ρ0 [.tab P tqL]) = _
  have lo := last_ok P ρ2 s2
  rw [law_eq]
  generalize b_law.getLastD .pas = z at lo
  rw [ss_cons, x1, seqR_nx, ss_cons, x2, seqR_nx, ss_cons, lo, seqR_rt, finish_rt]
end M
end
theorem PySem.Challenge.cw_swapguards_k02_whole_great_heaps_gone_th_holds : PySem.Challenge.rw_swapguards_k02_whole_great_heaps_gone_th.Holds := by
  exact C.holds_of fun P ns h => M.math P ns h
