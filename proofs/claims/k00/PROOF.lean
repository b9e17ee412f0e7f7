import PyProof.Rows.All
import Wide.All
import OpenK.AllK
import Wide.FinOn
import HandS.ForMost
import HandS.Wide
import HandS.TupAny
import HandS.IsInst
import HandS.DictComp
import HandS.Defaults
import HandS.Deep
import HandS.Conv
import HandS.Style
import HandS.Flow
import HandS.ExcInit
import HandS.ExcIs
import HandS.ExcField
import HandS.Strs
import HandS.SetFor
import HandS.SortRule
import HandS.More
import HandS.RaiseMore
import PyProof.ReprRoads
import KE.GoesMore
import HandS.Zip
import HandS.EndBits
import KE.KExcSuper
import HandS.ExcSuper
import HandS.Words
import HandS.Head0
import HandS.Head1
import HandS.Head2
import HandS.HeadHook1
import HandS.HeadHook2
import KE.KStateDown
import PySem.Challenge.RW_enoughhands_k00_errors_of_plans
set_option Elab.async false
set_option linter.all false
set_option maxRecDepth 100000
namespace En
open PySem L2

/-- a value: by value, but for mref, a place in the store -/
inductive D where
  | non
  | bl (b : Bool)
  | int (i : Int)
  | str (x : Str)
  | tup (ds : List D)
  | lst (ds : List D)
  | ro (ds : List D)
  | dic (kvs : List (Key × D))
  | mref (i : Nat)
  | err (x : Str) (d : D)

mutual
def D.py : D → PyData
  | .non => .none
  | .bl b => .bool b
  | .int i => .int i
  | .str x => .str x
  | .tup ds => .tuple (D.pys ds)
  | .lst ds => .list (D.pys ds)
  | .ro _ => .dict []
  | .dic _ => .dict []
  | .mref _ => .dict []
  | .err _ _ => .dict []
def D.pys : List D → List PyData
  | [] => []
  | d :: r => D.py d :: D.pys r
end

/-- what stands in the store -/
inductive O where
  | lst (ds : List D)
  | dic (kvs : List (Key × D))
  | dead
abbrev Sto := List O
abbrev Env := List (Option D)

inductive Res (α : Type) where
  | ok (a : α)
  | exc (c : Nat) (d : D) (st : Sto)
  | bad
def Res.bind {α β : Type} : Res α → (α → Res β) → Res β
  | .ok a, f => f a
  | .exc c d st, _ => .exc c d st
  | .bad, _ => .bad
@[simp] theorem Res.ok_bind {α β : Type} (a : α) (f : α → Res β) : (Res.ok a).bind f = f a := rfl
@[simp] theorem Res.bad_bind {α β : Type} (f : α → Res β) : (Res.bad : Res α).bind f = .bad := rfl
@[simp] theorem Res.exc_bind {α β : Type} (c : Nat) (d : D) (st : Sto) (f : α → Res β) : (Res.exc c d st : Res α).bind f = .exc c d st := rfl
theorem Res.bind_ok {α β : Type} {r : Res α} {f : α → Res β} {b : β} (h : r.bind f = .ok b) : ∃ a, r = .ok a ∧ f a = .ok b := by
  cases r with
  | ok a => exact ⟨a, rfl, h⟩
  | exc c d st => cases h
  | bad => cases h
def Res.of {α : Type} : Option α → Res α
  | some a => .ok a
  | none => .bad
@[simp] theorem Res.of_some {α : Type} (a : α) : Res.of (some a) = .ok a := rfl

/-- what a value is when it is read -/
def snap (st : Sto) : D → D
  | .mref i => match st[i]? with
    | some (.lst ds) => .lst ds
    | some (.dic kvs) => .dic kvs
    | _ => .mref i
  | d => d
@[simp] theorem snap_non (st : Sto) : snap st .non = .non := rfl
@[simp] theorem snap_bl (st : Sto) (b : Bool) : snap st (.bl b) = .bl b := rfl
@[simp] theorem snap_int (st : Sto) (i : Int) : snap st (.int i) = .int i := rfl
@[simp] theorem snap_str (st : Sto) (i : Str) : snap st (.str i) = .str i := rfl
@[simp] theorem snap_tup (st : Sto) (i : List D) : snap st (.tup i) = .tup i := rfl
@[simp] theorem snap_lst (st : Sto) (i : List D) : snap st (.lst i) = .lst i := rfl
@[simp] theorem snap_ro (st : Sto) (i : List D) : snap st (.ro i) = .ro i := rfl
@[simp] theorem snap_err (st : Sto) (x : Str) (i : D) : snap st (.err x i) = .err x i := rfl
@[simp] theorem snap_dic (st : Sto) (i : List (Key × D)) : snap st (.dic i) = .dic i := rfl
theorem snap_mref {st : Sto} {i : Nat} {ds : List D} (h : st[i]? = some (.lst ds)) : snap st (.mref i) = .lst ds := by simp [snap, h]
theorem snap_mrefd {st : Sto} {i : Nat} {ds : List (Key × D)} (h : st[i]? = some (.dic ds)) : snap st (.mref i) = .dic ds := by simp [snap, h]

def D.isRef : D → Bool
  | .mref _ => true
  | _ => false
mutual
/-- no place of the store in it -/
def D.clean : D → Bool
  | .non => true
  | .bl _ => true
  | .int _ => true
  | .str _ => true
  | .tup ds => D.cleans ds
  | .lst ds => D.cleans ds
  | .ro ds => D.cleans ds
  | .dic kvs => D.cleanK kvs
  | .mref _ => false
  | .err _ d => D.clean d
def D.cleans : List D → Bool
  | [] => true
  | d :: r => D.clean d && D.cleans r
def D.cleanK : List (Key × D) → Bool
  | [] => true
  | (_, d) :: r => D.clean d && D.cleanK r
end

inductive BOp where
  | add | sub | mul | fdiv | mod | pow
abbrev LIM : Nat := 16777216
def bop : BOp → D → D → Res D
  | .add, .int i, .int j => .ok (.int (i + j))
  | .add, .str i, .str j => if i.length + j.length ≤ LIM then .ok (.str (i ++ j)) else .bad
  | .add, .tup i, .tup j => if i.length + j.length ≤ LIM then .ok (.tup (i ++ j)) else .bad
  | .add, .lst i, .lst j => if i.length + j.length ≤ LIM then .ok (.lst (i ++ j)) else .bad
  | .sub, .int i, .int j => .ok (.int (i - j))
  | .mul, .int i, .int j => if i.natAbs.log2 + j.natAbs.log2 < 1000000 then .ok (.int (i * j)) else .bad
  | .fdiv, .int i, .int j => if 0 < j ∧ j.natAbs.log2 < 9000 then .ok (.int (i / j)) else .bad
  | .mod, .int i, .int j => if 0 < j then .ok (.int (i % j)) else .bad
  | .pow, .int i, .int j => if 0 ≤ j ∧ (Builtin.Int.intBits i : Int) * j ≤ 2 ^ 27 then .ok (.int (i ^ j.toNat)) else .bad
  | _, _, _ => .bad

inductive COp where
  | lt | le | gt | ge | eq | ne | isin | notin | isNone | notNone
def ltStr (i j : Str) : Bool := decide (i.cps.toList < j.cps.toList)
def keyOf : D → Option Key
  | .int i => some (.inl i)
  | .str x => some (.inr x)
  | _ => none
def dget (kvs : List (Key × D)) (k : Key) : Option D := (kvs.find? fun kv => decide (kv.1 = k)).map (·.2)
def dput (kvs : List (Key × D)) (k : Key) (d : D) : List (Key × D) :=
  if (kvs.any fun kv => decide (kv.1 = k)) = true then kvs.map (fun kv => if kv.1 = k then (kv.1, d) else kv) else kvs ++ [(k, d)]
def isin : D → D → Res Bool
  | d, .lst ds => if SeqAt.shaped d.py && SeqAt.shaped (D.lst ds).py then .ok (ds.any fun z => PyData.eqv z.py d.py) else .bad
  | d, .tup ds => if SeqAt.shaped d.py && SeqAt.shaped (D.tup ds).py then .ok (ds.any fun z => PyData.eqv z.py d.py) else .bad
  | .str x, .str y => match x.cps.toList with
    | [c] => .ok (decide (c ∈ y.cps.toList))
    | _ => .bad
  | d, .dic kvs => match keyOf d with
    | some k => .ok (dget kvs k).isSome
    | none => .bad
  | _, _ => .bad
def cop : COp → D → D → Res Bool
  | .lt, .int i, .int j => .ok (decide (i < j))
  | .le, .int i, .int j => .ok (decide (i ≤ j))
  | .gt, .int i, .int j => .ok (decide (j < i))
  | .ge, .int i, .int j => .ok (decide (j ≤ i))
  | .lt, .str i, .str j => .ok (ltStr i j)
  | .eq, a, b => if SeqAt.shaped a.py && SeqAt.shaped b.py then .ok (PyData.eqv a.py b.py) else .bad
  | .ne, a, b => if SeqAt.shaped a.py && SeqAt.shaped b.py then .ok (!PyData.eqv a.py b.py) else .bad
  | .isin, a, b => isin a b
  | .notin, a, b => (isin a b).bind fun r => .ok (!r)
  | .isNone, .non, .non => .ok true
  | .isNone, .mref _, _ => .bad
  | .isNone, _, .non => .ok false
  | .notNone, .non, .non => .ok false
  | .notNone, .mref _, _ => .bad
  | .notNone, _, .non => .ok true
  | _, _, _ => .bad

/-- the item at a place, from the end if below nought -/
def atD (ds : List D) (i : Int) : Option D := atI ds i
def idx : D → D → Res D
  | .lst ds, .int i => Res.of (atD ds i)
  | .ro ds, .int i => Res.of (atD ds i)
  | .tup ds, .int i => Res.of (atD ds i)
  | .str x, .int i => if x.length ≤ LIM then match atI x.cps.toList i with
      | some c => .ok (.str ⟨#[c]⟩)
      | none => .bad else .bad
  | .dic kvs, k => match keyOf k with
    | some k => Res.of (dget kvs k)
    | none => .bad
  | _, _ => .bad
def cutD (ds : List D) (lo hi : Option Int) : List D :=
  let a := HT.sIx ds.length 0 lo
  let b := HT.sIx ds.length ds.length hi
  (ds.drop a).take (b - a)
def optI : Option D → Option (Option Int)
  | none => some none
  | some (.int i) => some (some i)
  | some _ => none
def slc : D → Option D → Option D → Res D
  | .lst ds, lo, hi => match optI lo, optI hi with
    | some l, some h => .ok (.lst (cutD ds l h))
    | _, _ => .bad
  | .tup ds, lo, hi => match optI lo, optI hi with
    | some l, some h => .ok (.tup (cutD ds l h))
    | _, _ => .bad
  | .str x, lo, hi => match optI lo, optI hi with
    | some l, some h => if x.length ≤ LIM then .ok (.str (L2.cutS x l h)) else .bad
    | _, _ => .bad
  | _, _, _ => .bad
def backS (x : Str) : Str := ⟨x.cps.toList.reverse.toArray⟩
def revD : D → Res D
  | .lst ds => .ok (.lst ds.reverse)
  | .tup ds => .ok (.tup ds.reverse)
  | .str x => if x.length ≤ LIM then .ok (.str (backS x)) else .bad
  | _ => .bad

inductive B where
  | len | abs | int | tuple | list | all | any | sum | max2 | min2 | max1 | min1 | sorted | sortset | repr | dict | isInt | isBool | isStr | isTuple | isList
def boolsD : List D → Option (List Bool)
  | [] => some []
  | .bl b :: r => (boolsD r).map (b :: ·)
  | _ => none
def intsD : List D → Option (List Int)
  | [] => some []
  | .int b :: r => (intsD r).map (b :: ·)
  | _ => none
def strsD : List D → Option (List Str)
  | [] => some []
  | .str b :: r => (strsD r).map (b :: ·)
  | _ => none
def itemsOf : D → Option (List D)
  | .lst ds => some ds
  | .ro ds => some ds
  | .tup ds => some ds
  | _ => none
def pairsD : List D → Option (List (Key × D))
  | [] => some []
  | .tup [k, d] :: r => match keyOf k, pairsD r with
    | some k, some r => some ((k, d) :: r)
    | _, _ => none
  | _ => none
def dmerge (a b : List (Key × D)) : List (Key × D) := b.foldl (fun acc kv => dput acc kv.1 kv.2) a
def insS (x : Str) : List Str → List Str
  | [] => [x]
  | y :: r => if ltStr x y then x :: y :: r else y :: insS x r
def sortS (l : List Str) : List Str := l.foldl (fun acc x => insS x acc) []
def insI (x : Int) : List Int → List Int
  | [] => [x]
  | y :: r => if x < y then x :: y :: r else if x = y then y :: r else y :: insI x r
/-- ascending, each once -/
def sortI (l : List Int) : List Int := l.foldl (fun acc x => insI x acc) []
def pairI : D → Option (Int × Int)
  | .tup [.int a, .int b] => some (a, b)
  | _ => none
def pairsI : List D → Option (List (Int × Int))
  | [] => some []
  | d :: r => match pairI d, pairsI r with
    | some p, some q => some (p :: q)
    | _, _ => none
def ltP2 (p q : Int × Int) : Bool := if p.1 = q.1 then decide (p.2 < q.2) else decide (p.1 < q.1)
def insP (x : Int × Int) : List (Int × Int) → List (Int × Int)
  | [] => [x]
  | y :: r => if ltP2 x y then x :: y :: r else y :: insP x r
def sortP (l : List (Int × Int)) : List (Int × Int) := l.foldl (fun acc x => insP x acc) []
def pairD (p : Int × Int) : D := .tup [.int p.1, .int p.2]
def maxL : List Int → Option Int
  | [] => none
  | x :: r => some (r.foldl (fun a b => if b > a then b else a) x)
def minL : List Int → Option Int
  | [] => none
  | x :: r => some (r.foldl (fun a b => if b < a then b else a) x)
def strKeys : List (Key × D) → Option (List Str)
  | [] => some []
  | (.inr b, _) :: r => (strKeys r).map (b :: ·)
  | _ => none
def kPy : Key → PyData
  | .inl i => .int i
  | .inr x => .str x
/-- a dict of ints -/
def intKvs : List (Key × D) → Option (List (Key × Int))
  | [] => some []
  | (k, .int i) :: r => (intKvs r).map ((k, i) :: ·)
  | _ => none
/-- is a class of errors below another: each is one of HandError, which is a ValueError -/
def errSub (y x : Str) : Bool := y == x || x == ("HandError" : Str) || x == ("ValueError" : Str)
def bi : B → List D → Res D
  | .len, [.lst ds] => .ok (.int ds.length)
  | .len, [.ro ds] => .ok (.int ds.length)
  | .len, [.tup ds] => .ok (.int ds.length)
  | .len, [.str x] => if x.length ≤ LIM then .ok (.int x.length) else .bad
  | .len, [.dic kvs] => .ok (.int kvs.length)
  | .abs, [.int i] => .ok (.int (if i < 0 then -i else i))
  | .int, [.int i] => .ok (.int i)
  | .int, [.bl b] => .ok (.int (if b then 1 else 0))
  | .tuple, [.lst ds] => .ok (.tup ds)
  | .tuple, [.tup ds] => .ok (.tup ds)
  | .list, [.lst ds] => .ok (.lst ds)
  | .list, [.tup ds] => .ok (.lst ds)
  | .all, [.lst ds] => (Res.of (boolsD ds)).bind fun bs => .ok (.bl (bs.all id))
  | .any, [.lst ds] => (Res.of (boolsD ds)).bind fun bs => .ok (.bl (bs.any id))
  | .sum, [.lst ds] => (Res.of (intsD ds)).bind fun bs => .ok (.int bs.sum)
  | .max2, [.int i, .int j] => .ok (.int (if j > i then j else i))
  | .min2, [.int i, .int j] => .ok (.int (if j < i then j else i))
  | .max1, [.lst ds] => (Res.of (intsD ds)).bind fun bs => (Res.of (maxL bs)).bind fun m => .ok (.int m)
  | .min1, [.lst ds] => (Res.of (intsD ds)).bind fun bs => (Res.of (minL bs)).bind fun m => .ok (.int m)
  | .sorted, [.dic kvs] => (Res.of (strKeys kvs)).bind fun bs => if bs.length < 64 then .ok (.lst ((sortS bs).map .str)) else .bad
  | .sorted, [.lst ds] => (Res.of (strsD ds)).bind fun bs => if bs.length < 64 then .ok (.lst ((sortS bs).map .str)) else .bad
  | .sorted, [.tup ds] => (Res.of (pairsI ds)).bind fun ps => .ok (.lst ((sortP ps).map pairD))
  | .sortset, [.lst ds] => (Res.of (intsD ds)).bind fun bs => if bs.length < 60 then .ok (.lst ((sortI bs).map .int)) else .bad
  | .repr, [.dic kvs] => (Res.of (intKvs kvs)).bind fun ps => let p := PyData.dict (ps.map fun q => (kPy q.1, .int q.2)); if p.showable && decide (p.depth ≤ 32) && decide (p.shown.length ≤ LIM) then .ok (.str p.shown) else .bad
  | .repr, [.err _ _] => .bad
  | .repr, [.ro _] => .bad
  | .repr, [.mref _] => .bad
  | .repr, [d] => if d.py.canLay0 && d.py.showable && decide (d.py.depth ≤ 32) && decide (d.py.shown.length ≤ LIM) then .ok (.str d.py.shown) else .bad
  | .dict, [.lst ds] => (Res.of (pairsD ds)).bind fun kvs => .ok (.dic (dmerge [] kvs))
  | .isInt, [.err _ _] => .bad
  | .isInt, [.mref _] => .bad
  | .isInt, [.int _] => .ok (.bl true)
  | .isInt, [.bl _] => .ok (.bl true)
  | .isInt, [_] => .ok (.bl false)
  | .isBool, [.err _ _] => .bad
  | .isBool, [.mref _] => .bad
  | .isBool, [.bl _] => .ok (.bl true)
  | .isBool, [_] => .ok (.bl false)
  | .isStr, [.err _ _] => .bad
  | .isStr, [.mref _] => .bad
  | .isStr, [.str _] => .ok (.bl true)
  | .isStr, [_] => .ok (.bl false)
  | .isTuple, [.err _ _] => .bad
  | .isTuple, [.mref _] => .bad
  | .isTuple, [.tup _] => .ok (.bl true)
  | .isTuple, [_] => .ok (.bl false)
  | .isList, [.err _ _] => .bad
  | .isList, [.mref _] => .bad
  | .isList, [.ro _] => .bad
  | .isList, [.lst _] => .ok (.bl true)
  | .isList, [_] => .ok (.bl false)
  | _, _ => .bad

inductive Tg where
  | name (i : Nat)
  | tup (ts : List Tg)
mutual
inductive CE where
  | lit (d : D)
  | var (i : Nat)
  | glob (g : Nat)
  | bin (op : BOp) (a b : CE)
  | neg (a : CE)
  | not (a : CE)
  | cmp (op : COp) (a b : CE)
  | chain (op op' : COp) (a b c : CE)
  | and (es : List CE)
  | or (es : List CE)
  | ite (c a b : CE)
  | tup (es : List CE)
  | lst (es : List CE)
  | lstM (es : List CE)
  | idx (a i : CE)
  | slc (a : CE) (lo hi : Option CE)
  | rev (a : CE)
  | call (f : Nat) (es : List CE)
  | bi (b : B) (es : List CE)
  | copyM (a : CE)
  | append (l e : CE)
  | extend (l e : CE)
  | popAt (l i : CE)
  | pop (l : CE)
  | frz (l : CE)
  | comp (t : Tg) (it : CI) (test : Option CE) (e : CE) (own : List Nat)
  | compM (t : Tg) (it : CI) (test : Option CE) (e : CE) (own : List Nat)
  | dcomp (t : Tg) (it : CI) (test : Option CE) (k v : CE) (own : List Nat)
  | dnew
  | dget (o k : CE) (x : Option CE)
  | dlit (kvs : List (Key × D))
  | mkErr (x : Str) (e : CE)
  | isErr (x : Str) (e : CE)
  | errVal (e : CE)
  | rng1 (t : Bool) (a : CE)
  | rng2 (t : Bool) (a b : CE)
inductive CI where
  | seq (e : CE)
  | range1 (e : CE)
  | range2 (a b : CE)
  | zip (a b : CE)
  | enum (e : CE)
  | items (e : CE)
end
inductive CS where
  | asg (t : Tg) (e : CE)
  | par (is : List Nat) (es : List CE)
  | aug (i : Nat) (op : BOp) (e : CE)
  | ex (e : CE)
  | setix (l i e : CE)
  | ite (c : CE) (a b : List CS)
  | for_ (t : Tg) (it : CI) (body : List CS)
  | while_ (c : CE) (body : List CS)
  | ret (e : CE)
  | retN
  | brk
  | cont
  | pass
  | never
  | frzV (i : Nat)

mutual
def asgT : Tg → D → Env → Option Env
  | .name i, d, env => some (env.set i (some d))
  | .tup ts, .tup ds, env => asgTs ts ds env
  | .tup _, _, _ => none
def asgTs : List Tg → List D → Env → Option Env
  | [], [], env => some env
  | t :: ts, d :: ds, env => match asgT t d env with
    | some env1 => asgTs ts ds env1
    | none => none
  | _, _, _ => none
end
def setAll : List Nat → List D → Env → Option Env
  | [], [], env => some env
  | i :: is, d :: ds, env => setAll is ds (env.set i (some d))
  | _, _, _ => none
def wipeD (env : Env) : List Nat → Env
  | [] => env
  | v :: vs => (wipeD env vs).set v none
def asBool : D → Res Bool
  | .bl b => .ok b
  | _ => .bad
def asDic : D → Res (List (Key × D))
  | .dic kvs => .ok kvs
  | _ => .bad
def getLst (st : Sto) : D → Res (Nat × List D)
  | .mref i => match st[i]? with
    | some (.lst ds) => .ok (i, ds)
    | _ => .bad
  | _ => .bad
def getDic (st : Sto) : D → Res (Nat × List (Key × D))
  | .mref i => match st[i]? with
    | some (.dic ds) => .ok (i, ds)
    | _ => .bad
  | _ => .bad
def rngD (a : Int) : Nat → List D
  | 0 => []
  | n + 1 => .int a :: rngD (a + 1) n
def rngT (t : Bool) (ds : List D) : D := if t then .tup ds else .lst ds
def enumD (a : Nat) : List D → List D
  | [] => []
  | d :: r => .tup [.int (a : Int), d] :: enumD (a + 1) r
def zipD : List D → List D → List D
  | a :: r, b :: q => .tup [a, b] :: zipD r q
  | _, _ => []
def seqItems : D → Res (List D)
  | .lst ds => .ok ds
  | .ro ds => .ok ds
  | .tup ds => .ok ds
  | .str x => if x.length ≤ LIM then .ok (x.cps.toList.map fun c => .str ⟨#[c]⟩) else .bad
  | _ => .bad
def kD : Key → D
  | .inl i => .int i
  | .inr x => .str x
def itemsKv : D → Res (List D)
  | .dic kvs => .ok (kvs.map fun kv => .tup [kD kv.1, kv.2])
  | _ => .bad
def noRefs : List D → Bool
  | [] => true
  | d :: r => !d.isRef && noRefs r

/-- a comprehension's turns -/
def compGo (f : D → Sto → Res (Option D × Sto)) : List D → Sto → Res (List D × Sto)
  | [], st => .ok ([], st)
  | x :: r, st => (f x st).bind fun (o, st1) => (compGo f r st1).bind fun (ds, st2) => .ok (match o with | some d => d :: ds | none => ds, st2)
def dcompGo (f : D → Sto → Res (Option (Key × D) × Sto)) : List D → List (Key × D) → Sto → Res (List (Key × D) × Sto)
  | [], acc, st => .ok (acc, st)
  | x :: r, acc, st => (f x st).bind fun (o, st1) => dcompGo f r (match o with | some kv => dput acc kv.1 kv.2 | none => acc) st1

abbrev Fns := Nat → List D → Sto → Res (D × Sto)
section
variable (Γ : Fns) (con : Nat → Option D)
mutual
def evE : CE → Env → Sto → Res (D × Sto)
  | .lit d, _, st => .ok (d, st)
  | .var i, env, st => match env[i]? with
    | some (some d) => .ok (d, st)
    | _ => .bad
  | .glob g, _, st => match con g with
    | some d => .ok (d, st)
    | none => .bad
  | .bin op a b, env, st => (evE a env st).bind fun (x, st1) => (evE b env st1).bind fun (y, st2) => (bop op (snap st2 x) (snap st2 y)).bind fun d => .ok (d, st2)
  | .neg a, env, st => (evE a env st).bind fun (x, st1) => match x with
    | .int i => .ok (.int (-i), st1)
    | _ => .bad
  | .not a, env, st => (evE a env st).bind fun (x, st1) => (asBool x).bind fun b => .ok (.bl (!b), st1)
  | .cmp op a b, env, st => (evE a env st).bind fun (x, st1) => (evE b env st1).bind fun (y, st2) => (cop op (snap st2 x) (snap st2 y)).bind fun d => .ok (.bl d, st2)
  | .chain op op' a b c, env, st => (evE a env st).bind fun (x, st1) => (evE b env st1).bind fun (y, st2) => (cop op (snap st2 x) (snap st2 y)).bind fun r =>
      if r then (evE c env st2).bind fun (z, st3) => (cop op' (snap st3 y) (snap st3 z)).bind fun d => .ok (.bl d, st3) else .ok (.bl false, st2)
  | .and es, env, st => evAnd es env st
  | .or es, env, st => evOr es env st
  | .ite c a b, env, st => (evE c env st).bind fun (x, st1) => (asBool x).bind fun r => if r then evE a env st1 else evE b env st1
  | .tup es, env, st => (evEs es env st).bind fun (ds, st1) => if ds.length ≤ LIM then .ok (.tup ds, st1) else .bad
  | .lst es, env, st => (evEs es env st).bind fun (ds, st1) => if noRefs ds && decide (ds.length ≤ LIM) then .ok (.lst ds, st1) else .bad
  | .lstM es, env, st => (evEs es env st).bind fun (ds, st1) => if D.cleans ds && decide (ds.length ≤ LIM) then .ok (.mref st1.length, st1 ++ [.lst ds]) else .bad
  | .idx a i, env, st => (evE a env st).bind fun (x, st1) => (evE i env st1).bind fun (y, st2) => (idx (snap st2 x) y).bind fun d => .ok (d, st2)
  | .slc a lo hi, env, st => (evE a env st).bind fun (x, st1) => (evO lo env st1).bind fun (l, st2) => (evO hi env st2).bind fun (h, st3) => (slc (snap st3 x) l h).bind fun d => .ok (d, st3)
  | .rev a, env, st => (evE a env st).bind fun (x, st1) => (revD (snap st1 x)).bind fun d => .ok (d, st1)
  | .call f es, env, st => (evEs es env st).bind fun (ds, st1) => Γ f ds st1
  | .bi b es, env, st => (evEs es env st).bind fun (ds, st1) => (bi b (ds.map (snap st1))).bind fun d => .ok (d, st1)
  | .copyM a, env, st => (evE a env st).bind fun (x, st1) => (Res.of (itemsOf (snap st1 x))).bind fun ds => if D.cleans ds then .ok (.mref st1.length, st1 ++ [.lst ds]) else .bad
  | .append l e, env, st => (evE l env st).bind fun (x, st1) => (getLst st1 x).bind fun _ => (evE e env st1).bind fun (y, st2) => (getLst st2 x).bind fun (i, ds) =>
      if !y.clean || decide (LIM ≤ ds.length) then .bad else .ok (.non, st2.set i (.lst (ds ++ [y])))
  | .extend l e, env, st => (evE l env st).bind fun (x, st1) => (getLst st1 x).bind fun _ => (evE e env st1).bind fun (y, st2) => (getLst st2 x).bind fun (i, ds) => match snap st2 y with
      | .lst ys => if !D.cleans ys || decide (LIM < ds.length + ys.length) then .bad else .ok (.non, st2.set i (.lst (ds ++ ys)))
      | _ => .bad
  | .popAt l k, env, st => (evE l env st).bind fun (x, st1) => (getLst st1 x).bind fun _ => (evE k env st1).bind fun (y, st2) => (getLst st2 x).bind fun (i, ds) => match y with
      | .int k => if 0 ≤ k then match ds[k.toNat]? with
          | some d => .ok (d, st2.set i (.lst (ds.eraseIdx k.toNat)))
          | none => .bad else .bad
      | _ => .bad
  | .pop l, env, st => (evE l env st).bind fun (x, st1) => (getLst st1 x).bind fun (i, ds) => match ds.getLast? with
      | some d => .ok (d, st1.set i (.lst ds.dropLast))
      | none => .bad
  | .frz l, env, st => (evE l env st).bind fun (x, st1) => match x with
      | .mref i => match st1[i]? with
        | some (.lst ds) => .ok (.lst ds, st1.set i .dead)
        | some (.dic ds) => .ok (.dic ds, st1.set i .dead)
        | _ => .bad
      | _ => .bad
  | .comp t it test e own, env, st => (evI it env st).bind fun (ds, st1) =>
      (compGo (fun x s => (Res.of (asgT t x (wipeD env own))).bind fun env1 => (evT test env1 s).bind fun (b, s1) =>
        if b then (evE e env1 s1).bind fun (d, s2) => if d.isRef then .bad else .ok (some d, s2) else .ok (none, s1)) ds st1).bind fun (rs, st2) => .ok (.lst rs, st2)
  | .compM t it test e own, env, st => (evI it env st).bind fun (ds, st1) =>
      (compGo (fun x s => (Res.of (asgT t x (wipeD env own))).bind fun env1 => (evT test env1 s).bind fun (b, s1) =>
        if b then (evE e env1 s1).bind fun (d, s2) => if d.isRef then .bad else .ok (some d, s2) else .ok (none, s1)) ds st1).bind fun (rs, st2) => if D.cleans rs then .ok (.mref st2.length, st2 ++ [.lst rs]) else .bad
  | .dcomp t it test k v own, env, st => (evI it env st).bind fun (ds, st1) =>
      (dcompGo (fun x s => (Res.of (asgT t x (wipeD env own))).bind fun env1 => (evT test env1 s).bind fun (b, s1) =>
        if b then (evE k env1 s1).bind fun (kd, s2) => (evE v env1 s2).bind fun (d, s3) => if d.isRef then .bad else (Res.of (keyOf kd)).bind fun kk => .ok (some (kk, d), s3) else .ok (none, s1)) ds [] st1).bind fun (rs, st2) => .ok (.dic rs, st2)
  | .dnew, _, st => .ok (.mref st.length, st ++ [.dic []])
  | .dlit kvs, _, st => match intKvs kvs with
      | some _ => .ok (.dic kvs, st)
      | none => .bad
  | .mkErr x e, env, st => (evE e env st).bind fun (d, st1) => if d.clean then .ok (.err x d, st1) else .bad
  | .isErr x e, env, st => (evE e env st).bind fun (d, st1) => match d with
      | .err y _ => .ok (.bl (errSub y x), st1)
      | .non => .ok (.bl false, st1)
      | _ => .bad
  | .errVal e, env, st => (evE e env st).bind fun (d, st1) => match d with
      | .err _ v => .ok (v, st1)
      | _ => .bad
  | .rng1 t a, env, st => (evE a env st).bind fun (x, st1) => match x with
      | .int j => if -(2 ^ 62) ≤ j ∧ j < 2 ^ 24 then .ok (rngT t (rngD 0 j.toNat), st1) else .bad
      | _ => .bad
  | .rng2 t a b, env, st => (evE a env st).bind fun (x, st1) => (evE b env st1).bind fun (y, st2) => match x, y with
      | .int i, .int j => if (-(2 ^ 62) ≤ i ∧ i < 2 ^ 62) ∧ (-(2 ^ 62) ≤ j ∧ j < 2 ^ 62) ∧ j - i < 2 ^ 24 then .ok (rngT t (rngD i (j - i).toNat), st2) else .bad
      | _, _ => .bad
  | .dget o k x, env, st => (evE o env st).bind fun (od, st1) => (asDic (snap st1 od)).bind fun _ => (evE k env st1).bind fun (kd, st2) => (evO x env st2).bind fun (xd, st3) => match snap st3 od, keyOf kd with
      | .dic kvs, some k => .ok ((dget kvs k).getD (xd.getD .non), st3)
      | _, _ => .bad
def evEs : List CE → Env → Sto → Res (List D × Sto)
  | [], _, st => .ok ([], st)
  | e :: es, env, st => (evE e env st).bind fun (d, st1) => (evEs es env st1).bind fun (ds, st2) => .ok (d :: ds, st2)
def evAnd : List CE → Env → Sto → Res (D × Sto)
  | [], _, _ => .bad
  | [e], env, st => (evE e env st).bind fun (y, st2) => (asBool y).bind fun r => .ok (.bl r, st2)
  | e :: e' :: es, env, st => (evE e env st).bind fun (x, st1) => (asBool x).bind fun r => if r then evAnd (e' :: es) env st1 else .ok (.bl false, st1)
def evOr : List CE → Env → Sto → Res (D × Sto)
  | [], _, _ => .bad
  | [e], env, st => (evE e env st).bind fun (y, st2) => (asBool y).bind fun r => .ok (.bl r, st2)
  | e :: e' :: es, env, st => (evE e env st).bind fun (x, st1) => (asBool x).bind fun r => if r then .ok (.bl true, st1) else evOr (e' :: es) env st1
def evO : Option CE → Env → Sto → Res (Option D × Sto)
  | none, _, st => .ok (none, st)
  | some e, env, st => (evE e env st).bind fun (d, st1) => .ok (some d, st1)
def evT : Option CE → Env → Sto → Res (Bool × Sto)
  | none, _, st => .ok (true, st)
  | some e, env, st => (evE e env st).bind fun (d, st1) => (asBool d).bind fun b => .ok (b, st1)
def evI : CI → Env → Sto → Res (List D × Sto)
  | .seq e, env, st => (evE e env st).bind fun (x, st1) => (seqItems x).bind fun ds => .ok (ds, st1)
  | .range1 e, env, st => (evE e env st).bind fun (x, st1) => match x with
      | .int j => if -(2 ^ 62) ≤ j ∧ j < 2 ^ 24 then .ok (rngD 0 j.toNat, st1) else .bad
      | _ => .bad
  | .range2 a b, env, st => (evE a env st).bind fun (x, st1) => (evE b env st1).bind fun (y, st2) => match x, y with
      | .int i, .int j => if (-(2 ^ 62) ≤ i ∧ i < 2 ^ 62) ∧ (-(2 ^ 62) ≤ j ∧ j < 2 ^ 62) ∧ j - i < 2 ^ 24 then .ok (rngD i (j - i).toNat, st2) else .bad
      | _, _ => .bad
  | .zip a b, env, st => (evE a env st).bind fun (x, st1) => (evE b env st1).bind fun (y, st2) => match x, y with
      | .lst xs, .lst ys => .ok (zipD xs ys, st2)
      | .tup xs, .tup ys => .ok (zipD xs ys, st2)
      | _, _ => .bad
  | .enum e, env, st => (evE e env st).bind fun (x, st1) => match x with
      | .lst xs => .ok (enumD 0 xs, st1)
      | .tup xs => .ok (enumD 0 xs, st1)
      | _ => .bad
  | .items e, env, st => (evE e env st).bind fun (x, st1) => (itemsKv x).bind fun ds => .ok (ds, st1)
end

inductive Fl where
  | next
  | brk
  | cont
  | ret (d : D)
def forGo (bind : D → Env → Option Env) (body : Env → Sto → Res (Fl × Env × Sto)) : List D → Env → Sto → Res (Fl × Env × Sto)
  | [], env, st => .ok (.next, env, st)
  | x :: r, env, st => (Res.of (bind x env)).bind fun env1 => (body env1 st).bind fun (fl, env2, st2) => match fl with
    | .next => forGo bind body r env2 st2
    | .cont => forGo bind body r env2 st2
    | .brk => .ok (.next, env2, st2)
    | .ret d => .ok (.ret d, env2, st2)
def whileGo (test : Env → Sto → Res (D × Sto)) (body : Env → Sto → Res (Fl × Env × Sto)) : Nat → Env → Sto → Res (Fl × Env × Sto)
  | 0, _, _ => .bad
  | n + 1, env, st => (test env st).bind fun (d, st1) => (asBool d).bind fun b => if b then (body env st1).bind fun (fl, env2, st2) => match fl with
      | .next => whileGo test body n env2 st2
      | .cont => whileGo test body n env2 st2
      | .brk => .ok (.next, env2, st2)
      | .ret d => .ok (.ret d, env2, st2)
    else .ok (.next, env, st1)
variable (F : Nat)
mutual
def evS : CS → Env → Sto → Res (Fl × Env × Sto)
  | .asg t e, env, st => (evE Γ con e env st).bind fun (d, st1) => (Res.of (asgT t d env)).bind fun env1 => .ok (.next, env1, st1)
  | .par is es, env, st => (evEs Γ con es env st).bind fun (ds, st1) => (Res.of (setAll is ds env)).bind fun env1 => .ok (.next, env1, st1)
  | .aug i op e, env, st => match env[i]? with
    | some (some x) => (evE Γ con e env st).bind fun (y, st1) => match x, y with
      | .int a, .int b => (bop op (.int a) (.int b)).bind fun d => .ok (.next, env.set i (some d), st1)
      | .str a, .str b => (bop op (.str a) (.str b)).bind fun d => .ok (.next, env.set i (some d), st1)
      | _, _ => .bad
    | _ => .bad
  | .ex e, env, st => (evE Γ con e env st).bind fun (_, st1) => .ok (.next, env, st1)
  | .setix l k e, env, st => (evE Γ con e env st).bind fun (y, st1) => (evE Γ con l env st1).bind fun (x, st2) => (evE Γ con k env st2).bind fun (z, st3) =>
      if !y.clean then .bad else match x with
      | .mref i => match st3[i]?, z with
        | some (.lst ds), .int k => if 0 ≤ k ∧ k.toNat < ds.length then .ok (.next, env, st3.set i (.lst (ds.set k.toNat y))) else .bad
        | some (.dic kvs), z => match keyOf z with
          | some k => if kvs.length < LIM then .ok (.next, env, st3.set i (.dic (dput kvs k y))) else .bad
          | none => .bad
        | _, _ => .bad
      | _ => .bad
  | .ite c a b, env, st => (evE Γ con c env st).bind fun (d, st1) => (asBool d).bind fun r => if r then evSs a env st1 else evSs b env st1
  | .for_ t it body, env, st => (evI Γ con it env st).bind fun (ds, st1) => forGo (asgT t) (fun e s => evSs body e s) ds env st1
  | .while_ c body, env, st => whileGo (evE Γ con c) (fun e s => evSs body e s) F env st
  | .ret e, env, st => (evE Γ con e env st).bind fun (d, st1) => .ok (.ret d, env, st1)
  | .retN, env, st => .ok (.ret .non, env, st)
  | .brk, env, st => .ok (.brk, env, st)
  | .cont, env, st => .ok (.cont, env, st)
  | .pass, env, st => .ok (.next, env, st)
  | .never, _, _ => .bad
  | .frzV i, env, st => match env[i]? with
    | some (some (.mref j)) => match st[j]? with
      | some (.lst ds) => .ok (.next, env.set i (some (.lst ds)), st.set j .dead)
      | some (.dic ds) => .ok (.next, env.set i (some (.dic ds)), st.set j .dead)
      | _ => .bad
    | _ => .bad
def evSs : List CS → Env → Sto → Res (Fl × Env × Sto)
  | [], env, st => .ok (.next, env, st)
  | c :: r, env, st => (evS c env st).bind fun (fl, env1, st1) => match fl with
    | .next => evSs r env1 st1
    | fl => .ok (fl, env1, st1)
end
end

/-- a def: how many parameters, how many slots, the defaults of the last parameters, whether a made list that it hands back stays changeable -/
structure Fn where
  np : Nat
  ns : Nat
  defs : List D
  keep : Bool
  body : List CS
def finish (keep : Bool) (n : Nat) (d : D) (st : Sto) : Res (D × Sto) :=
  match d with
  | .mref j => if j < n then .ok (.mref j, st.take n) else match st[j]? with
    | some (.lst ds) => if keep then .ok (.mref n, st.take n ++ [.lst ds]) else .ok (.lst ds, st.take n)
    | some (.dic ds) => if keep then .ok (.mref n, st.take n ++ [.dic ds]) else .ok (.dic ds, st.take n)
    | _ => .bad
  | d => if d.clean then .ok (d, st.take n) else .bad
def runBody (Γ : Fns) (con : Nat → Option D) (F : Nat) (f : Fn) (as : List D) (st : Sto) : Res (D × Sto) :=
  (evSs Γ con F f.body (as.map some ++ List.replicate (f.ns - as.length) none) st).bind fun (fl, _, st1) => match fl with
    | .ret d => finish f.keep st.length d st1
    | .next => finish f.keep st.length .non st1
    | _ => .bad
def fillD (f : Fn) (ds : List D) : List D := ds ++ f.defs.drop (ds.length + f.defs.length - f.np)
def runFn (Γ : Fns) (con : Nat → Option D) (F : Nat) (f : Fn) (ds : List D) (st : Sto) : Res (D × Sto) :=
  if (fillD f ds).length = f.np then runBody Γ con F f (fillD f ds) st else .bad
def callN (tab : List Fn) (con : Nat → Option D) (F : Nat) : Nat → Fns
  | 0 => fun _ _ _ => .bad
  | n + 1 => fun f ds st => match tab[f]? with
    | some fn => runFn (callN tab con F n) con F fn ds st
    | none => .bad
end En

set_option Elab.async false
set_option linter.all false
set_option maxRecDepth 100000
set_option maxHeartbeats 1000000
namespace En
open PySem L2

/-- an error object of the class at C, its dict at dx, raised or not -/
def ero (a C dx : Addr) : HO := .ext fun h => ∃ (oe : Obj) (vs : Array Value), h.get? a = some oe ∧ Zc (.ref C) (some dx) oe ∧ oe.data = .fields vs
/-- what the written part says of a class of errors -/
structure ErrK (K : PySem.W.Frag) (x : Str) (C : Addr) : Prop where
  ns : PySem.W.nsIn K mainGlobals x = some (some (.ref C))
  ex : ExcC K C
  ty : PySem.W.typeIn K (.ref C) = some (.type "type")
  no : PySem.W.findIn K (.ref C) "value" = some none
  cls : ∃ (cd cdH : ClassData) (CH : Addr), PySem.W.clsIn K C = some cd ∧ cd.name = x ∧ PySem.W.nsIn K mainGlobals "HandError" = some (some (.ref CH)) ∧ PySem.W.clsIn K CH = some cdH ∧ cdH.name = "HandError" ∧
    cd.mro = (if C = CH then .ref C :: PySem.HandSPX.veTail else .ref C :: .ref CH :: PySem.HandSPX.veTail)
/-- an error's dict -/
def ErD (H : Hp) (dx : Addr) (v : V) : Prop := H dx = some (exd dx [("value", v)]) ∨ H dx = some (.xd [("value", v)])
/-- the addresses of the store's objects; addresses of lists that are being made (no data lies there) -/
structure Ads where
  c : List (Option Addr)
  p : List Addr
def Ads.Has (as : Ads) (a : Addr) : Prop := some a ∈ as.c ∨ a ∈ as.p
def KL (K : PySem.W.Frag) (a : Addr) (xs : List V) : Prop :=
  ∃ (o : Obj) (its : Array Value) (n : Nat), K.lookup a = some o ∧ o.cls = .type "list" ∧ o.dict = none ∧ o.data = .seq its n ∧ its.size ≤ sizeLine ∧ Vals xs its.toList
def KT (K : PySem.W.Frag) (a : Addr) (xs : List V) : Prop :=
  ∃ (o : Obj) (its : Array Value) (n : Nat), K.lookup a = some o ∧ o.cls = .type "tuple" ∧ o.data = .seq its n ∧ its.size ≤ sizeLine ∧ Vals xs its.toList
def LsA (K : PySem.W.Frag) (as : Ads) (H : Hp) (a : Addr) (xs : List V) : Prop := (Rd H a (.lst xs) ∧ ¬ as.Has a) ∨ KL K a xs
def TpA (K : PySem.W.Frag) (H : Hp) (a : Addr) (xs : List V) : Prop := H a = some (.tup xs) ∨ KT K a xs
theorem LsA.sq {K : PySem.W.Frag} {as : Ads} {H : Hp} {a : Addr} {xs : List V} (h : LsA K as H a xs) : SqL K H a xs := h.elim (fun h => .inl h.1) .inr
theorem TpA.sq {K : PySem.W.Frag} {H : Hp} {a : Addr} {xs : List V} (h : TpA K H a xs) : SqT K H a xs := h.elim (fun h => .inl (.inl h)) .inr

theorem cleans_iff : ∀ {ds : List D}, D.cleans ds = true ↔ ∀ d ∈ ds, d.clean = true
  | [] => by simp [D.cleans]
  | d :: r => by
    have ih := cleans_iff (ds := r)
    simp only [D.cleans, Bool.and_eq_true, ih, List.mem_cons]
    constructor
    · rintro ⟨h1, h2⟩ x (rfl | hx)
      · exact h1
      · exact h2 x hx
    · intro h; exact ⟨h d (.inl rfl), fun x hx => h x (.inr hx)⟩
theorem cleanK_iff : ∀ {ds : List (Key × D)}, D.cleanK ds = true ↔ ∀ p ∈ ds, p.2.clean = true
  | [] => by simp [D.cleanK]
  | (k, d) :: r => by
    have ih := cleanK_iff (ds := r)
    simp only [D.cleanK, Bool.and_eq_true, ih, List.mem_cons]
    constructor
    · rintro ⟨h1, h2⟩ x (rfl | hx)
      · exact h1
      · exact h2 x hx
    · intro h; exact ⟨h (k, d) (.inl rfl), fun x hx => h x (.inr hx)⟩
theorem cleans_app {a b : List D} (ha : D.cleans a = true) (hb : D.cleans b = true) : D.cleans (a ++ b) = true := by
  rw [cleans_iff] at *
  intro d hd
  rcases List.mem_append.mp hd with h | h
  · exact ha d h
  · exact hb d h
theorem cleans_sub {a b : List D} (h : ∀ d ∈ a, d ∈ b) (hb : D.cleans b = true) : D.cleans a = true := by
  rw [cleans_iff] at *
  exact fun d hd => hb d (h d hd)
theorem cleans_set {a : List D} {i : Nat} {d : D} (ha : D.cleans a = true) (hd : d.clean = true) : D.cleans (a.set i d) = true := by
  rw [cleans_iff] at *
  intro x hx
  rcases List.mem_or_eq_of_mem_set hx with h | h
  · exact ha x h
  · rw [h]; exact hd
theorem cleanK_put {a : List (Key × D)} {k : Key} {d : D} (ha : D.cleanK a = true) (hd : d.clean = true) : D.cleanK (dput a k d) = true := by
  rw [cleanK_iff] at *
  unfold dput
  split
  · intro p hp
    obtain ⟨q, hq, e⟩ := List.mem_map.mp hp
    split at e
    · rw [← e]; exact hd
    · rw [← e]; exact ha q hq
  · intro p hp
    rcases List.mem_append.mp hp with h | h
    · exact ha p h
    · rw [List.mem_singleton.mp h]; exact hd
mutual
inductive DRep (K : PySem.W.Frag) (as : Ads) (H : Hp) : V → D → Prop
  | non : DRep K as H .non .non
  | bl (b : Bool) : DRep K as H (.bl b) (.bl b)
  | int (i : Int) : DRep K as H (.int i) (.int i)
  | str (x : Str) : DRep K as H (.str x) (.str x)
  | tup {a : Addr} {vs : List V} {ds : List D} : TpA K H a vs → vs.length ≤ sizeLine → DReps K as H vs ds → DRep K as H (.ref a) (.tup ds)
  | lst {a : Addr} {vs : List V} {ds : List D} : H a = some (.lst vs) → ¬ as.Has a → vs.length ≤ sizeLine → DReps K as H vs ds → DRep K as H (.ref a) (.lst ds)
  | ro {a : Addr} {vs : List V} {ds : List D} : LsA K as H a vs → vs.length ≤ sizeLine → DReps K as H vs ds → DRep K as H (.ref a) (.ro ds)
  | dic {a : Addr} {kvs : List (Key × V)} {ds : List (Key × D)} : Rd H a (.dK kvs) → ¬ as.Has a → kvs.length ≤ sizeLine → KReps K as H kvs ds → DRep K as H (.ref a) (.dic ds)
  | err {a C dx : Addr} {x : Str} {v : V} {d : D} : ErrK K x C → H a = some (ero a C dx) → ¬ as.Has a → ErD H dx v → ¬ as.Has dx → DRep K as H v d → DRep K as H (.ref a) (.err x d)
  | mref {i : Nat} {v : V} : i < as.c.length → (∀ a, as.c[i]? = some (some a) → v = .ref a) → DRep K as H v (.mref i)
inductive DReps (K : PySem.W.Frag) (as : Ads) (H : Hp) : List V → List D → Prop
  | nil : DReps K as H [] []
  | cons {v : V} {d : D} {vs : List V} {ds : List D} : DRep K as H v d → DReps K as H vs ds → DReps K as H (v :: vs) (d :: ds)
inductive KReps (K : PySem.W.Frag) (as : Ads) (H : Hp) : List (Key × V) → List (Key × D) → Prop
  | nil : KReps K as H [] []
  | cons {k : Key} {v : V} {d : D} {vs : List (Key × V)} {ds : List (Key × D)} : DRep K as H v d → KReps K as H vs ds → KReps K as H ((k, v) :: vs) ((k, d) :: ds)
end

/-- what a step of code leaves -/
structure Step (as as' : Ads) (H H' : Hp) : Prop where
  len : as.c.length ≤ as'.c.length
  old : ∀ (j : Nat) (a : Addr), as.c[j]? = some (some a) → as'.c[j]? = some (some a) ∨ as'.c[j]? = some none
  dead : ∀ (j : Nat), as.c[j]? = some none → as'.c[j]? = some none
  new : ∀ a : Addr, some a ∈ as'.c → some a ∈ as.c ∨ H a = none
  ext : ∀ (a : Addr) (o : HO), H a = some o → some a ∉ as.c → H' a = some o
  tup : ∀ (a : Addr) (xs : List V), H a = some (.tup xs) → H' a = some (.tup xs)
  prot : as'.p = as.p
theorem Step.refl (as : Ads) (H : Hp) : Step as as H H := ⟨Nat.le_refl _, fun _ _ h => .inl h, fun _ h => h, fun _ h => .inl h, fun _ _ h _ => h, fun _ _ h => h, rfl⟩
theorem Step.notinC {as as' : Ads} {H H' : Hp} (s : Step as as' H H') {a : Addr} {o : HO} (h : H a = some o) (n : some a ∉ as.c) : some a ∉ as'.c := fun m => by
  rcases s.new a m with z | z
  · exact n z
  · rw [h] at z; cases z
theorem Step.notin {as as' : Ads} {H H' : Hp} (s : Step as as' H H') {a : Addr} {o : HO} (h : H a = some o) (n : ¬ as.Has a) : ¬ as'.Has a := fun m => by
  rcases m with m | m
  · exact s.notinC h (fun z => n (.inl z)) m
  · rw [s.prot] at m; exact n (.inr m)
theorem Step.extH {as as' : Ads} {H H' : Hp} (s : Step as as' H H') {a : Addr} {o : HO} (h : H a = some o) (n : ¬ as.Has a) : H' a = some o := s.ext a o h fun z => n (.inl z)
theorem Step.trans {as as1 as2 : Ads} {H H1 H2 : Hp} (s : Step as as1 H H1) (t : Step as1 as2 H1 H2) : Step as as2 H H2 where
  len := Nat.le_trans s.len t.len
  old := fun j a h => by
    rcases s.old j a h with z | z
    · exact t.old j a z
    · exact .inr (t.dead j z)
  dead := fun j h => t.dead j (s.dead j h)
  new := fun a h => by
    rcases t.new a h with z | z
    · exact s.new a z
    · cases q : H a with
      | none => exact .inr rfl
      | some o =>
        by_cases m : some a ∈ as.c
        · exact .inl m
        · rw [s.ext a o q m] at z; cases z
  ext := fun a o h n => t.ext a o (s.ext a o h n) (s.notinC h n)
  tup := fun a xs h => t.tup a xs (s.tup a xs h)
  prot := t.prot.trans s.prot
theorem Step.same {as : Ads} {H H' : Hp} (h : Same H H') : Step as as H H' := ⟨Nat.le_refl _, fun _ _ h => .inl h, fun _ h => h, fun _ h => .inl h, fun a o q _ => h a o q, fun a xs q => h a _ q, rfl⟩

section
variable {K : PySem.W.Frag} {as as' : Ads} {H H' : Hp}
theorem LsA.step {a : Addr} {xs : List V} (s : Step as as' H H') (h : LsA K as H a xs) : LsA K as' H' a xs := by
  rcases h with ⟨h | ⟨o, h⟩, n⟩ | h
  · exact .inl ⟨.inl (s.extH h n), s.notin h n⟩
  · exact .inl ⟨.inr ⟨o, s.extH h n⟩, s.notin h n⟩
  · exact .inr h
theorem TpA.step {a : Addr} {xs : List V} (s : Step as as' H H') (h : TpA K H a xs) : TpA K H' a xs := by
  rcases h with h | h
  · exact .inl (s.tup _ _ h)
  · exact .inr h
mutual
theorem DRep.step (s : Step as as' H H') : ∀ (d : D) (v : V), DRep K as H v d → DRep K as' H' v d
  | .non, _, h => by cases h; exact .non
  | .bl b, _, h => by cases h; exact .bl b
  | .int b, _, h => by cases h; exact .int b
  | .str b, _, h => by cases h; exact .str b
  | .tup ds, _, h => by
    cases h with
    | tup h z r => exact .tup (h.step s) z (DReps.step s ds _ r)
  | .lst ds, _, h => by
    cases h with
    | lst h n z r => exact .lst (s.extH h n) (s.notin h n) z (DReps.step s ds _ r)
  | .ro ds, _, h => by
    cases h with
    | ro h z r => exact .ro (h.step s) z (DReps.step s ds _ r)
  | .dic ds, _, h => by
    cases h with
    | dic h n z r =>
      rcases h with h | ⟨o, h⟩
      · exact .dic (.inl (s.extH h n)) (s.notin h n) z (KReps.step s ds _ r)
      · exact .dic (.inr ⟨o, s.extH h n⟩) (s.notin h n) z (KReps.step s ds _ r)
  | .err x d, _, h => by
    cases h with
    | err h1 h2 n1 h3 n2 r =>
      rcases h3 with h3 | h3
      · exact .err h1 (s.extH h2 n1) (s.notin h2 n1) (.inl (s.extH h3 n2)) (s.notin h3 n2) (DRep.step s d _ r)
      · exact .err h1 (s.extH h2 n1) (s.notin h2 n1) (.inr (s.extH h3 n2)) (s.notin h3 n2) (DRep.step s d _ r)
  | .mref i, _, h => by
    cases h with
    | mref l h =>
      refine .mref (Nat.lt_of_lt_of_le l s.len) fun a e => ?_
      cases q : as.c[i]? with
      | none => rw [List.getElem?_eq_none_iff] at q; omega
      | some x =>
        cases x with
        | none => rw [s.dead i q] at e; cases e
        | some b =>
          rcases s.old i b q with z | z
          · rw [z] at e; cases e; exact h _ q
          · rw [z] at e; cases e
theorem DReps.step (s : Step as as' H H') : ∀ (ds : List D) (vs : List V), DReps K as H vs ds → DReps K as' H' vs ds
  | [], _, h => by cases h; exact .nil
  | d :: ds, _, h => by
    cases h with
    | cons h r => exact .cons (DRep.step s d _ h) (DReps.step s ds _ r)
theorem KReps.step (s : Step as as' H H') : ∀ (ds : List (Key × D)) (vs : List (Key × V)), KReps K as H vs ds → KReps K as' H' vs ds
  | [], _, h => by cases h; exact .nil
  | (k, d) :: ds, _, h => by
    cases h with
    | cons h r => exact .cons (DRep.step s d _ h) (KReps.step s ds _ r)
end
theorem DReps.length : ∀ {ds : List D} {vs : List V}, DReps K as H vs ds → vs.length = ds.length
  | [], _, h => by cases h; rfl
  | d :: ds, _, h => by
    cases h with
    | cons h r => simp [DReps.length r]
theorem KReps.length : ∀ {ds : List (Key × D)} {vs : List (Key × V)}, KReps K as H vs ds → vs.length = ds.length
  | [], _, h => by cases h; rfl
  | (k, d) :: ds, _, h => by
    cases h with
    | cons h r => simp [KReps.length r]
theorem DReps.get : ∀ {ds : List D} {vs : List V} {i : Nat} {d : D}, DReps K as H vs ds → ds[i]? = some d → ∃ v, vs[i]? = some v ∧ DRep K as H v d
  | [], _, _, _, h, e => by simp at e
  | d :: ds, _, 0, d', h, e => by
    cases h with
    | cons h r => simp at e; subst e; exact ⟨_, rfl, h⟩
  | d :: ds, _, i + 1, d', h, e => by
    cases h with
    | cons h r =>
      obtain ⟨v, e1, q⟩ := DReps.get (i := i) r (by simpa using e)
      exact ⟨v, by simpa using e1, q⟩
theorem DReps.getV : ∀ {ds : List D} {vs : List V} {i : Nat} {v : V}, DReps K as H vs ds → vs[i]? = some v → ∃ d, ds[i]? = some d ∧ DRep K as H v d
  | [], _, _, _, h, e => by cases h; simp at e
  | d :: ds, _, 0, v, h, e => by
    cases h with
    | cons h r => simp at e; subst e; exact ⟨_, rfl, h⟩
  | d :: ds, _, i + 1, v, h, e => by
    cases h with
    | cons h r =>
      obtain ⟨v, e1, q⟩ := DReps.getV (i := i) r (by simpa using e)
      exact ⟨v, by simpa using e1, q⟩
theorem DReps.append : ∀ {ds es : List D} {vs us : List V}, DReps K as H vs ds → DReps K as H us es → DReps K as H (vs ++ us) (ds ++ es)
  | [], _, _, _, h, q => by cases h; exact q
  | d :: ds, _, _, _, h, q => by
    cases h with
    | cons h r => exact .cons h (DReps.append r q)
theorem DReps.drop : ∀ {ds : List D} {vs : List V} (n : Nat), DReps K as H vs ds → DReps K as H (vs.drop n) (ds.drop n)
  | _, _, 0, h => h
  | [], _, n + 1, h => by cases h; exact .nil
  | d :: ds, _, n + 1, h => by
    cases h with
    | cons h r => exact DReps.drop n r
theorem DReps.take : ∀ {ds : List D} {vs : List V} (n : Nat), DReps K as H vs ds → DReps K as H (vs.take n) (ds.take n)
  | _, _, 0, h => by simp; exact .nil
  | [], _, n + 1, h => by cases h; exact .nil
  | d :: ds, _, n + 1, h => by
    cases h with
    | cons h r => exact .cons h (DReps.take n r)
theorem DReps.reverse : ∀ {ds : List D} {vs : List V}, DReps K as H vs ds → DReps K as H vs.reverse ds.reverse
  | [], _, h => by cases h; exact .nil
  | d :: ds, _, h => by
    cases h with
    | cons h r => rw [List.reverse_cons, List.reverse_cons]; exact DReps.append (DReps.reverse r) (.cons h .nil)
theorem DReps.eraseIdx : ∀ {ds : List D} {vs : List V} (n : Nat), DReps K as H vs ds → DReps K as H (vs.eraseIdx n) (ds.eraseIdx n)
  | [], _, n, h => by cases h; exact .nil
  | d :: ds, _, 0, h => by
    cases h with
    | cons h r => exact r
  | d :: ds, _, n + 1, h => by
    cases h with
    | cons h r => exact .cons h (DReps.eraseIdx n r)
theorem DReps.set {d : D} {v : V} (q : DRep K as H v d) : ∀ {ds : List D} {vs : List V} (n : Nat), DReps K as H vs ds → DReps K as H (vs.set n v) (ds.set n d)
  | [], _, n, h => by cases h; exact .nil
  | _ :: ds, _, 0, h => by
    cases h with
    | cons h r => exact .cons q r
  | _ :: ds, _, n + 1, h => by
    cases h with
    | cons h r => exact .cons h (DReps.set q n r)
end

def O.clean : O → Bool
  | .lst ds => D.cleans ds
  | .dic kvs => D.cleanK kvs
  | .dead => true
/-- a store object at its address -/
def ORep (K : PySem.W.Frag) (as : Ads) (H : Hp) : Option Addr → O → Prop
  | some a, .lst ds => ∃ vs, H a = some (.lst vs) ∧ vs.length ≤ sizeLine ∧ DReps K as H vs ds
  | some a, .dic ds => ∃ kvs, H a = some (.dK kvs) ∧ kvs.length ≤ sizeLine ∧ KReps K as H kvs ds
  | none, .dead => True
  | _, _ => False
structure SRel (K : PySem.W.Frag) (as : Ads) (st : Sto) (H : Hp) : Prop where
  len : as.c.length = st.length
  nd : ∀ (i j : Nat) (a : Addr), as.c[i]? = some (some a) → as.c[j]? = some (some a) → i = j
  rep : ∀ (i : Nat) (o : O), st[i]? = some o → ∃ x, as.c[i]? = some x ∧ ORep K as H x o
  pr : ∀ a ∈ as.p, ∃ o, H a = some o
  dj : ∀ a ∈ as.p, some a ∉ as.c
  cl : ∀ (i : Nat) (o : O), st[i]? = some o → o.clean = true
/-- a value: by value, or a place of the store -/
def VRep (K : PySem.W.Frag) (as : Ads) (H : Hp) (v : V) : D → Prop
  | .mref i => i < as.c.length ∧ ∀ a, as.c[i]? = some (some a) → v = .ref a
  | d => DRep K as H v d
inductive VReps (K : PySem.W.Frag) (as : Ads) (H : Hp) : List V → List D → Prop
  | nil : VReps K as H [] []
  | cons {v : V} {d : D} {vs : List V} {ds : List D} : VRep K as H v d → VReps K as H vs ds → VReps K as H (v :: vs) (d :: ds)
structure ERep (K : PySem.W.Frag) (as : Ads) (H : Hp) (σ : L2.St) (env : Env) : Prop where
  len : σ.length = env.length
  get : ∀ (i : Nat) (d : D), env[i]? = some (some d) → ∃ v, σ[i]? = some (some v) ∧ VRep K as H v d
section
variable {K : PySem.W.Frag} {as as' : Ads} {H H' : Hp} {st : Sto} {v : V} {d : D}
theorem DRep.toV (h : DRep K as H v d) : VRep K as H v d := by
  cases d with
  | mref i => cases h with | mref l h => exact ⟨l, h⟩
  | _ => exact h
theorem VRep.dr (h : VRep K as H v d) : DRep K as H v d := by
  cases d with
  | mref i => exact .mref h.1 h.2
  | _ => exact h
theorem VRep.toD (h : VRep K as H v d) (n : d.isRef = false) : DRep K as H v d := by
  cases d <;> first | exact h | cases n
theorem VRep.step (s : Step as as' H H') (h : VRep K as H v d) : VRep K as' H' v d := by
  cases d with
  | mref i =>
    obtain ⟨l, h⟩ := h
    refine ⟨Nat.lt_of_lt_of_le l s.len, fun a e => ?_⟩
    cases q : as.c[i]? with
    | none => rw [List.getElem?_eq_none_iff] at q; omega
    | some x =>
      cases x with
      | none => rw [s.dead i q] at e; cases e
      | some b =>
        rcases s.old i b q with z | z
        · rw [z] at e; cases e; exact h _ q
        · rw [z] at e; cases e
  | _ => exact DRep.step s _ _ h
theorem VReps.step (s : Step as as' H H') : ∀ {ds : List D} {vs : List V}, VReps K as H vs ds → VReps K as' H' vs ds
  | _, _, .nil => .nil
  | _, _, .cons h r => .cons (h.step s) (VReps.step s r)
theorem VReps.ds : ∀ {ds : List D} {vs : List V}, VReps K as H vs ds → noRefs ds = true → DReps K as H vs ds
  | _, _, .nil, _ => .nil
  | _, _, .cons h r, n => by
    simp only [noRefs, Bool.and_eq_true, Bool.not_eq_true'] at n
    exact .cons (h.toD n.1) (VReps.ds r n.2)
theorem VReps.dd : ∀ {ds : List D} {vs : List V}, VReps K as H vs ds → DReps K as H vs ds
  | _, _, .nil => .nil
  | _, _, .cons h r => .cons (VRep.dr h) (VReps.dd r)
theorem VReps.length : ∀ {ds : List D} {vs : List V}, VReps K as H vs ds → vs.length = ds.length
  | _, _, .nil => rfl
  | _, _, .cons h r => by simp [VReps.length r]
theorem VReps.append : ∀ {ds es : List D} {vs us : List V}, VReps K as H vs ds → VReps K as H us es → VReps K as H (vs ++ us) (ds ++ es)
  | _, _, _, _, .nil, q => q
  | _, _, _, _, .cons h r, q => .cons h (VReps.append r q)
theorem ERep.step {σ : L2.St} {env : Env} (s : Step as as' H H') (h : ERep K as H σ env) : ERep K as' H' σ env :=
  ⟨h.len, fun i d e => let ⟨v, e1, q⟩ := h.get i d e; ⟨v, e1, q.step s⟩⟩
theorem ERep.set {σ : L2.St} {env : Env} {i : Nat} (h : ERep K as H σ env) (q : VRep K as H v d) : ERep K as H (σ.set i (some v)) (env.set i (some d)) := by
  refine ⟨by simp [h.len], fun j e hj => ?_⟩
  by_cases hij : i = j
  · subst hij
    by_cases hl : i < env.length
    · rw [List.getElem?_set_self hl] at hj
      cases hj
      exact ⟨v, by rw [List.getElem?_set_self (by rw [h.len]; exact hl)], q⟩
    · rw [List.getElem?_eq_none (by simpa using hl)] at hj; cases hj
  · rw [List.getElem?_set_ne hij] at hj ⊢
    exact h.get j e hj
theorem ERep.wipe {σ : L2.St} {env : Env} (h : ERep K as H σ env) : ∀ vs : List Nat, ERep K as H (L2.wipe σ vs) (wipeD env vs)
  | [] => h
  | v :: vs => by
    have ih := ERep.wipe h vs
    refine ⟨by simp [L2.wipe, wipeD, ih.len], fun j e hj => ?_⟩
    unfold wipeD at hj
    unfold L2.wipe
    by_cases hij : v = j
    · subst hij
      by_cases hl : v < (wipeD env vs).length
      · rw [List.getElem?_set_self hl] at hj; cases hj
      · rw [List.getElem?_eq_none (by simpa using hl)] at hj; cases hj
    · rw [List.getElem?_set_ne hij] at hj ⊢
      exact ih.get j e hj

/-- the store's elements carried over a step that leaves them -/
theorem SRel.live (r : SRel K as st H) {i : Nat} {o : O} (h : st[i]? = some o) (n : o ≠ .dead) : ∃ a, as.c[i]? = some (some a) ∧ ORep K as H (some a) o := by
  obtain ⟨x, e, q⟩ := r.rep i o h
  cases x with
  | some a => exact ⟨a, e, q⟩
  | none =>
    cases o with
    | dead => exact absurd rfl n
    | lst ds => exact q.elim
    | dic ds => exact q.elim
theorem SRel.lst (r : SRel K as st H) {i : Nat} {ds : List D} (h : st[i]? = some (.lst ds)) : ∃ a vs, as.c[i]? = some (some a) ∧ H a = some (.lst vs) ∧ vs.length ≤ sizeLine ∧ DReps K as H vs ds := by
  obtain ⟨a, e, vs, q⟩ := r.live h (by intro z; cases z)
  exact ⟨a, vs, e, q⟩
theorem SRel.dic (r : SRel K as st H) {i : Nat} {ds : List (Key × D)} (h : st[i]? = some (.dic ds)) : ∃ a vs, as.c[i]? = some (some a) ∧ H a = some (.dK vs) ∧ vs.length ≤ sizeLine ∧ KReps K as H vs ds := by
  obtain ⟨a, e, vs, q⟩ := r.live h (by intro z; cases z)
  exact ⟨a, vs, e, q⟩
theorem SRel.mut (r : SRel K as st H) {a : Addr} (h : some a ∈ as.c) : (∃ vs, H a = some (.lst vs)) ∨ ∃ kvs, H a = some (.dK kvs) := by
  obtain ⟨i, hi, e⟩ := List.mem_iff_getElem.mp h
  have hs : i < st.length := by rw [← r.len]; exact hi
  obtain ⟨x, e1, q⟩ := r.rep i st[i] (List.getElem?_eq_getElem hs)
  rw [List.getElem?_eq_getElem hi, e] at e1
  cases e1
  cases hq : st[i] with
  | lst ds => rw [hq] at q; obtain ⟨vs, e, _⟩ := q; exact .inl ⟨vs, e⟩
  | dic ds => rw [hq] at q; obtain ⟨vs, e, _⟩ := q; exact .inr ⟨vs, e⟩
  | dead => rw [hq] at q; exact q.elim
/-- nothing tracked is changed -/
theorem SRel.same (r : SRel K as st H) (h : Same H H') : SRel K as st H' := by
  refine ⟨r.len, r.nd, fun i o e => ?_, fun a ha => let ⟨o, e⟩ := r.pr a ha; ⟨o, h a o e⟩, r.dj, r.cl⟩
  obtain ⟨x, e1, q⟩ := r.rep i o e
  refine ⟨x, e1, ?_⟩
  cases x with
  | none => cases o <;> exact q
  | some a =>
    cases o with
    | lst ds => obtain ⟨vs, e, z, p⟩ := q; exact ⟨vs, h _ _ e, z, DReps.step (Step.same h) _ _ p⟩
    | dic ds => obtain ⟨vs, e, z, p⟩ := q; exact ⟨vs, h _ _ e, z, KReps.step (Step.same h) _ _ p⟩
    | dead => exact q

theorem VRep.int (h : VRep K as H v d) (r : SRel K as st H) {i : Int} (e : snap st d = .int i) : v = .int i := by
  cases d with
  | mref j => simp only [snap] at e; split at e <;> cases e
  | int k => cases e; cases h; rfl
  | _ => cases e
theorem VRep.str (h : VRep K as H v d) (r : SRel K as st H) {i : Str} (e : snap st d = .str i) : v = .str i := by
  cases d with
  | mref j => simp only [snap] at e; split at e <;> cases e
  | str k => cases e; cases h; rfl
  | _ => cases e
theorem VRep.bl (h : VRep K as H v d) (r : SRel K as st H) {i : Bool} (e : snap st d = .bl i) : v = .bl i := by
  cases d with
  | mref j => simp only [snap] at e; split at e <;> cases e
  | bl k => cases e; cases h; rfl
  | _ => cases e
theorem VRep.non (h : VRep K as H v d) (r : SRel K as st H) (e : snap st d = .non) : v = .non := by
  cases d with
  | mref j => simp only [snap] at e; split at e <;> cases e
  | non => cases h; rfl
  | _ => cases e
theorem VRep.tup (h : VRep K as H v d) (r : SRel K as st H) {ds : List D} (e : snap st d = .tup ds) : ∃ a vs, v = .ref a ∧ TpA K H a vs ∧ vs.length ≤ sizeLine ∧ DReps K as H vs ds := by
  cases d with
  | mref j => simp only [snap] at e; split at e <;> cases e
  | tup k =>
    cases e
    cases h with
    | tup h z q => exact ⟨_, _, rfl, h, z, q⟩
  | _ => cases e
theorem VRep.err (h : VRep K as H v d) (r : SRel K as st H) {x : Str} {e0 : D} (e : snap st d = .err x e0) : ∃ a C dx w, v = .ref a ∧ ErrK K x C ∧ H a = some (ero a C dx) ∧ ¬ as.Has a ∧ ErD H dx w ∧ ¬ as.Has dx ∧ DRep K as H w e0 := by
  cases d with
  | mref j => simp only [snap] at e; split at e <;> cases e
  | err k j =>
    cases e
    cases h with
    | err h1 h2 n1 h3 n2 q => exact ⟨_, _, _, _, rfl, h1, h2, n1, h3, n2, q⟩
  | _ => cases e
theorem VRep.lst (h : VRep K as H v d) (r : SRel K as st H) {ds : List D} (e : snap st d = .lst ds) : ∃ a vs, v = .ref a ∧ H a = some (.lst vs) ∧ vs.length ≤ sizeLine ∧ DReps K as H vs ds := by
  cases d with
  | mref j =>
    simp only [snap] at e
    split at e
    · rename_i ds' hj
      cases e
      obtain ⟨a, vs, e1, q⟩ := r.lst hj
      exact ⟨a, vs, h.2 a e1, q.1, q.2⟩
    · cases e
    · cases e
  | lst k =>
    cases e
    cases h with
    | lst h n z q => exact ⟨_, _, rfl, h, z, q⟩
  | _ => cases e
theorem VRep.ro (h : VRep K as H v d) (r : SRel K as st H) {ds : List D} (e : snap st d = .ro ds) : ∃ a vs, v = .ref a ∧ SqL K H a vs ∧ vs.length ≤ sizeLine ∧ DReps K as H vs ds := by
  cases d with
  | mref j => simp only [snap] at e; split at e <;> cases e
  | ro k =>
    cases e
    cases h with
    | ro h z q => exact ⟨_, _, rfl, h.sq, z, q⟩
  | _ => cases e
theorem VRep.dic (h : VRep K as H v d) (r : SRel K as st H) {ds : List (Key × D)} (e : snap st d = .dic ds) : ∃ a vs, v = .ref a ∧ Rd H a (.dK vs) ∧ vs.length ≤ sizeLine ∧ KReps K as H vs ds := by
  cases d with
  | mref j =>
    simp only [snap] at e
    split at e
    · cases e
    · rename_i ds' hj
      cases e
      obtain ⟨a, vs, e1, q⟩ := r.dic hj
      exact ⟨a, vs, h.2 a e1, .inl q.1, q.2⟩
    · cases e
  | dic k =>
    cases e
    cases h with
    | dic h _ z q => exact ⟨_, _, rfl, h, z, q⟩
  | _ => cases e

mutual
theorem DRep.dp : ∀ (d : D) (v : V), DRep K as H v d → d.py.canLay0 = true → Dp K H v d.py
  | .non, _, h, _ => by cases h; exact .non
  | .bl b, _, h, _ => by cases h; exact .bl b
  | .int b, _, h, _ => by cases h; exact .int b
  | .str b, _, h, _ => by cases h; exact .str b
  | .tup ds, _, h, c => by
    cases h with
    | tup h z r =>
      simp only [D.py, PyData.canLay0] at c
      simp only [D.py]
      exact .tup h.sq (DReps.dp ds _ r c)
  | .lst ds, _, h, c => by
    cases h with
    | lst h _ z r =>
      simp only [D.py, PyData.canLay0] at c
      simp only [D.py]
      exact .lst (.inl (.inl h)) (DReps.dp ds _ r c)
  | .ro ds, _, h, c => by simp [D.py, PyData.canLay0] at c
  | .dic ds, _, h, c => by simp [D.py, PyData.canLay0] at c
  | .mref i, _, h, c => by simp [D.py, PyData.canLay0] at c
theorem DReps.dp : ∀ (ds : List D) (vs : List V), DReps K as H vs ds → PyData.canLayAll0 (D.pys ds) = true → DpAll K H vs (D.pys ds)
  | [], _, h, _ => by cases h; exact .nil
  | d :: ds, _, h, c => by
    cases h with
    | cons h r =>
      simp only [D.pys, PyData.canLayAll0, Bool.and_eq_true] at c
      simp only [D.pys]
      exact .cons (DRep.dp d _ h c.1) (DReps.dp ds _ r c.2)
end
theorem VRep.dp (h : VRep K as H v d) (r : SRel K as st H) (c : (snap st d).py.canLay0 = true) : Dp K H v (snap st d).py := by
  cases d with
  | mref j =>
    simp only [snap] at c ⊢
    split at c
    · rename_i ds hj
      obtain ⟨a, vs, e1, q⟩ := r.lst hj
      rw [h.2 a e1]
      simp only [D.py, PyData.canLay0] at c
      simp only [D.py]
      exact .lst (.inl (.inl q.1)) (DReps.dp ds _ q.2.2 c)
    · simp [D.py, PyData.canLay0] at c
    · simp [D.py, PyData.canLay0] at c
  | _ => exact DRep.dp _ _ h c
end
end En

set_option Elab.async false
set_option linter.all false
set_option maxRecDepth 100000
set_option maxHeartbeats 1000000
namespace En
open PySem PySem.Spec PyProof.Rows L2

theorem same_new {H : Hp} {p : Addr} {o : HO} (h : H p = none) : Same H (upd H p o) := fun b x e => by rw [upd_ne (ne_of_none e h)]; exact e
theorem SRel.fresh {K : PySem.W.Frag} {as : Ads} {st : Sto} {H : Hp} (r : SRel K as st H) {p : Addr} (h : H p = none) : ¬ as.Has p := fun m => by
  rcases m with m | m
  · rcases r.mut m with ⟨vs, e⟩ | ⟨vs, e⟩ <;> (rw [h] at e; cases e)
  · obtain ⟨o, e⟩ := r.pr p m
    rw [h] at e; cases e
theorem new_tup {K : PySem.W.Frag} {as : Ads} {H : Hp} {p : Addr} {vs : List V} {ds : List D} (hp : H p = none) (z : vs.length ≤ sizeLine) (r : DReps K as H vs ds) : DRep K as (upd H p (.tup vs)) (.ref p) (.tup ds) :=
  .tup (.inl upd_same) z (DReps.step (Step.same (same_new hp)) _ _ r)
theorem new_lst {K : PySem.W.Frag} {as : Ads} {st : Sto} {H : Hp} {p : Addr} {vs : List V} {ds : List D} (s : SRel K as st H) (hp : H p = none) (z : vs.length ≤ sizeLine) (r : DReps K as H vs ds) : DRep K as (upd H p (.lst vs)) (.ref p) (.lst ds) :=
  .lst upd_same (s.fresh hp) z (DReps.step (Step.same (same_new hp)) _ _ r)
theorem OpR.or' {X : Cx} {f : Value → Value → Sem Value} {r r' : R2} (h : OpR X f r) (h' : OpR X f r') : OpR X f (fun x y H Q => r x y H Q ∨ r' x y H Q) := by
  intro pins s σ H x y v u Q I rx ry z
  rcases z with z | z
  · exact h pins s σ H x y v u Q I rx ry z
  · exact h' pins s σ H x y v u Q I rx ry z
theorem LIM_eq : LIM = sizeLine := by decide

/-- a two-place operation by its data -/
def RO (K : PySem.W.Frag) (g : D → D → Res D) : R2 := fun x y H Q => ∃ as st dx dy d, SRel K as st H ∧ VRep K as H x dx ∧ VRep K as H y dy ∧ g (snap st dx) (snap st dy) = .ok d ∧ ∀ v H', Same H H' → DRep K as H' v d → Q v H'
def pyBin : BOp → Operator
  | .add => .Add
  | .sub => .Sub
  | .mul => .Mult
  | .fdiv => .FloorDiv
  | .mod => .Mod
  | .pow => .Pow
section
variable {X : Cx}
theorem op_powW : OpR X (binaryOp .Pow) (rI (fun i j => 0 ≤ j ∧ (Builtin.Int.intBits i : Int) * j ≤ 2 ^ 27) fun i j => .int (i ^ j.toNat)) := opI fun _ _ _ _ _ _ _ hc q => pow_int hc.1 hc.2 q
theorem op_bop (op : BOp) : OpR X (binaryOp (pyBin op)) (RO X.K (bop op)) := by
  intro pins s σ H x y v u Q I rx ry ⟨as, st, dx, dy, d, sr, hx, hy, e, q⟩
  have q0 : ∀ {v : V}, DRep X.K as H v d → Q v H := fun z => q _ _ (Same.refl H) z
  cases ex : snap st dx with
  | int i =>
    cases ey : snap st dy with
    | int j =>
      rw [ex, ey] at e
      have zx := hx.int sr ex
      have zy := hy.int sr ey
      subst zx zy
      cases op with
      | add => cases e; exact op_add pins s σ H _ _ v u Q I rx ry ⟨i, j, rfl, rfl, q0 (.int _)⟩
      | sub => cases e; exact op_sub pins s σ H _ _ v u Q I rx ry ⟨i, j, rfl, rfl, q0 (.int _)⟩
      | mul =>
        simp only [bop] at e
        split at e
        · rename_i h
          cases e; exact op_mulW pins s σ H _ _ v u Q I rx ry ⟨i, j, rfl, rfl, h, q0 (.int _)⟩
        · cases e
      | fdiv =>
        simp only [bop] at e
        split at e
        · rename_i h
          cases e; exact op_fdivW pins s σ H _ _ v u Q I rx ry ⟨i, j, rfl, rfl, h, q0 (.int _)⟩
        · cases e
      | mod =>
        simp only [bop] at e
        split at e
        · rename_i h
          cases e; exact op_mod pins s σ H _ _ v u Q I rx ry ⟨i, j, rfl, rfl, h, q0 (.int _)⟩
        · cases e
      | pow =>
        simp only [bop] at e
        split at e
        · rename_i h
          cases e; exact op_powW pins s σ H _ _ v u Q I rx ry ⟨i, j, rfl, rfl, h, q0 (.int _)⟩
        · cases e
    | _ => rw [ex, ey] at e; cases op <;> cases e
  | str i =>
    cases ey : snap st dy with
    | str j =>
      rw [ex, ey] at e
      have zx := hx.str sr ex
      have zy := hy.str sr ey
      subst zx zy
      cases op with
      | add =>
        simp only [bop] at e
        split at e
        · rename_i h
          cases e; exact op_add_str pins s σ H _ _ v u Q I rx ry ⟨i, j, rfl, rfl, by rw [← LIM_eq]; exact h, q0 (.str _)⟩
        · cases e
      | _ => cases e
    | _ => rw [ex, ey] at e; cases op <;> cases e
  | tup i =>
    cases ey : snap st dy with
    | tup j =>
      rw [ex, ey] at e
      cases op with
      | add =>
        simp only [bop] at e
        split at e
        · rename_i h
          cases e
          obtain ⟨a, vs, rfl, t1, z1, r1⟩ := hx.tup sr ex
          obtain ⟨b, us, rfl, t2, z2, r2⟩ := hy.tup sr ey
          have l1 := r1.length
          have l2 := r2.length
          have hz : vs.length + us.length ≤ sizeLine := by rw [l1, l2, ← LIM_eq]; exact h
          refine op_catA pins s σ H _ _ v u Q I rx ry ⟨a, b, vs, us, rfl, rfl, t1.sq, t2.sq, hz, fun e => ?_, fun _ e => ?_, fun _ _ p hp => ?_⟩
          · subst e
            cases r1
            exact q0 (.tup t2 z2 r2)
          · subst e
            cases r2
            rw [List.append_nil] at q0
            exact q0 (.tup t1 z1 r1)
          · exact q _ _ (same_new hp) (new_tup hp (by rw [List.length_append]; exact hz) (r1.append r2))
        · cases e
      | _ => cases e
    | _ => rw [ex, ey] at e; cases op <;> cases e
  | lst i =>
    cases ey : snap st dy with
    | lst j =>
      rw [ex, ey] at e
      cases op with
      | add =>
        simp only [bop] at e
        split at e
        · rename_i h
          cases e
          obtain ⟨a, vs, rfl, t1, z1, r1⟩ := hx.lst sr ex
          obtain ⟨b, us, rfl, t2, z2, r2⟩ := hy.lst sr ey
          have l1 := r1.length
          have l2 := r2.length
          have hz : vs.length + us.length ≤ sizeLine := by rw [l1, l2, ← LIM_eq]; exact h
          refine op_cat pins s σ H _ _ v u Q I rx ry ⟨a, b, vs, us, rfl, rfl, t1, t2, hz, fun p hp => ?_⟩
          exact q _ _ (same_new hp) (new_lst sr hp (by rw [List.length_append]; exact hz) (r1.append r2))
        · cases e
      | _ => cases e
    | _ => rw [ex, ey] at e; cases op <;> cases e
  | _ => rw [ex] at e; cases op <;> cases e
theorem un_negD : UnR X (unaryOp .USub) (fun x H Q => ∃ i, x = .int i ∧ Q (.int (-i)) H) := un_neg

def pyCmp : COp → CmpOp
  | .lt => .Lt
  | .le => .LtE
  | .gt => .Gt
  | .ge => .GtE
  | .eq => .Eq
  | .ne => .NotEq
  | .isin => .In
  | .notin => .NotIn
  | .isNone => .Is
  | .notNone => .IsNot
def copD (op : COp) (a b : D) : Res D := (cop op a b).bind fun r => .ok (.bl r)
theorem op_inTup (hu : X.A.units + 65 < cLine) : OpR X (compareOp .In) (fun x y H Q => ∃ d ds, Dp X.K H x d ∧ Dp X.K H y (.tuple ds) ∧ SeqAt.shaped d = true ∧ SeqAt.shaped (.tuple ds) = true ∧ Q (.bl (ds.any fun z => PyData.eqv z d)) H) := by
  intro pins s σ H x y v u Q I rx ry ⟨d, ds, hd, he, sd, se, q⟩
  obtain ⟨as, r1⟩ := Dp.reads I d x v hd rx
  obtain ⟨bs, r2⟩ := Dp.reads I (.tuple ds) y u he ry
  exact SeqAt.in_tuple_reads r2 r1 (SeqAt.canLay_of_shaped se) (SeqAt.canLay_of_shaped sd) (room_in_shaped sd hu) ⟨.bl _, H, I, rfl, q⟩
theorem op_notInTup (hu : X.A.units + 65 < cLine) : OpR X (compareOp .NotIn) (fun x y H Q => ∃ d ds, Dp X.K H x d ∧ Dp X.K H y (.tuple ds) ∧ SeqAt.shaped d = true ∧ SeqAt.shaped (.tuple ds) = true ∧ Q (.bl (!ds.any fun z => PyData.eqv z d)) H) := by
  intro pins s σ H x y v u Q I rx ry ⟨d, ds, hd, he, sd, se, q⟩
  obtain ⟨as, r1⟩ := Dp.reads I d x v hd rx
  obtain ⟨bs, r2⟩ := Dp.reads I (.tuple ds) y u he ry
  exact SeqAt.notIn_tuple_reads r2 r1 (SeqAt.canLay_of_shaped se) (SeqAt.canLay_of_shaped sd) (room_in_shaped sd hu) ⟨.bl _, H, I, rfl, q⟩
theorem pys_any (p : PyData → Bool) : ∀ ds : List D, (D.pys ds).any p = ds.any fun z => p z.py
  | [] => rfl
  | d :: r => by simp only [D.pys, List.any_cons, pys_any p r]
end
end En

set_option Elab.async false
set_option linter.all false
set_option maxRecDepth 100000
set_option maxHeartbeats 1000000
namespace En
open PySem PySem.Spec PyProof.Rows L2
section
variable {K : PySem.W.Frag} {as : Ads} {H : Hp} {st : Sto} {v : V} {d : D}
theorem key_of_keyOf {k : Key} (h : VRep K as H v d) (r : SRel K as st H) (e : keyOf (snap st d) = some k) : v = kV k := by
  cases q : snap st d with
  | int i => rw [q] at e; cases e; exact h.int r q
  | str i => rw [q] at e; cases e; exact h.str r q
  | _ => rw [q] at e; cases e
theorem KReps.get : ∀ {ds : List (Key × D)} {vs : List (Key × V)} {k : Key}, KReps K as H vs ds → (∀ d, dget ds k = some d → ∃ v, valV vs k = some v ∧ DRep K as H v d) ∧ (dget ds k = none → valV vs k = none)
  | [], _, k, h => by cases h; exact ⟨fun d e => by simp [dget] at e, fun _ => rfl⟩
  | (k', d') :: ds, _, k, h => by
    cases h with
    | cons h r =>
      obtain ⟨i1, i2⟩ := KReps.get (k := k) r
      by_cases e : k' = k
      · subst e
        refine ⟨fun d q => ?_, fun q => ?_⟩
        · simp [dget] at q
          subst q
          exact ⟨_, by simp [valV], h⟩
        · simp [dget] at q
      · have e1 : dget ((k', d') :: ds) k = dget ds k := by simp [dget, e]
        have e2 : ∀ {v : V} {vs : List (Key × V)}, valV ((k', v) :: vs) k = valV vs k := by simp [valV, e]
        rw [e1, e2]
        exact ⟨i1, i2⟩
end
section
variable {X : Cx}
theorem op_dictIn (hu : X.A.units + 1 < cLine) : OpR X (compareOp .In) (fun y x H Q => ∃ a o, x = .ref a ∧ DGet H a y o ∧ Q (.bl o.isSome) H) := by
  intro pins s σ H y x v u Q I ry rx ⟨a, o, ex, g, q⟩
  subst ex
  obtain rfl : u = Value.ref a := rx
  exact d_in hu I g ry fun s3 I3 => ⟨.bl o.isSome, H, I3, rfl, q⟩
theorem op_dictNotIn (hu : X.A.units + 1 < cLine) : OpR X (compareOp .NotIn) (fun y x H Q => ∃ a o, x = .ref a ∧ DGet H a y o ∧ Q (.bl (!o.isSome)) H) := by
  intro pins s σ H y x v u Q I ry rx ⟨a, o, ex, g, q⟩
  subst ex
  obtain rfl : u = Value.ref a := rx
  exact d_notIn hu I g ry fun s3 I3 => ⟨.bl (!o.isSome), H, I3, rfl, q⟩
theorem in_data (hu : X.A.units + 65 < cLine) {neg : Bool} : OpR X (compareOp (if neg then .NotIn else .In)) (RO X.K fun a b => (isin a b).bind fun r => .ok (.bl (if neg then !r else r))) := by
  intro pins s σ H x y v u Q I rx ry ⟨as, st, dx, dy, d, sr, hx, hy, e, q⟩
  obtain ⟨r, e1, e2⟩ := Res.bind_ok e
  cases e2
  have q0 : Q (.bl (if neg then !r else r)) H := q _ _ (Same.refl H) (.bl _)
  cases ey : snap st dy with
  | lst ds =>
    rw [ey] at e1
    have e1' : (if SeqAt.shaped (snap st dx).py && SeqAt.shaped (D.lst ds).py then Res.ok (ds.any fun z => PyData.eqv z.py (snap st dx).py) else .bad) = .ok r := by
      cases hq : snap st dx <;> (rw [hq] at e1; exact e1)
    split at e1'
    · rename_i hs
      rw [Bool.and_eq_true] at hs
      cases e1'
      have p1 := hx.dp sr (SeqAt.canLay_of_shaped hs.1)
      have p2 := hy.dp sr (by rw [ey]; exact SeqAt.canLay_of_shaped hs.2)
      rw [ey] at p2
      have p2' : Dp X.K H y (.list (D.pys ds)) := by simpa only [D.py] using p2
      have s2 : SeqAt.shaped (.list (D.pys ds)) = true := by simpa only [D.py] using hs.2
      cases neg with
      | false => exact op_inD hu pins s σ H x y v u Q I rx ry ⟨_, _, p1, p2', hs.1, s2, by rw [pys_any]; exact q0⟩
      | true => exact op_notInD hu pins s σ H x y v u Q I rx ry ⟨_, _, p1, p2', hs.1, s2, by rw [pys_any]; exact q0⟩
    · cases e1'
  | tup ds =>
    rw [ey] at e1
    have e1' : (if SeqAt.shaped (snap st dx).py && SeqAt.shaped (D.tup ds).py then Res.ok (ds.any fun z => PyData.eqv z.py (snap st dx).py) else .bad) = .ok r := by
      cases hq : snap st dx <;> (rw [hq] at e1; exact e1)
    split at e1'
    · rename_i hs
      rw [Bool.and_eq_true] at hs
      cases e1'
      have p1 := hx.dp sr (SeqAt.canLay_of_shaped hs.1)
      have p2 := hy.dp sr (by rw [ey]; exact SeqAt.canLay_of_shaped hs.2)
      rw [ey] at p2
      have p2' : Dp X.K H y (.tuple (D.pys ds)) := by simpa only [D.py] using p2
      have s2 : SeqAt.shaped (.tuple (D.pys ds)) = true := by simpa only [D.py] using hs.2
      cases neg with
      | false => exact op_inTup hu pins s σ H x y v u Q I rx ry ⟨_, _, p1, p2', hs.1, s2, by rw [pys_any]; exact q0⟩
      | true => exact op_notInTup hu pins s σ H x y v u Q I rx ry ⟨_, _, p1, p2', hs.1, s2, by rw [pys_any]; exact q0⟩
    · cases e1'
  | str z =>
    rw [ey] at e1
    cases hq : snap st dx with
    | str c =>
      rw [hq] at e1
      simp only [isin] at e1
      split at e1
      · rename_i c' hc
        cases e1
        have z1 := hx.str sr hq
        have z2 := hy.str sr ey
        subst z1 z2
        have ec : c = ⟨#[c']⟩ := by
          cases c with
          | mk cps =>
            have : cps.toList = [c'] := hc
            have : cps = #[c'] := by rw [← Array.toList_inj]; simpa using this
            rw [this]
        subst ec
        cases neg with
        | false => exact op_in_sign pins s σ H _ _ v u Q I rx ry ⟨c', z, rfl, rfl, q0⟩
        | true => exact op_notIn_sign pins s σ H _ _ v u Q I rx ry ⟨c', z, rfl, rfl, q0⟩
      · cases e1
    | _ => rw [hq] at e1; cases e1
  | dic kvs =>
    rw [ey] at e1
    have e1' : (match keyOf (snap st dx) with | some k => Res.ok (dget kvs k).isSome | none => .bad) = .ok r := by
      cases hq : snap st dx <;> (rw [hq] at e1; exact e1)
    split at e1'
    · rename_i k hk
      cases e1'
      have ex := key_of_keyOf hx sr hk
      subst ex
      obtain ⟨a, vs, rfl, h1, h2, h3⟩ := hy.dic sr ey
      have g : DGet H a (kV k) (valV vs k) := .inl ⟨vs, k, h1, rfl, rfl⟩
      have eo : (valV vs k).isSome = (dget kvs k).isSome := by
        obtain ⟨i1, i2⟩ := h3.get (k := k)
        cases hg : dget kvs k with
        | none => rw [i2 hg]; rfl
        | some d => obtain ⟨v, e, _⟩ := i1 d hg; rw [e]; rfl
      rw [← eo] at q0
      cases neg with
      | false => exact op_dictIn (by omega) pins s σ H _ _ v u Q I rx ry ⟨a, _, rfl, g, q0⟩
      | true => exact op_dictNotIn (by omega) pins s σ H _ _ v u Q I rx ry ⟨a, _, rfl, g, q0⟩
    · cases e1'
  | _ =>
    exfalso
    rw [ey] at e1
    cases hq : snap st dx <;> (rw [hq] at e1; cases e1)
theorem op_cop (hu : X.A.units + 65 < cLine) (op : COp) : OpR X (compareOp (pyCmp op)) (RO X.K (copD op)) := by
  cases op with
  | isin => exact in_data (neg := false) hu
  | notin =>
    have h := in_data (X := X) (neg := true) hu
    intro pins s σ H x y v u Q I rx ry ⟨as, st, dx, dy, d, sr, hx, hy, e, q⟩
    refine h pins s σ H x y v u Q I rx ry ⟨as, st, dx, dy, d, sr, hx, hy, ?_, q⟩
    simp only [copD, cop] at e
    cases hi : isin (snap st dx) (snap st dy) with
    | ok r => rw [hi] at e; show (isin (snap st dx) (snap st dy)).bind _ = _; rw [hi]; exact e
    | exc c d st => rw [hi] at e; cases e
    | bad => rw [hi] at e; cases e
  | eq =>
    intro pins s σ H x y v u Q I rx ry ⟨as, st, dx, dy, d, sr, hx, hy, e, q⟩
    simp only [copD, cop] at e
    split at e
    · rename_i hs
      rw [Bool.and_eq_true] at hs
      cases e
      exact op_eqD (by omega) pins s σ H x y v u Q I rx ry ⟨_, _, hx.dp sr (SeqAt.canLay_of_shaped hs.1), hy.dp sr (SeqAt.canLay_of_shaped hs.2), hs.1, hs.2, q _ _ (Same.refl H) (.bl _)⟩
    · cases e
  | ne =>
    intro pins s σ H x y v u Q I rx ry ⟨as, st, dx, dy, d, sr, hx, hy, e, q⟩
    simp only [copD, cop] at e
    split at e
    · rename_i hs
      rw [Bool.and_eq_true] at hs
      cases e
      exact op_neD (by omega) pins s σ H x y v u Q I rx ry ⟨_, _, hx.dp sr (SeqAt.canLay_of_shaped hs.1), hy.dp sr (SeqAt.canLay_of_shaped hs.2), hs.1, hs.2, q _ _ (Same.refl H) (.bl _)⟩
    · cases e
  | isNone =>
    intro pins s σ H x y v u Q I rx ry ⟨as, st, dx, dy, d, sr, hx, hy, e, q⟩
    have key : ∀ {r : Bool}, d = .bl r → snap st dy = .non → decide (x = .non) = r → wpAny (model X.prog X.w) X.A (compareOp .Is v u) (EP X pins σ Q) X.xe s := fun {r} e1 e2 e3 => by
      subst e1
      have ey := hy.non sr e2
      subst ey
      exact op_isN pins s σ H _ _ v u Q I rx ry ⟨rfl, by rw [e3]; exact q _ _ (Same.refl H) (.bl _)⟩
    cases hy' : snap st dy with
    | non =>
      rw [hy'] at e
      cases hq : snap st dx with
      | mref i => rw [hq] at e; cases e
      | non => rw [hq] at e; cases e; exact key rfl hy' (by rw [hx.non sr hq]; rfl)
      | int i => rw [hq] at e; cases e; exact key rfl hy' (by rw [hx.int sr hq]; rfl)
      | str i => rw [hq] at e; cases e; exact key rfl hy' (by rw [hx.str sr hq]; rfl)
      | bl i => rw [hq] at e; cases e; exact key rfl hy' (by rw [hx.bl sr hq]; rfl)
      | tup i => rw [hq] at e; cases e; obtain ⟨a, _, z, _⟩ := hx.tup sr hq; exact key rfl hy' (by rw [z]; rfl)
      | lst i => rw [hq] at e; cases e; obtain ⟨a, _, z, _⟩ := hx.lst sr hq; exact key rfl hy' (by rw [z]; rfl)
      | ro i => rw [hq] at e; cases e; obtain ⟨a, _, z, _⟩ := hx.ro sr hq; exact key rfl hy' (by rw [z]; rfl)
      | dic i => rw [hq] at e; cases e; obtain ⟨a, _, z, _⟩ := hx.dic sr hq; exact key rfl hy' (by rw [z]; rfl)
      | err i j => rw [hq] at e; cases e; obtain ⟨a, _, _, _, z, _⟩ := hx.err sr hq; exact key rfl hy' (by rw [z]; rfl)
    | _ => rw [hy'] at e; cases hq : snap st dx <;> (rw [hq] at e; cases e)
  | notNone =>
    intro pins s σ H x y v u Q I rx ry ⟨as, st, dx, dy, d, sr, hx, hy, e, q⟩
    have key : ∀ {r : Bool}, d = .bl r → snap st dy = .non → (!decide (x = .non)) = r → wpAny (model X.prog X.w) X.A (compareOp .IsNot v u) (EP X pins σ Q) X.xe s := fun {r} e1 e2 e3 => by
      subst e1
      have ey := hy.non sr e2
      subst ey
      exact op_notN pins s σ H _ _ v u Q I rx ry ⟨rfl, by rw [e3]; exact q _ _ (Same.refl H) (.bl _)⟩
    cases hy' : snap st dy with
    | non =>
      rw [hy'] at e
      cases hq : snap st dx with
      | mref i => rw [hq] at e; cases e
      | non => rw [hq] at e; cases e; exact key rfl hy' (by rw [hx.non sr hq]; rfl)
      | int i => rw [hq] at e; cases e; exact key rfl hy' (by rw [hx.int sr hq]; rfl)
      | str i => rw [hq] at e; cases e; exact key rfl hy' (by rw [hx.str sr hq]; rfl)
      | bl i => rw [hq] at e; cases e; exact key rfl hy' (by rw [hx.bl sr hq]; rfl)
      | tup i => rw [hq] at e; cases e; obtain ⟨a, _, z, _⟩ := hx.tup sr hq; exact key rfl hy' (by rw [z]; rfl)
      | lst i => rw [hq] at e; cases e; obtain ⟨a, _, z, _⟩ := hx.lst sr hq; exact key rfl hy' (by rw [z]; rfl)
      | ro i => rw [hq] at e; cases e; obtain ⟨a, _, z, _⟩ := hx.ro sr hq; exact key rfl hy' (by rw [z]; rfl)
      | dic i => rw [hq] at e; cases e; obtain ⟨a, _, z, _⟩ := hx.dic sr hq; exact key rfl hy' (by rw [z]; rfl)
      | err i j => rw [hq] at e; cases e; obtain ⟨a, _, _, _, z, _⟩ := hx.err sr hq; exact key rfl hy' (by rw [z]; rfl)
    | _ => rw [hy'] at e; cases hq : snap st dx <;> (rw [hq] at e; cases e)
  | lt =>
    intro pins s σ H x y v u Q I rx ry ⟨as, st, dx, dy, d, sr, hx, hy, e, q⟩
    cases hq : snap st dx with
    | int i =>
      cases hq2 : snap st dy with
      | int j =>
        rw [hq, hq2] at e
        cases e
        have z1 := hx.int sr hq
        have z2 := hy.int sr hq2
        subst z1 z2
        exact op_lt pins s σ H _ _ v u Q I rx ry ⟨i, j, rfl, rfl, q _ _ (Same.refl H) (.bl _)⟩
      | _ => rw [hq, hq2] at e; cases e
    | str i =>
      cases hq2 : snap st dy with
      | str j =>
        rw [hq, hq2] at e
        cases e
        have z1 := hx.str sr hq
        have z2 := hy.str sr hq2
        subst z1 z2
        exact op_lt_str pins s σ H _ _ v u Q I rx ry ⟨i, j, rfl, rfl, q _ _ (Same.refl H) (.bl _)⟩
      | _ => rw [hq, hq2] at e; cases e
    | _ => rw [hq] at e; cases e
  | le =>
    intro pins s σ H x y v u Q I rx ry ⟨as, st, dx, dy, d, sr, hx, hy, e, q⟩
    cases hq : snap st dx with
    | int i =>
      cases hq2 : snap st dy with
      | int j =>
        rw [hq, hq2] at e
        cases e
        have z1 := hx.int sr hq
        have z2 := hy.int sr hq2
        subst z1 z2
        exact op_le pins s σ H _ _ v u Q I rx ry ⟨i, j, rfl, rfl, q _ _ (Same.refl H) (.bl _)⟩
      | _ => rw [hq, hq2] at e; cases e
    | _ => rw [hq] at e; cases e
  | gt =>
    intro pins s σ H x y v u Q I rx ry ⟨as, st, dx, dy, d, sr, hx, hy, e, q⟩
    cases hq : snap st dx with
    | int i =>
      cases hq2 : snap st dy with
      | int j =>
        rw [hq, hq2] at e
        cases e
        have z1 := hx.int sr hq
        have z2 := hy.int sr hq2
        subst z1 z2
        exact op_gt pins s σ H _ _ v u Q I rx ry ⟨i, j, rfl, rfl, q _ _ (Same.refl H) (.bl _)⟩
      | _ => rw [hq, hq2] at e; cases e
    | _ => rw [hq] at e; cases e
  | ge =>
    intro pins s σ H x y v u Q I rx ry ⟨as, st, dx, dy, d, sr, hx, hy, e, q⟩
    cases hq : snap st dx with
    | int i =>
      cases hq2 : snap st dy with
      | int j =>
        rw [hq, hq2] at e
        cases e
        have z1 := hx.int sr hq
        have z2 := hy.int sr hq2
        subst z1 z2
        exact op_ge pins s σ H _ _ v u Q I rx ry ⟨i, j, rfl, rfl, q _ _ (Same.refl H) (.bl _)⟩
      | _ => rw [hq, hq2] at e; cases e
    | _ => rw [hq] at e; cases e
end
end En

set_option Elab.async false
set_option linter.all false
set_option maxRecDepth 100000
set_option maxHeartbeats 4000000
namespace En
open PySem PySem.Spec PyProof.Rows L2
section
variable {prog : Program} {w : World} {A : Around} {E : Value → Shared → Prop} {s : Shared}
/-- what sorted takes together of a tuple -/
theorem gather_tup {t : Addr} {us : List Value} {Q : List Value → Shared → Prop} (ht : s.heap.IsTuple t us.toArray) (fit : us.length ≤ sizeLine)
    (k : Q us { s with heap := (s.heap.push (seqObj "list" #[] 0)).update s.heap.objs.size (Obj.mapSeq (· ++ us.toArray)) }) : wpAny (model prog w) A (collect (.ref t)) Q E s := by
  obtain ⟨o, ho, hc, n, hd⟩ := id ht
  have fresh : (s.heap.push (seqObj "list" #[] 0)).get? s.heap.objs.size = some (seqObj "list" #[] 0) := Heap.get?_push_size _ rfl
  have old : (s.heap.push (seqObj "list" #[] 0)).get? t = some o := Heap.get?_push_of_some _ ho
  have room : ((#[] : Array Value) ++ us.toArray).size ≤ sizeLine + 1 := by simp only [Array.size_append, List.size_toArray, List.length_nil]; omega
  unfold collect
  refine wpAny_bind (wpAny_runValue (codeAny_builtin entry_proto_collect' (show wpAny _ _ (do again (.builtin "list.__iadd__" ⟨[← newList [], .ref t], []⟩)) _ _ s from wpAny_bind (wpAny_newList (wpAny_pure ⟨Code.quiet_builtin _ (by decide +kernel), codeAny_builtin entry_list_iadd' ?_⟩)))))
  show wpAny _ _ (Builtin.List.listExtendWith (.ref s.heap.objs.size) (.ref t) (.ref s.heap.objs.size)) _ _ { s with heap := s.heap.push (seqObj "list" #[] 0) }
  unfold Builtin.List.listExtendWith
  refine wpAny_bind (wpAny_typeOf (T := "tuple") ⟨o, old, hc⟩ ?_)
  have same : (Value.type "tuple" == Value.type "tuple") = true := by rfl
  rw [if_pos (by rw [same]; simp)]
  refine wpAny_bind (listItems_at old hd (wpAny_bind (listItems_at fresh rfl ?_)))
  rw [if_neg (by simp)]
  refine wpAny_bind (listUpdate_at fresh rfl (wpAny_pure ?_) (Nat.zero_le _) room)
  show wpAny (model prog w) A (do
      let o ← load s.heap.objs.size
      match o.data with
      | .seq xs _ => pure xs.toList
      | _ => unsupported "internal:collect") Q E { s with heap := (s.heap.push (seqObj "list" #[] 0)).update s.heap.objs.size (Obj.mapSeq (· ++ us.toArray)) }
  refine wpAny_bind (wpAny_load (get?_update_seq fresh _) ?_)
  have back : ((#[] : Array Value) ++ us.toArray).toList = us := by simp
  show wpAny _ _ (pure ((#[] : Array Value) ++ us.toArray).toList) Q E _
  rw [back]
  exact wpAny_pure k
theorem sorted_tup {t : Addr} {us : List Value} {lt : Value → Value → Bool} {Q : Value → Shared → Prop} (O : SrtO.Swo lt) (ht : s.heap.IsTuple t us.toArray) (fit : us.length ≤ sizeLine)
    (can : 2 ≤ us.length → ∀ (g : Heap) (b : Addr), g.get? b = some (seqObj "list" us.toArray 0) → (∀ c o, s.heap.get? c = some o → c ≠ b ∧ g.get? c = some o) → SrtO.SortableO prog w A.in1.in1 { s with heap := g } b us lt)
    (k : ∀ out : List Value, SrtO.Srtd lt out → SrtO.Stb lt out us → Q (.ref (s.heap.objs.size + 1)) { s with heap := sortedAll s.heap us out.toArray }) : wpAny (model prog w) A (call (.builtin "sorted") [.ref t]) Q E s := by
  have size1 : ((s.heap.push (seqObj "list" #[] 0)).update s.heap.objs.size (Obj.mapSeq (· ++ us.toArray))).objs.size = s.heap.objs.size + 1 := (Heap.size_update ..).trans (size_push' ..)
  have made : (((s.heap.push (seqObj "list" #[] 0)).update s.heap.objs.size (Obj.mapSeq (· ++ us.toArray))).push (seqObj "list" us.toArray 0)).get? (s.heap.objs.size + 1) = some (seqObj "list" us.toArray 0) := size1 ▸ Heap.get?_push_size _ rfl
  have stay : ∀ c o, s.heap.get? c = some o → c ≠ s.heap.objs.size + 1 ∧ (((s.heap.push (seqObj "list" #[] 0)).update s.heap.objs.size (Obj.mapSeq (· ++ us.toArray))).push (seqObj "list" us.toArray 0)).get? c = some o := by
    intro c o e
    have low : c < s.heap.objs.size := Heap.lt_size e
    exact ⟨Nat.ne_of_lt (Nat.lt_succ_of_lt low), Heap.get?_push_of_some _ ((Heap.get?_update_ne _ _ _ _ (Nat.ne_of_lt low)).trans (Heap.get?_push_of_some _ e))⟩
  refine Calls.call_function_entry kind_sorted plain_sorted entry_sorted (args_sorted1 _) ?_
  unfold Builtin.«sorted»
  refine wpAny_bind (m := checkCount "sorted" 1 1 _) (wpAny_pure (wpAny_bind (gather_tup ht fit (wpAny_bind (wpAny_newList ?_ fit)))))
  show wpAny _ _ _ _ _ { s with heap := ((s.heap.push (seqObj "list" #[] 0)).update s.heap.objs.size (Obj.mapSeq (· ++ us.toArray))).push (seqObj "list" us.toArray 0) }
  rw [size1]
  exact wpAny_bind (wpAny_holding (wpAny_call_entry slot_list_sort ⟨_, made, rfl⟩ entry_list_sort (SrtO.list_sort_ord O made fit (fun two => can two _ _ made stay) fun out h1 h2 => ⟨_, rfl, wpAny_pure ⟨_, rfl, k out h1 h2⟩⟩) (args_list_sort _)))
theorem sorted_tupP {t : Addr} {us : List Value} {f : Value → Int × Int} {Q : Value → Shared → Prop} (ht : s.heap.IsTuple t us.toArray) (fit : us.length ≤ sizeLine) (hp : ∀ v ∈ us, Srt.IsPair s.heap v (f v).1 (f v).2)
    (k : ∀ (g : Heap) (d : Addr) (out : List Value), SrtO.Srtd (fun v u => SrtO.lexB (f v) (f u)) out → SrtO.Stb (fun v u => SrtO.lexB (f v) (f u)) out us → (∀ b o, s.heap.get? b = some o → g.get? b = some o) → s.heap.objs.size ≤ d → (∃ n, g.get? d = some (seqObj "list" out.toArray n)) → Q (.ref d) { s with heap := g }) :
    wpAny (model prog w) A (call (.builtin "sorted") [.ref t]) Q E s := by
  refine sorted_tup (SrtO.swo_lex f) ht fit (fun two g b hb kk => SrtO.pairs_sortableO (s := { s with heap := g }) (by omega) (fun v hv => (hp v hv).keeps fun c o e _ => (kk c o e).2) fun o e c => ?_) fun out h1 h2 => k _ _ out h1 h2 (fun b o e => sortedAll_old e) (Nat.le_succ _) (sortedAll_at s.heap us out.toArray)
  have e' : some o = some (seqObj "list" us.toArray 0) := e.symm.trans hb
  cases e'
  exact absurd (Value.type.inj c) (by decide)
end
section
variable {X : Cx}
/-- sorted(t), t a tuple of pairs of ints -/
def rSortTP (K : PySem.W.Frag) : List V → Hp → VK → Prop := fun vs H Q => ∃ (a : Addr) (xs : List V) (k : V → Int × Int), vs = [V.ref a] ∧ SqT K H a xs ∧ (∀ x ∈ xs, ∃ t, x = V.ref t ∧ SqT K H t [.int (k x).1, .int (k x).2]) ∧
  ∀ ys p, SrtO.Srtd (ltP k) ys → SrtO.Stb (ltP k) ys xs → H p = none → Q (.ref p) (upd H p (.lst ys))
theorem cr_sortTP : CallR X (.builtin "sorted") (rSortTP X.K) := by
  intro pins s σ H vs us Q I r h
  obtain ⟨a, xs, k, rfl, hs, hx, q⟩ := h
  obtain ⟨its, rv, hl, hz⟩ := I.tuple hs
  obtain ⟨u, rfl, ru⟩ := vals1 r
  obtain rfl : u = Value.ref a := ru
  obtain ⟨e1, e2⟩ := refs_back rv fun x m => let ⟨t, e, _⟩ := hx x m; ⟨t, e⟩
  refine sorted_tupP (f := fun u => k (backV u)) (show s.heap.IsTuple a its.toArray from hl) (by rw [← rv.length]; exact hz) (fun v hv => ?_) fun g d out h1 h2 kp hd ⟨n, hn⟩ => ?_
  · obtain ⟨t, rfl⟩ := e2 v hv
    obtain ⟨t', e, ht⟩ := hx (V.ref t) (by rw [e1]; exact List.mem_map.mpr ⟨_, hv, rfl⟩)
    cases e
    obtain ⟨its2, r2, ⟨o, ho, hc, m, hm⟩, _⟩ := I.tuple ht
    obtain ⟨u1, u2, rfl, ⟨t1, rfl⟩, ⟨t2, rfl⟩⟩ := vals2 r2
    exact ⟨t, o, t1, t2, m, rfl, ho, hc, hm⟩
  · have h3 : ∀ u ∈ out, ∃ a, u = Value.ref a := fun u hu => e2 u (h2.perm.mem_iff.mp hu)
    have hb : SrtO.Stb (ltP k) (out.map backV) xs := by rw [e1]; exact SrtO.Stb.map (ltP_swo k) backV h2
    exact ⟨.ref d, upd H d (.lst (out.map backV)), I.laid (t' := s.toks) kp hd ⟨by rw [hb.len]; exact hz, out, n, vals_back h3, hn⟩, rfl, q _ d (SrtO.srtd_map h1) hb (I.hok.fresh hd)⟩
end
section
variable {P : Program} {w : World} {A : Around} {E : Value → Shared → Prop} {s : Shared}
/-- an empty set, new -/
abbrev newSet (w : World) : Obj := { cls := .type "set", dict := none, data := .set #[] 0 (.fresh 0 0 (!w.params.followText "set-order")) }
/-- set(l), l a list of ints -/
theorem set_of_list {l : Addr} {items : Array Value} (ns : List Int) {Q : Value → Shared → Prop} (calm : A.handled = none) (hl : s.heap.IsList l items) (hit : IntsAre items.toList ns) (few : ns.length + 1 < scanBound)
    (k : ∀ (g : Heap) (tk c : Nat), SetR w g s.heap.objs.size (fun j => decide (j ∈ ns)) c → c ≤ ns.length → (∀ b o, s.heap.get? b = some o → g.get? b = some o) → Q (.ref s.heap.objs.size) { s with heap := g, toks := tk }) :
    wpAny (model P w) A (call (.type "set") [.ref l]) Q E s := by
  have sz : items.size = ns.length := (Array.length_toList (xs := items)).symm.trans (IntsAre.length hit)
  have f0 := F.called_set; obtain ⟨c, tl, hmro⟩ := f0.mro
  have f1 := f0.made; have f2 := f0.sub; have f3 := f0.notType; have f4 := f0.canCreate; have f5 := F.typeCall_set_1 (.ref l)
  refine wpAny_call (codeAny_of_tree (show wpAny _ _ (callAny (.type "set") _) _ _ _ from wpAny_pure ⟨Code.quiet_builtin _ (by decide +kernel), codeAny_builtin F.entry_type_call ?_⟩))
  rw [Around.under_plain (weight_type_call_type "set" [.ref l] []) rfl]
  repeat (any_goals (first | assumption | wp_step))
  refine codeAny_mono (code_set_led1 (.ref l) (E := E) (Q₁ := fun ob t => ob = .ref s.heap.objs.size ∧ t = { s with heap := s.heap.push (newSet w) }) ⟨rfl, rfl⟩) fun r t hr => ?_
  cases r with
  | error e => exact hr
  | ok fl =>
    cases fl with
    | ret ob =>
      obtain ⟨rfl, rfl⟩ := hr
      have at0 : (s.heap.push (newSet w)).get? s.heap.objs.size = some (newSet w) := Heap.get?_push_size _ rfl
      have ty0 : Shared.TypeIs { s with heap := s.heap.push (newSet w) } (.ref s.heap.objs.size) "set" := ⟨_, at0, rfl⟩
      have g1 := f0.init.lookup; have g2 := f0.init.bind (.ref s.heap.objs.size)
      repeat (any_goals (first | assumption | wp_step))
      refine codeAny_mono (codeAny_call_builtin (R := wants (fun r t => r = .none ∧ ∃ g tk c, t = { s with heap := g, toks := tk } ∧ SetR w g s.heap.objs.size (fun j => decide (j ∈ ns)) c ∧ c ≤ ns.length ∧ (∀ b o, s.heap.get? b = some o → g.get? b = some o)) E) f0.init.plain F.entry_set_init (check_set_init_1 ty0 ?_)) fun r2 t2 hr2 => ?_
      · obtain ⟨⟨ocls, odict, odata, osl⟩, hol, hcl, nl, hdl⟩ := hl
        simp only at hcl hdl
        subst hcl hdl
        have old : (s.heap.push (newSet w)).get? l = some { cls := .type "list", dict := odict, data := .seq items nl, slots := osl } := Heap.get?_push_of_some _ hol
        have b1 := F.sub_list_set; have b2 := F.sub_list_frozenset
        have b3 : (Value.type "list" == Value.type "dict") = false := by decide
        have still : (s.heap.push (newSet w)).IsList l items := ⟨_, old, rfl, nl, rfl⟩
        unfold Builtin.«set.__init__» noKeywords Builtin.Frozenset.updateFrom
        generalize hPI : pyIter = PI
        wp_walk
        subst hPI
        refine wpAny_pyIter_list still (wpAny_bind (wpAny_runValue ?_))
        have low : l < s.heap.objs.size := Heap.lt_size hol
        have sz1 : (s.heap.push (newSet w)).objs.size = s.heap.objs.size + 1 := Heap.size_push ..
        have calm3 : A.in1.in1.in1.handled = none := by simp [calm]
        have ne1 : l ≠ (s.heap.push (newSet w)).objs.size := by rw [sz1]; exact Nat.ne_of_lt (Nat.lt_succ_of_lt low)
        have ne2 : s.heap.objs.size ∉ [(s.heap.push (newSet w)).objs.size, l] := by
          rw [sz1]
          intro m
          rcases List.mem_cons.mp m with e | e
          · exact Nat.ne_of_lt (Nat.lt_succ_self _) e
          · exact Nat.ne_of_gt low (List.mem_singleton.mp e)
        have vals : ∀ (i : Nat) (v : Value), items[i]? = some v → ∃ z t, ns[i]? = some z ∧ v = .int z t := fun i v hv => by
          have hi : i < ns.length := sz ▸ (Array.getElem?_eq_some_iff.mp hv).1
          obtain ⟨t, e⟩ := IntsAre.int_at hit i v (by rw [Array.getElem?_toList]; exact hv)
          exact ⟨ns[i], t, List.getElem?_eq_getElem hi, by rw [e, List.getD_eq_getElem?_getD, List.getElem?_eq_getElem hi] <;> rfl⟩
        refine set_update_ints ((Walks.list calm3 _ l ne1 items).toS) s.heap.objs.size ne2 ns sz few vals (items.size - 0) 0 _ (by omega) (Nat.zero_le _) ⟨⟨_, Heap.get?_push_size _ rfl, rfl, rfl⟩, (still.push _)⟩ ⟨0, Nat.le_refl 0, setR_new_at (Heap.get?_push_of_some _ at0)⟩ fun t' c' hm hc' hS' => ?_
        obtain ⟨g, g2, d', tk', os'⟩ := t'
        obtain rfl : g2 = s.gens := hm.gens
        obtain rfl : d' = s.drawn := hm.drawn
        obtain rfl : os' = s.os := hm.os
        show wpAny _ _ _ _ _ _
        refine wpAny_pure (show wpAny _ _ (ret Value.none) _ _ _ from wpAny_pure ⟨rfl, g, tk', c', rfl, hS', sz ▸ hc', fun b o e => ?_⟩)
        have lowb : b < s.heap.objs.size := Heap.lt_size e
        refine hm.heap b o (fun m => ?_) (Heap.get?_push_of_some _ (Heap.get?_push_of_some _ e))
        rcases List.mem_cons.mp m with z | z
        · exact Nat.ne_of_lt lowb z
        · have := List.mem_singleton.mp z
          rw [sz1] at this
          exact Nat.ne_of_lt (Nat.lt_succ_of_lt lowb) this
      · cases r2 with
        | error e => exact hr2
        | ok fl2 =>
          cases fl2 with
          | ret r =>
            obtain ⟨rfl, g, tk, c', rfl, hS', hc', hk'⟩ := hr2
            repeat (any_goals (first | assumption | wp_step))
            exact k _ _ _ hS' hc' hk'
          | _ => exact hr2.elim
    | _ => exact hr.elim
end
end En

set_option Elab.async false
set_option linter.all false
set_option maxRecDepth 100000
set_option maxHeartbeats 4000000
namespace En
open PySem PySem.Spec PyProof.Rows L2
theorem ltP2_iff {p q : Int × Int} : ltP2 p q = true ↔ p.1 < q.1 ∨ (p.1 = q.1 ∧ p.2 < q.2) := by
  unfold ltP2
  split
  · rw [decide_eq_true_eq]; omega
  · rw [decide_eq_true_eq]; omega
theorem ltP2_lex (p q : Int × Int) : ltP2 p q = SrtO.lexB p q := rfl
def leP (p q : Int × Int) : Prop := ¬ ltP2 q p = true
theorem leP_iff {p q : Int × Int} : leP p q ↔ p.1 < q.1 ∨ (p.1 = q.1 ∧ p.2 ≤ q.2) := by
  unfold leP
  rw [ltP2_iff]
  omega
theorem insP_perm (x : Int × Int) : ∀ l : List (Int × Int), (insP x l).Perm (x :: l)
  | [] => List.Perm.refl _
  | y :: r => by
    unfold insP
    split
    · exact List.Perm.refl _
    · exact ((insP_perm x r).cons y).trans (List.Perm.swap x y r)
theorem insP_sorted {x : Int × Int} : ∀ {l : List (Int × Int)}, l.Pairwise leP → (insP x l).Pairwise leP
  | [], _ => by simp [insP]
  | y :: r, h => by
    have hc := List.pairwise_cons.mp h
    unfold insP
    split
    · rename_i hx
      refine List.pairwise_cons.mpr ⟨fun z hz => ?_, h⟩
      have h0 := ltP2_iff.mp hx
      rcases List.mem_cons.mp hz with rfl | hz
      · rw [leP_iff]; omega
      · have := leP_iff.mp (hc.1 z hz); rw [leP_iff]; omega
    · rename_i hx
      refine List.pairwise_cons.mpr ⟨fun z hz => ?_, insP_sorted hc.2⟩
      rcases List.mem_cons.mp ((insP_perm x r).mem_iff.mp hz) with rfl | hz
      · exact hx
      · exact hc.1 z hz
theorem sortP_go (l : List (Int × Int)) : ∀ acc : List (Int × Int), acc.Pairwise leP → (l.foldl (fun acc x => insP x acc) acc).Pairwise leP ∧ (l.foldl (fun acc x => insP x acc) acc).Perm (l ++ acc) := by
  induction l with
  | nil => intro acc h; exact ⟨h, List.Perm.refl _⟩
  | cons x r ih =>
    intro acc h
    obtain ⟨h1, h2⟩ := ih (insP x acc) (insP_sorted h)
    exact ⟨h1, h2.trans (((insP_perm x acc).append_left r).trans List.perm_middle)⟩
theorem sortP_sorted (l : List (Int × Int)) : (sortP l).Pairwise leP := (sortP_go l [] .nil).1
theorem sortP_perm (l : List (Int × Int)) : (sortP l).Perm l := by have := (sortP_go l [] .nil).2; rw [List.append_nil] at this; exact this
theorem leP_antisymm {p q : Int × Int} (h1 : leP p q) (h2 : leP q p) : p = q := by
  rw [leP_iff] at h1 h2
  obtain ⟨a, b⟩ := p
  obtain ⟨c, d⟩ := q
  simp only at h1 h2
  rw [show a = c by omega, show b = d by omega]
theorem sortedP_uniq : ∀ {l m : List (Int × Int)}, l.Pairwise leP → m.Pairwise leP → l.Perm m → l = m
  | [], m, _, _, p => (List.Perm.eq_nil p.symm).symm
  | x :: l, [], _, _, p => absurd p.length_eq (by simp)
  | x :: l, y :: m, h1, h2, p => by
    have a := List.pairwise_cons.mp h1
    have b := List.pairwise_cons.mp h2
    have e : x = y := by
      rcases List.mem_cons.mp (p.mem_iff.mp (List.mem_cons_self (a := x) (l := l))) with e | hx
      · exact e
      · rcases List.mem_cons.mp (p.mem_iff.mpr (List.mem_cons_self (a := y) (l := m))) with e | hy
        · exact e.symm
        · exact leP_antisymm (a.1 y hy) (b.1 x hx)
    subst e
    rw [sortedP_uniq a.2 b.2 p.cons_inv]
theorem insI_mem {x z : Int} : ∀ {l : List Int}, z ∈ insI x l ↔ z = x ∨ z ∈ l
  | [] => by simp [insI]
  | y :: r => by
    unfold insI
    split
    · simp
    · split
      · rename_i e; subst e; simp
      · have ih := insI_mem (x := x) (z := z) (l := r)
        simp only [List.mem_cons, ih]
        constructor
        · rintro (h | h | h) <;> simp [h]
        · rintro (h | h | h) <;> simp [h]
theorem insI_sorted {x : Int} : ∀ {l : List Int}, l.Pairwise (· < ·) → (insI x l).Pairwise (· < ·)
  | [], _ => by simp [insI]
  | y :: r, h => by
    have hc := List.pairwise_cons.mp h
    unfold insI
    split
    · rename_i hx
      refine List.pairwise_cons.mpr ⟨fun z hz => ?_, h⟩
      rcases List.mem_cons.mp hz with rfl | hz
      · exact hx
      · have := hc.1 z hz; omega
    · split
      · exact h
      · rename_i h1 h2
        refine List.pairwise_cons.mpr ⟨fun z hz => ?_, insI_sorted hc.2⟩
        rcases insI_mem.mp hz with rfl | hz
        · omega
        · exact hc.1 z hz
theorem sortI_go (l : List Int) : ∀ acc : List Int, acc.Pairwise (· < ·) → (l.foldl (fun acc x => insI x acc) acc).Pairwise (· < ·) ∧ ∀ z, z ∈ (l.foldl (fun acc x => insI x acc) acc) ↔ z ∈ l ∨ z ∈ acc := by
  induction l with
  | nil => intro acc h; exact ⟨h, fun z => by simp⟩
  | cons x r ih =>
    intro acc h
    obtain ⟨h1, h2⟩ := ih (insI x acc) (insI_sorted h)
    refine ⟨h1, fun z => ?_⟩
    rw [List.foldl_cons, h2, insI_mem, List.mem_cons]
    constructor
    · rintro (h | h | h) <;> simp [h]
    · rintro ((h | h) | h) <;> simp [h]
theorem sortI_sorted (l : List Int) : (sortI l).Pairwise (· < ·) := (sortI_go l [] .nil).1
theorem sortI_mem {l : List Int} {z : Int} : z ∈ sortI l ↔ z ∈ l := ((sortI_go l [] .nil).2 z).trans (by simp)
theorem sortedI_uniq : ∀ {l m : List Int}, l.Pairwise (· < ·) → m.Pairwise (· < ·) → (∀ z, z ∈ l ↔ z ∈ m) → l = m
  | [], [], _, _, _ => rfl
  | [], y :: m, _, _, h => absurd ((h y).mpr (List.mem_cons_self ..)) (by simp)
  | x :: l, [], _, _, h => absurd ((h x).mp (List.mem_cons_self ..)) (by simp)
  | x :: l, y :: m, h1, h2, h => by
    have a := List.pairwise_cons.mp h1
    have b := List.pairwise_cons.mp h2
    have e : x = y := by
      rcases List.mem_cons.mp ((h x).mp (List.mem_cons_self ..)) with e | hx
      · exact e
      · rcases List.mem_cons.mp ((h y).mpr (List.mem_cons_self ..)) with e | hy
        · exact e.symm
        · have := a.1 y hy; have := b.1 x hx; omega
    subst e
    rw [sortedI_uniq a.2 b.2 fun z => ?_]
    constructor
    · intro hz
      rcases List.mem_cons.mp ((h z).mp (List.mem_cons_of_mem _ hz)) with e | q
      · have := a.1 z hz; omega
      · exact q
    · intro hz
      rcases List.mem_cons.mp ((h z).mpr (List.mem_cons_of_mem _ hz)) with e | q
      · have := b.1 z hz; omega
      · exact q
section
variable {X : Cx}
/-- set(l), l a list of ints -/
def rSetL (K : PySem.W.Frag) (w : World) : List V → Hp → VK → Prop := fun vs H Q => ∃ (l : Addr) (ns : List Int), vs = [V.ref l] ∧ SqL K H l (ns.map V.int) ∧ ns.length < 1000 ∧
  ∀ p c, H p = none → c ≤ ns.length → Q (.ref p) (upd H p (SetO w p (fun j => decide (j ∈ ns)) c))
theorem cr_setL (hc : X.calm = true) : CallR X (.type "set") (rSetL X.K X.w) := by
  intro pins s σ H vs us Q I r h
  obtain ⟨l, ns, rfl, hs, few, q⟩ := h
  obtain ⟨its, rv, hl, hz⟩ := I.list hs
  rw [Vals.ref1 r]
  refine set_of_list ns (I.ok.hd hc) hl.isList (by simpa using rv.ints) (by unfold scanBound; omega) fun g tk c new hc' kp => ?_
  exact ⟨.ref _, upd H s.heap.objs.size (SetO X.w s.heap.objs.size (fun j => decide (j ∈ ns)) c), I.laid (t' := tk) kp (Nat.le_refl _) (setO_new new), rfl, q _ c (I.hok.fresh (Nat.le_refl _)) hc'⟩
end
end En

set_option Elab.async false
set_option linter.all false
set_option maxRecDepth 100000
set_option maxHeartbeats 1000000
namespace En
open PySem PySem.Spec PyProof.Rows L2

/-- a built-in by its data -/
def RB (K : PySem.W.Frag) (b : B) : List V → Hp → VK → Prop := fun vs H Q => ∃ as st ds d, SRel K as st H ∧ VReps K as H vs ds ∧ bi b (ds.map (snap st)) = .ok d ∧ ∀ v H', Same H H' → DRep K as H' v d → Q v H'
section
variable {K : PySem.W.Frag} {as : Ads} {H : Hp} {st : Sto}
theorem VReps.one {vs : List V} {d : D} (h : VReps K as H vs [d]) : ∃ v, vs = [v] ∧ VRep K as H v d := by
  cases h with
  | cons h r => cases r; exact ⟨_, rfl, h⟩
theorem VReps.two {vs : List V} {d e : D} (h : VReps K as H vs [d, e]) : ∃ v u, vs = [v, u] ∧ VRep K as H v d ∧ VRep K as H u e := by
  cases h with
  | cons h r => obtain ⟨u, rfl, q⟩ := r.one; exact ⟨_, _, rfl, h, q⟩
theorem DReps.bools : ∀ {ds : List D} {vs : List V} {bs : List Bool}, DReps K as H vs ds → boolsD ds = some bs → vs = bs.map V.bl
  | [], _, bs, h, e => by cases h; simp [boolsD] at e; subst e; rfl
  | .bl b :: ds, _, bs, h, e => by
    cases h with
    | cons h r =>
      simp only [boolsD, Option.map_eq_some_iff] at e
      obtain ⟨bs', e1, rfl⟩ := e
      cases h
      rw [DReps.bools r e1]; rfl
  | .non :: _, _, _, _, e => by simp [boolsD] at e
  | .int _ :: _, _, _, _, e => by simp [boolsD] at e
  | .str _ :: _, _, _, _, e => by simp [boolsD] at e
  | .tup _ :: _, _, _, _, e => by simp [boolsD] at e
  | .lst _ :: _, _, _, _, e => by simp [boolsD] at e
  | .ro _ :: _, _, _, _, e => by simp [boolsD] at e
  | .dic _ :: _, _, _, _, e => by simp [boolsD] at e
  | .mref _ :: _, _, _, _, e => by simp [boolsD] at e
theorem DReps.ints : ∀ {ds : List D} {vs : List V} {bs : List Int}, DReps K as H vs ds → intsD ds = some bs → vs = bs.map V.int
  | [], _, bs, h, e => by cases h; simp [intsD] at e; subst e; rfl
  | .int b :: ds, _, bs, h, e => by
    cases h with
    | cons h r =>
      simp only [intsD, Option.map_eq_some_iff] at e
      obtain ⟨bs', e1, rfl⟩ := e
      cases h
      rw [DReps.ints r e1]; rfl
  | .non :: _, _, _, _, e => by simp [intsD] at e
  | .bl _ :: _, _, _, _, e => by simp [intsD] at e
  | .str _ :: _, _, _, _, e => by simp [intsD] at e
  | .tup _ :: _, _, _, _, e => by simp [intsD] at e
  | .lst _ :: _, _, _, _, e => by simp [intsD] at e
  | .ro _ :: _, _, _, _, e => by simp [intsD] at e
  | .dic _ :: _, _, _, _, e => by simp [intsD] at e
  | .mref _ :: _, _, _, _, e => by simp [intsD] at e
theorem DReps.strs : ∀ {ds : List D} {vs : List V} {bs : List Str}, DReps K as H vs ds → strsD ds = some bs → vs = bs.map V.str
  | [], _, bs, h, e => by cases h; simp [strsD] at e; subst e; rfl
  | .str b :: ds, _, bs, h, e => by
    cases h with
    | cons h r =>
      simp only [strsD, Option.map_eq_some_iff] at e
      obtain ⟨bs', e1, rfl⟩ := e
      cases h
      rw [DReps.strs r e1]; rfl
  | .non :: _, _, _, _, e => by simp [strsD] at e
  | .bl _ :: _, _, _, _, e => by simp [strsD] at e
  | .int _ :: _, _, _, _, e => by simp [strsD] at e
  | .tup _ :: _, _, _, _, e => by simp [strsD] at e
  | .lst _ :: _, _, _, _, e => by simp [strsD] at e
  | .ro _ :: _, _, _, _, e => by simp [strsD] at e
  | .dic _ :: _, _, _, _, e => by simp [strsD] at e
  | .mref _ :: _, _, _, _, e => by simp [strsD] at e
theorem DReps.ofStrs : ∀ bs : List Str, DReps K as H (bs.map V.str) (bs.map D.str)
  | [] => .nil
  | b :: bs => .cons (.str b) (DReps.ofStrs bs)
theorem DReps.ofInts : ∀ bs : List Int, DReps K as H (bs.map V.int) (bs.map D.int)
  | [] => .nil
  | b :: r => .cons (.int b) (DReps.ofInts r)
theorem KReps.strKeys : ∀ {ds : List (Key × D)} {vs : List (Key × V)} {bs : List Str}, KReps K as H vs ds → strKeys ds = some bs → vs.map (·.1) = bs.map Sum.inr
  | [], _, bs, h, e => by cases h; simp [En.strKeys] at e; subst e; rfl
  | (.inr b, _) :: ds, _, bs, h, e => by
    cases h with
    | cons h r =>
      simp only [En.strKeys, Option.map_eq_some_iff] at e
      obtain ⟨bs', e1, rfl⟩ := e
      simp [KReps.strKeys r e1]
  | (.inl _, _) :: _, _, _, _, e => by simp [En.strKeys] at e
end
def leStr (i j : Str) : Prop := ¬ (j.cps.toList < i.cps.toList)
theorem ltStr_iff {i j : Str} : ltStr i j = true ↔ i.cps.toList < j.cps.toList := by simp [ltStr]
theorem Str.ext' {i j : Str} (h : i.cps.toList = j.cps.toList) : i = j := by
  cases i; cases j
  simp only at h
  congr
  exact Array.toList_inj.mp h
theorem leStr_antisymm {i j : Str} (h1 : leStr i j) (h2 : leStr j i) : i = j := Str.ext' (List.le_antisymm (List.not_lt.mp h1) (List.not_lt.mp h2))
theorem leStr_trans {i j k : Str} (h1 : leStr i j) (h2 : leStr j k) : leStr i k := List.not_lt.mpr (List.le_trans (List.not_lt.mp h1) (List.not_lt.mp h2))
theorem leStr_of_lt {i j : Str} (h : i.cps.toList < j.cps.toList) : leStr i j := fun h2 => List.lt_irrefl _ (List.lt_trans h h2)
theorem insS_perm (x : Str) : ∀ l : List Str, (insS x l).Perm (x :: l)
  | [] => .refl _
  | y :: r => by
    unfold insS
    split
    · exact .refl _
    · exact ((insS_perm x r).cons y).trans (.swap x y r)
theorem insS_sorted {x : Str} : ∀ {l : List Str}, l.Pairwise leStr → (insS x l).Pairwise leStr
  | [], _ => by simp [insS]
  | y :: r, h => by
    obtain ⟨h1, h2⟩ := List.pairwise_cons.mp h
    unfold insS
    split
    · rename_i hx
      have hxy : leStr x y := leStr_of_lt (ltStr_iff.mp hx)
      refine List.pairwise_cons.mpr ⟨fun z hz => ?_, h⟩
      rcases List.mem_cons.mp hz with rfl | hz
      · exact hxy
      · exact leStr_trans hxy (h1 z hz)
    · rename_i hx
      have hyx : leStr y x := fun z => hx (ltStr_iff.mpr z)
      refine List.pairwise_cons.mpr ⟨fun z hz => ?_, insS_sorted h2⟩
      rcases List.mem_cons.mp ((insS_perm x r).mem_iff.mp hz) with rfl | hz
      · exact hyx
      · exact h1 z hz
theorem sortS_go (l : List Str) : ∀ acc : List Str, acc.Pairwise leStr → (l.foldl (fun acc x => insS x acc) acc).Pairwise leStr ∧ (l.foldl (fun acc x => insS x acc) acc).Perm (l ++ acc) := by
  induction l with
  | nil => intro acc h; exact ⟨h, .refl _⟩
  | cons x l ih =>
    intro acc h
    obtain ⟨h1, h2⟩ := ih (insS x acc) (insS_sorted h)
    refine ⟨h1, h2.trans ?_⟩
    have := (insS_perm x acc).append_left l
    exact this.trans (by simpa using List.perm_middle)
theorem sortS_sorted (l : List Str) : (sortS l).Pairwise leStr := (sortS_go l [] .nil).1
theorem sortS_perm (l : List Str) : (sortS l).Perm l := by have := (sortS_go l [] .nil).2; rw [List.append_nil] at this; exact this
theorem sorted_uniq : ∀ {l m : List Str}, l.Pairwise leStr → m.Pairwise leStr → l.Perm m → l = m
  | [], m, _, _, p => by rw [List.nil_perm.mp p]
  | x :: l, [], _, _, p => by have := p.length_eq; simp at this
  | x :: l, y :: m, h1, h2, p => by
    obtain ⟨a1, a2⟩ := List.pairwise_cons.mp h1
    obtain ⟨b1, b2⟩ := List.pairwise_cons.mp h2
    have exy : x = y := by
      rcases List.mem_cons.mp (p.mem_iff.mp (List.mem_cons_self (a := x))) with e | e
      · exact e
      · rcases List.mem_cons.mp (p.mem_iff.mpr (List.mem_cons_self (a := y))) with e2 | e2
        · exact e2.symm
        · exact leStr_antisymm (a1 y e2) (b1 x e)
    subst exy
    rw [sorted_uniq a2 b2 (p.cons_inv)]
theorem ltCps_iff : ∀ a b : List Nat, ltCps a b = true ↔ a < b := by
  intro a b
  induction a generalizing b with
  | nil => cases b <;> simp [ltCps]
  | cons x a ih =>
    cases b with
    | nil => simp [ltCps]
    | cons y b =>
      simp only [ltCps, List.cons_lt_cons_iff]
      by_cases h : x = y
      · subst h; simp [ih]
      · have : (x == y) = false := by simpa using h
        simp [this, h]
theorem sortedS_pairwise : ∀ {l : List Str}, sortedS l = true → l.Pairwise leStr
  | [], _ => .nil
  | [x], _ => by simp
  | x :: y :: r, h => by
    simp only [sortedS, risingS, Bool.and_eq_true, Bool.not_eq_true'] at h
    have h1 : leStr x y := fun z => by rw [(ltCps_iff _ _).mpr z] at h; exact absurd h.1 (by simp)
    have ih : (y :: r).Pairwise leStr := sortedS_pairwise (by simpa [sortedS] using h.2)
    refine List.pairwise_cons.mpr ⟨fun z hz => ?_, ih⟩
    rcases List.mem_cons.mp hz with rfl | hz
    · exact h1
    · exact leStr_trans h1 ((List.pairwise_cons.mp ih).1 z hz)
theorem sortS_eq {l m : List Str} (p : m.Perm l) (h : sortedS m = true) : m = sortS l := sorted_uniq (sortedS_pairwise h) (sortS_sorted l) (p.trans (sortS_perm l).symm)
section
variable {X : Cx}
/-- what a one-place built-in is asked -/
theorem rb1 {b : B} {f : Value} (hb : ∀ (d0 d1 : D) (r : List D), bi b [] = .bad ∧ bi b (d0 :: d1 :: r) = .bad)
    (h : ∀ (pins : List (Addr × Obj)) (s : Shared) (σ : L2.St) (H : Hp) (x : V) (u : Value) (Q : VK) (as : Ads) (st : Sto) (d0 d : D), Inv X pins σ H s → RelV x u → SRel X.K as st H → VRep X.K as H x d0 → bi b [snap st d0] = .ok d →
      (∀ v H', Same H H' → DRep X.K as H' v d → Q v H') → wpAny (model X.prog X.w) X.A (call f [u]) (EP X pins σ Q) X.xe s) : CallR X f (RB X.K b) := by
  intro pins s σ H xs us Q I r ⟨as, st, ds, d, sr, hv, e, q⟩
  match ds, hv, e with
  | [], hv, e => rw [List.map_nil, (hb .non .non []).1] at e; cases e
  | d0 :: d1 :: ds, hv, e => rw [List.map_cons, List.map_cons, (hb _ _ _).2] at e; cases e
  | [d0], hv, e =>
    obtain ⟨x, rfl, hx⟩ := hv.one
    obtain ⟨u, rfl, rx⟩ := vals1 r
    exact h pins s σ H x u Q as st d0 d I rx sr hx e q
theorem vals_one {x : V} {u : Value} (r : RelV x u) : Vals [x] [u] := .cons r .nil
theorem c_len : CallR X (.builtin "len") (RB X.K .len) := by
  refine rb1 (fun d0 _ _ => ⟨rfl, by cases d0 <;> rfl⟩) fun pins s σ H x u Q as st d0 d I rx sr hx e q => ?_
  have q0 : ∀ {i : Int}, d = .int i → Q (.int i) H := fun {i} e => by subst e; exact q _ _ (Same.refl H) (.int _)
  cases hd : snap st d0 with
  | lst ds =>
    rw [hd] at e; cases e
    obtain ⟨a, vs, rfl, h1, h2, h3⟩ := hx.lst sr hd
    exact call_len_seq pins s σ H _ _ Q I (vals_one rx) ⟨a, vs, rfl, .inl (.inl (.inl h1)), by rw [h3.length]; exact q0 rfl⟩
  | ro ds =>
    rw [hd] at e; cases e
    obtain ⟨a, vs, rfl, h1, h2, h3⟩ := hx.ro sr hd
    exact call_len_seq pins s σ H _ _ Q I (vals_one rx) ⟨a, vs, rfl, .inl h1, by rw [h3.length]; exact q0 rfl⟩
  | tup ds =>
    rw [hd] at e; cases e
    obtain ⟨a, vs, rfl, h1, h2, h3⟩ := hx.tup sr hd
    exact call_len_seq pins s σ H _ _ Q I (vals_one rx) ⟨a, vs, rfl, .inr h1.sq, by rw [h3.length]; exact q0 rfl⟩
  | str z =>
    rw [hd] at e
    simp only [bi] at e
    split at e
    · rename_i hz
      cases e
      have ex := hx.str sr hd
      subst ex
      exact call_len_str pins s σ H _ _ Q I (vals_one rx) ⟨z, rfl, by rw [← LIM_eq]; exact hz, q0 rfl⟩
    · cases e
  | dic kvs =>
    rw [hd] at e; cases e
    obtain ⟨a, vs, rfl, h1, h2, h3⟩ := hx.dic sr hd
    cases rx
    exact d_len I h1 fun t s' I' => ⟨.int _, H, I', ⟨_, rfl⟩, by rw [h3.length]; exact q0 rfl⟩
  | _ => rw [hd] at e; cases e
theorem c_abs : CallR X (.builtin "abs") (RB X.K .abs) := by
  refine rb1 (fun d0 _ _ => ⟨rfl, by cases d0 <;> rfl⟩) fun pins s σ H x u Q as st d0 d I rx sr hx e q => ?_
  cases hd : snap st d0 with
  | int i =>
    rw [hd] at e; cases e
    have ex := hx.int sr hd
    subst ex
    exact call_abs pins s σ H _ _ Q I (vals_one rx) ⟨i, rfl, q _ _ (Same.refl H) (.int _)⟩
  | _ => rw [hd] at e; cases e
theorem c_int : CallR X (.type "int") (RB X.K .int) := by
  refine rb1 (fun d0 _ _ => ⟨rfl, by cases d0 <;> rfl⟩) fun pins s σ H x u Q as st d0 d I rx sr hx e q => ?_
  cases hd : snap st d0 with
  | int i =>
    rw [hd] at e; cases e
    have ex := hx.int sr hd
    subst ex
    exact call_int1 pins s σ H _ _ Q I (vals_one rx) (.inl ⟨i, rfl, q _ _ (Same.refl H) (.int _)⟩)
  | bl i =>
    rw [hd] at e; cases e
    have ex := hx.bl sr hd
    subst ex
    exact call_int1 pins s σ H _ _ Q I (vals_one rx) (.inr ⟨i, rfl, q _ _ (Same.refl H) (.int _)⟩)
  | _ => rw [hd] at e; cases e
theorem c_tuple : CallR X (.type "tuple") (RB X.K .tuple) := by
  refine rb1 (fun d0 _ _ => ⟨rfl, by cases d0 <;> rfl⟩) fun pins s σ H x u Q as st d0 d I rx sr hx e q => ?_
  cases hd : snap st d0 with
  | lst ds =>
    rw [hd] at e; cases e
    obtain ⟨a, vs, rfl, h1, h2, h3⟩ := hx.lst sr hd
    exact call_tuple_of pins s σ H _ _ Q I (vals_one rx) ⟨a, vs, rfl, .inl ⟨.inl (.inl h1), fun p hp => q _ _ (same_new hp) (new_tup hp h2 h3)⟩⟩
  | tup ds =>
    rw [hd] at e; cases e
    obtain ⟨a, vs, rfl, h1, h2, h3⟩ := hx.tup sr hd
    exact call_tuple_of pins s σ H _ _ Q I (vals_one rx) ⟨a, vs, rfl, .inr ⟨h1.sq, q _ _ (Same.refl H) (.tup h1 h2 h3)⟩⟩
  | _ => rw [hd] at e; cases e
theorem c_list : CallR X (.type "list") (RB X.K .list) := by
  refine rb1 (fun d0 _ _ => ⟨rfl, by cases d0 <;> rfl⟩) fun pins s σ H x u Q as st d0 d I rx sr hx e q => ?_
  cases hd : snap st d0 with
  | lst ds =>
    rw [hd] at e; cases e
    obtain ⟨a, vs, rfl, h1, h2, h3⟩ := hx.lst sr hd
    exact call_list_of pins s σ H _ _ Q I (vals_one rx) ⟨a, vs, rfl, .inl (.inl (.inl h1)), fun p hp => q _ _ (same_new hp) (new_lst sr hp h2 h3)⟩
  | tup ds =>
    rw [hd] at e; cases e
    obtain ⟨a, vs, rfl, h1, h2, h3⟩ := hx.tup sr hd
    exact call_list_of pins s σ H _ _ Q I (vals_one rx) ⟨a, vs, rfl, .inr h1.sq, fun p hp => q _ _ (same_new hp) (new_lst sr hp h2 h3)⟩
  | _ => rw [hd] at e; cases e
theorem c_all (hc : X.calm = true) : CallR X (.builtin "all") (RB X.K .all) := by
  refine rb1 (fun d0 _ _ => ⟨rfl, by cases d0 <;> rfl⟩) fun pins s σ H x u Q as st d0 d I rx sr hx e q => ?_
  cases hd : snap st d0 with
  | lst ds =>
    rw [hd] at e
    obtain ⟨bs, e1, e2⟩ := Res.bind_ok (show (Res.of (boolsD ds)).bind (fun bs => Res.ok (D.bl (bs.all id))) = .ok d from e)
    cases e2
    cases hb : boolsD ds with
    | none => rw [hb] at e1; cases e1
    | some bs' =>
      rw [hb] at e1; cases e1
      obtain ⟨a, vs, rfl, h1, h2, h3⟩ := hx.lst sr hd
      have ev := h3.bools hb
      subst ev
      exact cr_all hc pins s σ H _ _ Q I (vals_one rx) ⟨a, bs, rfl, .inl (.inl h1), q _ _ (Same.refl H) (.bl _)⟩
  | _ => rw [hd] at e; cases e
theorem c_any (hc : X.calm = true) : CallR X (.builtin "any") (RB X.K .any) := by
  refine rb1 (fun d0 _ _ => ⟨rfl, by cases d0 <;> rfl⟩) fun pins s σ H x u Q as st d0 d I rx sr hx e q => ?_
  cases hd : snap st d0 with
  | lst ds =>
    rw [hd] at e
    obtain ⟨bs, e1, e2⟩ := Res.bind_ok (show (Res.of (boolsD ds)).bind (fun bs => Res.ok (D.bl (bs.any id))) = .ok d from e)
    cases e2
    cases hb : boolsD ds with
    | none => rw [hb] at e1; cases e1
    | some bs' =>
      rw [hb] at e1; cases e1
      obtain ⟨a, vs, rfl, h1, h2, h3⟩ := hx.lst sr hd
      have ev := h3.bools hb
      subst ev
      exact cr_any hc pins s σ H _ _ Q I (vals_one rx) ⟨a, bs, rfl, .inl (.inl h1), q _ _ (Same.refl H) (.bl _)⟩
  | _ => rw [hd] at e; cases e
theorem c_sum (hc : X.calm = true) : CallR X (.builtin "sum") (RB X.K .sum) := by
  refine rb1 (fun d0 _ _ => ⟨rfl, by cases d0 <;> rfl⟩) fun pins s σ H x u Q as st d0 d I rx sr hx e q => ?_
  cases hd : snap st d0 with
  | lst ds =>
    rw [hd] at e
    obtain ⟨bs, e1, e2⟩ := Res.bind_ok (show (Res.of (intsD ds)).bind (fun bs => Res.ok (D.int bs.sum)) = .ok d from e)
    cases e2
    cases hb : intsD ds with
    | none => rw [hb] at e1; cases e1
    | some bs' =>
      rw [hb] at e1; cases e1
      obtain ⟨a, vs, rfl, h1, h2, h3⟩ := hx.lst sr hd
      have ev := h3.ints hb
      subst ev
      exact cr_sum hc pins s σ H _ _ Q I (vals_one rx) ⟨a, bs, rfl, .inl (.inl h1), q _ _ (Same.refl H) (.int _)⟩
  | _ => rw [hd] at e; cases e
theorem maxL_spec {ns : List Int} {k m : Int} (h : maxL ns = some k) (h1 : m ∈ ns) (h2 : ∀ y, y ∈ ns → y ≤ m) : m = k := by
  cases ns with
  | nil => cases h
  | cons x r =>
    simp only [maxL, Option.some.injEq] at h
    have go : ∀ (r : List Int) (x : Int), (r.foldl (fun a b => if b > a then b else a) x ∈ x :: r) ∧ ∀ y, y ∈ x :: r → y ≤ r.foldl (fun a b => if b > a then b else a) x := by
      intro r
      induction r with
      | nil => intro x; exact ⟨List.mem_cons_self, fun y hy => by simp at hy; subst hy; exact Int.le_refl _⟩
      | cons z r ih =>
        intro x
        obtain ⟨i1, i2⟩ := ih (if z > x then z else x)
        simp only [List.foldl_cons]
        refine ⟨?_, fun y hy => ?_⟩
        · rcases List.mem_cons.mp i1 with e | e
          · rw [e]; split <;> simp
          · exact List.mem_cons_of_mem _ (List.mem_cons_of_mem _ e)
        · have hz := i2 (if z > x then z else x) List.mem_cons_self
          have g1 : x ≤ (if z > x then z else x) := by split <;> omega
          have g2 : z ≤ (if z > x then z else x) := by split <;> omega
          rcases List.mem_cons.mp hy with e | hy
          · subst e; exact Int.le_trans g1 hz
          · rcases List.mem_cons.mp hy with e | hy
            · subst e; exact Int.le_trans g2 hz
            · exact i2 y (List.mem_cons_of_mem _ hy)
    obtain ⟨g1, g2⟩ := go r x
    rw [h] at g1 g2
    have a1 := g2 m h1
    have a2 := h2 k g1
    omega
theorem minL_spec {ns : List Int} {k m : Int} (h : minL ns = some k) (h1 : m ∈ ns) (h2 : ∀ y, y ∈ ns → m ≤ y) : m = k := by
  cases ns with
  | nil => cases h
  | cons x r =>
    simp only [minL, Option.some.injEq] at h
    have go : ∀ (r : List Int) (x : Int), (r.foldl (fun a b => if b < a then b else a) x ∈ x :: r) ∧ ∀ y, y ∈ x :: r → r.foldl (fun a b => if b < a then b else a) x ≤ y := by
      intro r
      induction r with
      | nil => intro x; exact ⟨List.mem_cons_self, fun y hy => by simp at hy; subst hy; exact Int.le_refl _⟩
      | cons z r ih =>
        intro x
        obtain ⟨i1, i2⟩ := ih (if z < x then z else x)
        simp only [List.foldl_cons]
        refine ⟨?_, fun y hy => ?_⟩
        · rcases List.mem_cons.mp i1 with e | e
          · rw [e]; split <;> simp
          · exact List.mem_cons_of_mem _ (List.mem_cons_of_mem _ e)
        · have hz := i2 (if z < x then z else x) List.mem_cons_self
          have g1 : (if z < x then z else x) ≤ x := by split <;> omega
          have g2 : (if z < x then z else x) ≤ z := by split <;> omega
          rcases List.mem_cons.mp hy with e | hy
          · subst e; exact Int.le_trans hz g1
          · rcases List.mem_cons.mp hy with e | hy
            · subst e; exact Int.le_trans hz g2
            · exact i2 y (List.mem_cons_of_mem _ hy)
    obtain ⟨g1, g2⟩ := go r x
    rw [h] at g1 g2
    have a1 := g2 m h1
    have a2 := h2 k g1
    omega
theorem c_max1 (hc : X.calm = true) : CallR X (.builtin "max") (RB X.K .max1) := by
  refine rb1 (fun d0 _ _ => ⟨rfl, by cases d0 <;> rfl⟩) fun pins s σ H x u Q as st d0 d I rx sr hx e q => ?_
  cases hd : snap st d0 with
  | lst ds =>
    rw [hd] at e
    obtain ⟨bs, e1, e2⟩ := Res.bind_ok (show (Res.of (intsD ds)).bind (fun bs => (Res.of (maxL bs)).bind fun m => Res.ok (D.int m)) = .ok d from e)
    obtain ⟨m, e3, e4⟩ := Res.bind_ok e2
    cases e4
    cases hb : intsD ds with
    | none => rw [hb] at e1; cases e1
    | some bs' =>
      rw [hb] at e1; cases e1
      cases hm : maxL bs with
      | none => rw [hm] at e3; cases e3
      | some m' =>
        rw [hm] at e3; cases e3
        obtain ⟨a, vs, rfl, h1, h2, h3⟩ := hx.lst sr hd
        have ev := h3.ints hb
        subst ev
        refine cr_max hc pins s σ H _ _ Q I (vals_one rx) ⟨a, bs, rfl, .inl (.inl h1), ?_, fun k k1 k2 => ?_⟩
        · cases bs with
          | nil => cases hm
          | cons => simp
        · rw [maxL_spec hm k1 k2]
          exact q _ _ (Same.refl H) (.int _)
  | _ => rw [hd] at e; cases e
theorem c_min1 (hc : X.calm = true) : CallR X (.builtin "min") (RB X.K .min1) := by
  refine rb1 (fun d0 _ _ => ⟨rfl, by cases d0 <;> rfl⟩) fun pins s σ H x u Q as st d0 d I rx sr hx e q => ?_
  cases hd : snap st d0 with
  | lst ds =>
    rw [hd] at e
    obtain ⟨bs, e1, e2⟩ := Res.bind_ok (show (Res.of (intsD ds)).bind (fun bs => (Res.of (minL bs)).bind fun m => Res.ok (D.int m)) = .ok d from e)
    obtain ⟨m, e3, e4⟩ := Res.bind_ok e2
    cases e4
    cases hb : intsD ds with
    | none => rw [hb] at e1; cases e1
    | some bs' =>
      rw [hb] at e1; cases e1
      cases hm : minL bs with
      | none => rw [hm] at e3; cases e3
      | some m' =>
        rw [hm] at e3; cases e3
        obtain ⟨a, vs, rfl, h1, h2, h3⟩ := hx.lst sr hd
        have ev := h3.ints hb
        subst ev
        refine cr_min hc pins s σ H _ _ Q I (vals_one rx) ⟨a, bs, rfl, .inl (.inl h1), ?_, fun k k1 k2 => ?_⟩
        · cases bs with
          | nil => cases hm
          | cons => simp
        · rw [minL_spec hm k1 k2]
          exact q _ _ (Same.refl H) (.int _)
  | _ => rw [hd] at e; cases e
theorem c_two {b : B} {f : Value} (hb : ∀ (d0 d1 d2 : D) (r : List D), bi b [] = .bad ∧ bi b [d0] = .bad ∧ bi b (d0 :: d1 :: d2 :: r) = .bad)
    (h : ∀ (pins : List (Addr × Obj)) (s : Shared) (σ : L2.St) (H : Hp) (x y : V) (u w : Value) (Q : VK) (as : Ads) (st : Sto) (d0 d1 d : D), Inv X pins σ H s → RelV x u → RelV y w → SRel X.K as st H → VRep X.K as H x d0 → VRep X.K as H y d1 → bi b [snap st d0, snap st d1] = .ok d →
      (∀ v H', Same H H' → DRep X.K as H' v d → Q v H') → wpAny (model X.prog X.w) X.A (call f [u, w]) (EP X pins σ Q) X.xe s) : CallR X f (RB X.K b) := by
  intro pins s σ H xs us Q I r ⟨as, st, ds, d, sr, hv, e, q⟩
  match ds, hv, e with
  | [], hv, e => rw [List.map_nil, (hb .non .non .non []).1] at e; cases e
  | [d0], hv, e => rw [List.map_cons, List.map_nil, (hb _ .non .non []).2.1] at e; cases e
  | d0 :: d1 :: d2 :: ds, hv, e => rw [List.map_cons, List.map_cons, List.map_cons, (hb _ _ _ _).2.2] at e; cases e
  | [d0, d1], hv, e =>
    obtain ⟨x, y, rfl, hx, hy⟩ := hv.two
    obtain ⟨u, w, rfl, rx, ry⟩ := vals2 r
    exact h pins s σ H x y u w Q as st d0 d1 d I rx ry sr hx hy e q
theorem vals_two {x y : V} {u w : Value} (r : RelV x u) (r' : RelV y w) : Vals [x, y] [u, w] := .cons r (.cons r' .nil)
theorem c_max2 (hc : X.calm = true) : CallR X (.builtin "max") (RB X.K .max2) := by
  refine c_two (fun d0 d1 _ _ => ⟨rfl, by cases d0 <;> rfl, by cases d0 <;> cases d1 <;> rfl⟩) fun pins s σ H x y u w Q as st d0 d1 d I rx ry sr hx hy e q => ?_
  cases hd : snap st d0 with
  | int i =>
    cases hd1 : snap st d1 with
    | int j =>
      rw [hd, hd1] at e; cases e
      have ex := hx.int sr hd
      have ey := hy.int sr hd1
      subst ex ey
      exact call_max2 hc pins s σ H _ _ Q I (vals_two rx ry) ⟨i, j, rfl, q _ _ (Same.refl H) (.int _)⟩
    | _ => rw [hd, hd1] at e; cases e
  | _ => rw [hd] at e; cases e
theorem c_min2 (hc : X.calm = true) : CallR X (.builtin "min") (RB X.K .min2) := by
  refine c_two (fun d0 d1 _ _ => ⟨rfl, by cases d0 <;> rfl, by cases d0 <;> cases d1 <;> rfl⟩) fun pins s σ H x y u w Q as st d0 d1 d I rx ry sr hx hy e q => ?_
  cases hd : snap st d0 with
  | int i =>
    cases hd1 : snap st d1 with
    | int j =>
      rw [hd, hd1] at e; cases e
      have ex := hx.int sr hd
      have ey := hy.int sr hd1
      subst ex ey
      exact call_min2 hc pins s σ H _ _ Q I (vals_two rx ry) ⟨i, j, rfl, q _ _ (Same.refl H) (.int _)⟩
    | _ => rw [hd, hd1] at e; cases e
  | _ => rw [hd] at e; cases e
theorem DReps.pairsI {K : PySem.W.Frag} {as : Ads} {H : Hp} (un : ∀ (t : Addr) (p q : Int × Int), TpA K H t [.int p.1, .int p.2] → TpA K H t [.int q.1, .int q.2] → p = q) {ds : List D} {vs : List V} {ps : List (Int × Int)} (h : DReps K as H vs ds) (e : En.pairsI ds = some ps) :
    ∃ k : V → Int × Int, (∀ x ∈ vs, ∃ t, x = .ref t ∧ TpA K H t [.int (k x).1, .int (k x).2]) ∧ vs.map k = ps := by
  have ex : ∃ k : V → Int × Int, ∀ (t : Addr) (p : Int × Int), TpA K H t [.int p.1, .int p.2] → k (.ref t) = p := by
    have : ∀ x : V, ∃ q : Int × Int, ∀ (t : Addr) (p : Int × Int), x = .ref t → TpA K H t [.int p.1, .int p.2] → q = p := by
      intro x
      by_cases hx : ∃ (t : Addr) (p : Int × Int), x = .ref t ∧ TpA K H t [.int p.1, .int p.2]
      · obtain ⟨t, p, rfl, hp⟩ := hx
        exact ⟨p, fun t' p' e hp' => by cases e; exact un t _ _ hp hp'⟩
      · exact ⟨(0, 0), fun t p e hp => absurd ⟨t, p, e, hp⟩ hx⟩
    obtain ⟨k, hk⟩ := Classical.axiomOfChoice this
    exact ⟨k, fun t p hp => hk _ t p rfl hp⟩
  obtain ⟨k, hk⟩ := ex
  refine ⟨k, ?_⟩
  induction ds generalizing vs ps with
  | nil => cases h; cases e; exact ⟨fun x hx => (nomatch hx), rfl⟩
  | cons d ds ih =>
    cases h with
    | @cons v _ vs _ h1 h2 =>
      simp only [En.pairsI] at e
      split at e
      · rename_i p q ep eq
        cases e
        obtain ⟨i1, i2⟩ := ih h2 eq
        have hv : ∃ t, v = .ref t ∧ TpA K H t [.int p.1, .int p.2] := by
          unfold En.pairI at ep
          split at ep
          · cases ep
            cases h1 with
            | tup t1 t2 t3 =>
              cases t3 with
              | cons a1 a2 => cases a2 with | cons b1 b2 => cases b2; cases a1; cases b1; exact ⟨_, rfl, t1⟩
          · cases ep
        obtain ⟨t, rfl, ht⟩ := hv
        have e0 := hk t p ht
        refine ⟨fun x hx => ?_, by rw [List.map_cons, e0, i2]⟩
        rcases List.mem_cons.mp hx with rfl | hx
        · exact ⟨t, rfl, by rw [e0]; exact ht⟩
        · exact i1 x hx
      · cases e
theorem c_sorted (hc : X.calm = true) : CallR X (.builtin "sorted") (RB X.K .sorted) := by
  refine rb1 (fun d0 _ _ => ⟨rfl, by cases d0 <;> rfl⟩) fun pins s σ H x u Q as st d0 d I rx sr hx e q => ?_
  cases hd : snap st d0 with
  | lst ds =>
    rw [hd] at e
    obtain ⟨bs, e1, e2⟩ := Res.bind_ok (show (Res.of (strsD ds)).bind (fun bs => if bs.length < 64 then Res.ok (D.lst ((sortS bs).map .str)) else .bad) = .ok d from e)
    split at e2
    · rename_i hl
      cases e2
      cases hb : strsD ds with
      | none => rw [hb] at e1; cases e1
      | some bs' =>
        rw [hb] at e1; cases e1
        obtain ⟨a, vs, rfl, h1, h2, h3⟩ := hx.lst sr hd
        have ev := h3.strs hb
        subst ev
        refine cr_sortedS pins s σ H _ _ Q I (vals_one rx) ⟨a, bs, rfl, .inl (.inl h1), hl, fun ys p hp hs np => ?_⟩
        rw [sortS_eq hp hs]
        refine q _ _ (same_new np) (new_lst sr np ?_ (DReps.ofStrs _))
        rw [List.length_map, (sortS_perm bs).length_eq, sizeLine_eq]
        omega
    · cases e2
  | dic kvs =>
    rw [hd] at e
    obtain ⟨bs, e1, e2⟩ := Res.bind_ok (show (Res.of (strKeys kvs)).bind (fun bs => if bs.length < 64 then Res.ok (D.lst ((sortS bs).map .str)) else .bad) = .ok d from e)
    split at e2
    · rename_i hl
      cases e2
      cases hb : strKeys kvs with
      | none => rw [hb] at e1; cases e1
      | some bs' =>
        rw [hb] at e1; cases e1
        obtain ⟨a, vs, rfl, h1, h2, h3⟩ := hx.dic sr hd
        refine call_sortedD hc pins s σ H _ _ Q I (vals_one rx) ⟨a, vs, bs, rfl, h1, h3.strKeys hb, hl, fun ys p hp hs np => ?_⟩
        rw [sortS_eq hp hs]
        refine q _ _ (same_new np) (new_lst sr np ?_ (DReps.ofStrs _))
        rw [List.length_map, (sortS_perm bs).length_eq, sizeLine_eq]
        omega
    · cases e2
  | tup ds =>
    rw [hd] at e
    obtain ⟨ps, e1, e2⟩ := Res.bind_ok (show (Res.of (pairsI ds)).bind (fun ps => Res.ok (D.lst ((sortP ps).map pairD))) = .ok d from e)
    cases e2
    cases hb : pairsI ds with
    | none => rw [hb] at e1; cases e1
    | some ps' =>
      rw [hb] at e1; cases e1
      obtain ⟨a, vs, rfl, h1, h2, h3⟩ := hx.tup sr hd
      have un : ∀ (t : Addr) (p q : Int × Int), TpA X.K H t [.int p.1, .int p.2] → TpA X.K H t [.int q.1, .int q.2] → p = q := by
        intro t p q hp hq
        obtain ⟨i1, r1, ⟨o1, g1, c1, n1, d1⟩, _⟩ := I.tuple hp.sq
        obtain ⟨i2, r2, ⟨o2, g2, c2, n2, d2⟩, _⟩ := I.tuple hq.sq
        rw [g1] at g2
        cases g2
        rw [d1] at d2
        have ei : i1 = i2 := by
          injection d2 with e3
          simpa using e3
        subst ei
        obtain ⟨u1, u2, e0, ⟨t1, e1⟩, ⟨t2, e2⟩⟩ := vals2 r1
        obtain ⟨w1, w2, f0, ⟨s1, f1⟩, ⟨s2, f2⟩⟩ := vals2 r2
        rw [e0] at f0
        cases f0
        rw [e1] at f1
        rw [e2] at f2
        obtain ⟨pa, pb⟩ := p
        obtain ⟨qa, qb⟩ := q
        cases f1
        cases f2
        rfl
      obtain ⟨k, hk1, hk2⟩ := DReps.pairsI un h3 hb
      refine cr_sortTP pins s σ H _ _ Q I (vals_one rx) ⟨a, vs, k, rfl, h1.sq, fun x hx => ?_, fun ys p hs hp np => ?_⟩
      · obtain ⟨t, e, ht⟩ := hk1 x hx
        exact ⟨t, e, ht.sq⟩
      · have ey : ys.map k = sortP ps := by
          refine sortedP_uniq ?_ (sortP_sorted ps) ?_
          · refine List.pairwise_map.mpr (hs.imp fun {x y} h => ?_)
            intro h'
            rw [ltP2_lex] at h'
            exact absurd (h'.symm.trans h) (by decide)
          · have := (hp.perm.map k).trans (List.Perm.of_eq hk2)
            exact this.trans (sortP_perm ps).symm
        have er : DReps X.K as H ys ((sortP ps).map pairD) := by
          rw [← ey]
          have key : ∀ l : List V, (∀ y ∈ l, y ∈ vs) → DReps X.K as H l ((l.map k).map pairD) := by
            intro l hl
            induction l with
            | nil => exact .nil
            | cons y l ih =>
              obtain ⟨t, e, ht⟩ := hk1 y (hl y (List.mem_cons_self ..))
              refine .cons ?_ (ih fun z hz => hl z (List.mem_cons_of_mem _ hz))
              rw [e]
              rw [e] at ht
              exact .tup ht (by show 2 ≤ sizeLine; decide) (.cons (.int _) (.cons (.int _) .nil))
          exact key ys fun y hy => hp.perm.mem_iff.mp hy
        refine q _ _ (same_new np) (new_lst sr np ?_ er)
        rw [hp.perm.length_eq]
        exact h2
  | _ => rw [hd] at e; cases e
end
end En

set_option Elab.async false
set_option linter.all false
set_option maxRecDepth 100000
set_option maxHeartbeats 1000000
namespace En
open PySem PySem.Spec PyProof.Rows L2
section
variable {X : Cx}
theorem dict_reads {P : Program} {w : World} {K : PySem.W.Frag} {as : Ads} {H : Hp} {h : Heap} : ∀ {es : List DictEntry} {vs : List (Key × Value)} {kvs : List (Key × V)} {ds : List (Key × D)} {ps : List (Key × Int)}, Pairs (mixKind P w) es vs → KV kvs vs → KReps K as H kvs ds → intKvs ds = some ps →
    ReadsAll h (es.map (·.key)) (ps.map (Prod.fst ∘ fun q => (kPy q.1, PyData.int q.2))) [] ∧ ReadsAll h (es.map (·.val)) (ps.map (Prod.snd ∘ fun q => (kPy q.1, PyData.int q.2))) []
  | [], _, _, _, _, .nil, kv, kr, e => by
    cases kv
    cases kr
    cases e
    exact ⟨.nil, .nil⟩
  | en :: es, _, _, _, _, .cons h1 h2 hp, kv, kr, e => by
    cases kv with
    | cons hq hr =>
      obtain ⟨q1, q2⟩ := hq
      cases kr with
      | cons dr kr =>
        cases dr with
        | int i =>
          simp only [intKvs, Option.map_eq_some_iff] at e
          obtain ⟨ps', e', rfl⟩ := e
          obtain ⟨r1, r2⟩ := dict_reads (h := h) hp hr kr e'
          obtain ⟨t, hv⟩ := q2
          refine ⟨?_, ?_⟩
          · simp only [List.map_cons, Function.comp]
            refine .cons (as := []) (bs := []) ?_ r1
            dsimp only at q1
            rw [← q1] at h1
            rcases keyIs_shape h1 with ⟨j, t', ek, ev⟩ | ⟨x, t', ek, ev⟩
            · rw [ev, ek]
              exact .int _ _
            · rw [ev, ek]
              exact .str _ _
          · simp only [List.map_cons, Function.comp]
            refine .cons (as := []) (bs := []) ?_ r2
            rw [h2, hv]
            exact .int _ _
        | _ => cases e
theorem c_repr (hg : X.A.guards = some []) (hu : X.A.units + 40 < cLine) : CallR X (.builtin "repr") (RB X.K .repr) := by
  refine rb1 (fun d0 _ _ => ⟨rfl, by cases d0 <;> rfl⟩) fun pins s σ H x u Q as st d0 d I rx sr hx e q => ?_
  have go : ∀ (d1 : D), snap st d0 = d1 → (if d1.py.canLay0 && d1.py.showable && decide (d1.py.depth ≤ 32) && decide (d1.py.shown.length ≤ LIM) then Res.ok (D.str d1.py.shown) else .bad) = .ok d →
      wpAny (model X.prog X.w) X.A (call (.builtin "repr") [u]) (EP X pins σ Q) X.xe s := by
    intro d1 hd e
    split at e
    · rename_i h
      simp only [Bool.and_eq_true, decide_eq_true_eq] at h
      obtain ⟨⟨⟨h1, h2⟩, h3⟩, h4⟩ := h
      cases e
      have q0 : Q (.str d1.py.shown) H := q _ _ (Same.refl H) (.str _)
      have hp := hx.dp sr (by rw [hd]; exact h1)
      rw [hd] at hp
      obtain ⟨bs, rr⟩ := Dp.reads I _ x u hp rx
      have fin : ∀ (a : Addr), u = .ref a → wpAny (model X.prog X.w) X.A (call (.builtin "repr") [u]) (EP X pins σ Q) X.xe s := fun a eu => by
        subst eu
        exact repr_of_reads' rr h2 (PyData.noDict_hsm (PyData.hasDict_of_canLay _ h1)) hg (by omega) (fun _ _ z => z)
          (fun h' tk tk2 hk => ⟨.str _, H, I.kept (t' := tk2) hk, ⟨_, rfl⟩, q0⟩) (by rw [← LIM_eq]; exact h4)
      cases hd1 : d1 with
      | non =>
        subst hd1
        have ex := hx.non sr hd
        subst ex
        cases rx
        exact PySem.P.repr_of_none ⟨.str _, H, I.tok _, ⟨_, rfl⟩, by simpa only [D.py, PyData.shown] using q0⟩
      | bl b =>
        subst hd1
        have ex := hx.bl sr hd
        subst ex
        cases rx
        exact PySem.P.repr_of_bool ⟨.str _, H, I.tok _, ⟨_, rfl⟩, by simpa only [D.py, PyData.shown] using q0⟩
      | int i =>
        subst hd1
        have ex := hx.int sr hd
        subst ex
        obtain ⟨t, rfl⟩ := rx
        exact PySem.P.repr_of_int (by simpa [D.py, PyData.showable] using h2) ⟨.str _, H, I.tok _, ⟨_, rfl⟩, by simpa only [D.py, PyData.shown] using q0⟩
      | str i =>
        subst hd1
        have ex := hx.str sr hd
        subst ex
        obtain ⟨t, rfl⟩ := rx
        exact PySem.P.repr_of_str ⟨.str _, H, I.tok _, ⟨_, rfl⟩, by simpa only [D.py, PyData.shown] using q0⟩ (by rw [← LIM_eq]; simpa only [D.py, PyData.shown] using h4)
      | tup ds =>
        subst hd1
        obtain ⟨a, vs, rfl, _⟩ := hx.tup sr hd
        exact fin a rx
      | lst ds =>
        subst hd1
        obtain ⟨a, vs, rfl, _⟩ := hx.lst sr hd
        exact fin a rx
      | ro ds => subst hd1; simp [D.py, PyData.canLay0] at h1
      | dic ds => subst hd1; simp [D.py, PyData.canLay0] at h1
      | mref ds => subst hd1; simp [D.py, PyData.canLay0] at h1
      | err x ds => subst hd1; simp [D.py, PyData.canLay0] at h1
    · cases e
  cases hd : snap st d0 with
  | dic ds =>
    rw [hd] at e
    simp only [bi] at e
    obtain ⟨ps, e1, e2⟩ := Res.bind_ok e
    have e1' : intKvs ds = some ps := by
      cases z : intKvs ds with
      | none => rw [z] at e1; cases e1
      | some y => rw [z] at e1; cases e1; rfl
    split at e2
    · rename_i hs
      simp only [Bool.and_eq_true, decide_eq_true_eq] at hs
      obtain ⟨⟨h1, h2⟩, h3⟩ := hs
      cases e2
      obtain ⟨a, kvs, rfl, hR, hz, hk⟩ := hx.dic sr hd
      have eu : u = .ref a := rx
      subst eu
      have ob : ObjOk X.prog X.w H s.heap a (.dK kvs) := by
        rcases hR with hR | ⟨o, hR⟩
        · exact I.hok a _ hR
        · exact (I.hok a _ hR).2
      obtain ⟨_, hsm, vs, hkv, o, es, ep, ho, hex, hdt, hko, hpr, _⟩ := ob
      obtain ⟨r1, r2⟩ := dict_reads (h := s.heap) hpr hkv hk e1'
      have rr : Reads s.heap (.ref a) (.dict (ps.map fun q => (kPy q.1, .int q.2))) (a :: [] ++ []) := .dict ho hex.1 hdt (by rw [List.map_map]; exact r1) (by rw [List.map_map]; exact r2)
      exact repr_of_reads' rr h1 (fun _ hm => by
        have : sysModules = a := by simpa using hm
        rw [← this] at hsm
        simp at hsm) hg (by omega) (fun _ _ z => z) (fun h' tk tk2 hk => ⟨.str _, H, I.kept (t' := tk2) hk, ⟨_, rfl⟩, q _ _ (Same.refl H) (.str _)⟩) (by rw [← LIM_eq]; exact h3)
    · cases e2
  | err x ds => rw [hd] at e; cases e
  | ro ds => rw [hd] at e; cases e
  | mref ds => rw [hd] at e; cases e
  | _ => rw [hd] at e; exact go _ hd e

theorem DRep.key {K : PySem.W.Frag} {as : Ads} {H : Hp} {v : V} {d : D} {k : Key} (h : DRep K as H v d) (e : keyOf d = some k) : v = kV k := by
  cases d with
  | int i => cases e; cases h; rfl
  | str i => cases e; cases h; rfl
  | _ => cases e
theorem DReps.pairs {K : PySem.W.Frag} {as : Ads} {H : Hp} : ∀ {ds : List D} {vs : List V} {kvs : List (Key × D)}, DReps K as H vs ds → pairsD ds = some kvs →
    ∃ (ps : List Addr) (us : List (Key × V)), vs = ps.map V.ref ∧ Paired (fun p kv => SqT K H p [kV kv.1, kv.2]) ps us ∧ KReps K as H us kvs
  | [], _, kvs, h, e => by cases h; simp [pairsD] at e; subst e; exact ⟨[], [], rfl, .nil, .nil⟩
  | d :: ds, _, kvs, h, e => by
    cases h with
    | cons h r =>
      unfold pairsD at e
      split at e
      · rename_i heq; cases heq
      · rename_i k0 d0 r0 heq
        injection heq with e1 e2
        subst e1 e2
        split at e
        · rename_i k kr hk hr
          cases e
          obtain ⟨ps, us, rfl, p1, p2⟩ := DReps.pairs r hr
          cases h with
          | tup ht z rr =>
            cases rr with
            | cons q1 rr =>
              cases rr with
              | cons q2 rr =>
                cases rr
                have ek := q1.key hk
                subst ek
                exact ⟨_ :: ps, (k, _) :: us, rfl, .cons ht.sq p1, .cons q2 p2⟩
        · cases e
      · cases e
section
variable {K : PySem.W.Frag} {as : Ads} {H : Hp}
theorem KReps.keys : ∀ {ds : List (Key × D)} {vs : List (Key × V)} (k : Key), KReps K as H vs ds → (vs.any fun kv => decide (kv.1 = k)) = ds.any fun kv => decide (kv.1 = k)
  | [], _, k, h => by cases h; rfl
  | (k', d) :: ds, _, k, h => by
    cases h with
    | cons h r => rw [List.any_cons, List.any_cons, KReps.keys k r]
theorem KReps.append : ∀ {ds es : List (Key × D)} {vs us : List (Key × V)}, KReps K as H vs ds → KReps K as H us es → KReps K as H (vs ++ us) (ds ++ es)
  | [], _, _, _, h, q => by cases h; exact q
  | (k, d) :: ds, _, _, _, h, q => by
    cases h with
    | cons h r => exact .cons h (KReps.append r q)
theorem KReps.mapPut {k : Key} {d : D} {v : V} (q : DRep K as H v d) : ∀ {ds : List (Key × D)} {vs : List (Key × V)}, KReps K as H vs ds →
    KReps K as H (vs.map fun kv => if kv.1 = k then (kv.1, v) else kv) (ds.map fun kv => if kv.1 = k then (kv.1, d) else kv)
  | [], _, h => by cases h; exact .nil
  | (k', d') :: ds, _, h => by
    cases h with
    | cons h r =>
      rw [List.map_cons, List.map_cons]
      by_cases e : k' = k
      · simp only [e, if_true]; exact .cons q (KReps.mapPut q r)
      · simp only [e, if_false]; exact .cons h (KReps.mapPut q r)
theorem KReps.put {k : Key} {d : D} {v : V} (q : DRep K as H v d) {ds : List (Key × D)} {vs : List (Key × V)} (h : KReps K as H vs ds) : KReps K as H (putK vs k v) (dput ds k d) := by
  unfold putK dput
  rw [h.keys k]
  split
  · exact h.mapPut q
  · exact h.append (.cons q .nil)
theorem KReps.merge : ∀ {es ds : List (Key × D)} {us vs : List (Key × V)}, KReps K as H us es → KReps K as H vs ds → KReps K as H (mergeK vs us) (dmerge ds es)
  | [], _, _, _, h, q => by cases h; exact q
  | (k, d) :: es, _, _, _, h, q => by
    cases h with
    | cons h r =>
      show KReps K as H (mergeK (putK _ k _) _) (dmerge (dput _ k d) es)
      exact KReps.merge r (q.put h)
theorem len_put (ds : List (Key × V)) (k : Key) (d : V) : (putK ds k d).length ≤ ds.length + 1 := by
  unfold putK
  split
  · simp
  · simp
theorem len_merge : ∀ (us vs : List (Key × V)), (mergeK vs us).length ≤ vs.length + us.length
  | [], vs => by simp [mergeK]
  | (k, v) :: us, vs => by
    have h1 := len_merge us (putK vs k v)
    have h2 := len_put vs k v
    show (mergeK (putK vs k v) us).length ≤ _
    rw [List.length_cons]
    omega
end
theorem new_dic {K : PySem.W.Frag} {as : Ads} {st : Sto} {H : Hp} {p : Addr} {vs : List (Key × V)} {ds : List (Key × D)} (s : SRel K as st H) (hp : H p = none) (z : vs.length ≤ sizeLine) (r : KReps K as H vs ds) : DRep K as (upd H p (.dK vs)) (.ref p) (.dic ds) :=
  .dic (.inl upd_same) (s.fresh hp) z (KReps.step (Step.same (same_new hp)) _ _ r)
theorem c_dict (hc : X.calm = true) : CallR X (.type "dict") (RB X.K .dict) := by
  refine rb1 (fun d0 _ _ => ⟨rfl, by cases d0 <;> rfl⟩) fun pins s σ H x u Q as st d0 d I rx sr hx e q => ?_
  cases hd : snap st d0 with
  | lst ds =>
    rw [hd] at e
    obtain ⟨kvs, e1, e2⟩ := Res.bind_ok (show (Res.of (pairsD ds)).bind (fun kvs => Res.ok (D.dic (dmerge [] kvs))) = .ok d from e)
    cases e2
    cases hb : pairsD ds with
    | none => rw [hb] at e1; cases e1
    | some bs' =>
      rw [hb] at e1; cases e1
      obtain ⟨a, vs, rfl, h1, h2, h3⟩ := hx.lst sr hd
      obtain ⟨ps, us, rfl, p1, p2⟩ := h3.pairs hb
      refine call_dictP hc pins s σ H _ _ Q I (vals_one rx) ⟨a, ps, us, rfl, .inl (.inl h1), p1, fun p hp => ?_⟩
      refine q _ _ (same_new hp) (new_dic sr hp ?_ (p2.merge .nil))
      have := len_merge us []
      have l1 := Paired.length p1
      rw [List.length_map] at h2
      simp only [List.length_nil, Nat.zero_add] at this
      omega
  | _ => rw [hd] at e; cases e

def tn : D → String
  | .non => "NoneType"
  | .bl _ => "bool"
  | .int _ => "int"
  | .str _ => "str"
  | .tup _ => "tuple"
  | .lst _ => "list"
  | .ro _ => "list"
  | .dic _ => "dict"
  | .mref _ => ""
  | .err _ _ => ""
/-- no type of its own is told -/
def D.noTy : D → Bool
  | .mref _ => true
  | .err _ _ => true
  | _ => false
theorem ty_of {K : PySem.W.Frag} {as : Ads} {H : Hp} {st : Sto} {v : V} {d : D} (h : VRep K as H v d) (r : SRel K as st H) (n : (snap st d).noTy = false) : TyX K H v (.type (tn (snap st d))) := by
  cases hd : snap st d with
  | non => rw [h.non r hd]; exact .base .non
  | bl b => rw [h.bl r hd]; exact .base (.bl b)
  | int b => rw [h.int r hd]; exact .base (.int b)
  | str b => rw [h.str r hd]; exact .base (.str b)
  | tup b =>
    obtain ⟨a, vs, rfl, h1, _⟩ := h.tup r hd
    rcases h1 with h1 | ⟨o, its, n, h1, h2, _⟩
    · exact .base (.tup h1)
    · exact .kTuple h1 h2
  | lst b =>
    obtain ⟨a, vs, rfl, h1, _⟩ := h.lst r hd
    exact .base (.lst h1)
  | ro b =>
    obtain ⟨a, vs, rfl, h1, _⟩ := h.ro r hd
    rcases h1 with (h1 | ⟨o, h1⟩) | ⟨o, its, n, h1, h2, _⟩
    · exact .base (.lst h1)
    · exact .base (.frz h1)
    · exact .kList h1 h2
  | dic b =>
    obtain ⟨a, vs, rfl, h1, _⟩ := h.dic r hd
    rcases h1 with h1 | ⟨o, h1⟩
    · exact .base (.dK h1)
    · exact .fDict h1
  | mref b => rw [hd] at n; cases n
  | err b c => rw [hd] at n; cases n
def isiT : B → String
  | .isInt => "int"
  | .isBool => "bool"
  | .isStr => "str"
  | .isTuple => "tuple"
  | .isList => "list"
  | _ => ""
def isIsi : B → Bool
  | .isInt => true
  | .isBool => true
  | .isStr => true
  | .isTuple => true
  | .isList => true
  | _ => false
theorem c_isi {b : B} (hb : isIsi b = true) : CallR X (.builtin "isinstance") (fun vs H Q => ∃ x, vs = [x, .ty (isiT b)] ∧ RB X.K b [x] H Q) := by
  intro pins s σ H xs us Q I r ⟨x, ex, as, st, ds, d, sr, hv, e, q⟩
  subst ex
  match ds, hv, e with
  | [d0], hv, e =>
    obtain ⟨x', e1, hx⟩ := hv.one
    cases e1
    have key : ∀ {t : Bool}, (snap st d0).noTy = false → d = .bl t → L2.kitB (tn (snap st d0)) (isiT b) = some t → wpAny (model X.prog X.w) X.A (call (.builtin "isinstance") us) (EP X pins σ Q) X.xe s := fun {t} h0 h1 h2 => by
      subst h1
      exact call_isi pins s σ H _ _ Q I r ⟨x, _, _, _, t, rfl, .ty _, ty_of hx sr h0, kit_ty h2, q _ _ (Same.refl H) (.bl _)⟩
    cases hd : snap st d0 with
    | mref i => rw [List.map_cons, List.map_nil, hd] at e; cases b <;> first | (cases hb; done) | (cases e; done)
    | err i j => rw [List.map_cons, List.map_nil, hd] at e; cases b <;> first | (cases hb; done) | (cases e; done)
    | ro i =>
      rw [List.map_cons, List.map_nil, hd] at e
      rw [hd] at key
      cases b <;> first | (cases hb; done) | (cases e; done) | (cases e; exact key rfl rfl (by simp only [tn, isiT]; decide +kernel))
    | _ =>
      rw [List.map_cons, List.map_nil, hd] at e
      rw [hd] at key
      cases b <;> first | (cases hb; done) | (cases e; exact key rfl rfl (by simp only [tn, isiT]; decide +kernel))
  | d0 :: d1 :: ds, hv, e => cases hv with | cons h r => cases r

theorem m_dget {pins : List (Addr × Obj)} {s : Shared} {σ : L2.St} {H : Hp} {as : Ads} {st : Sto} {x y : V} {od kd : D} {kvs : List (Key × D)} {k : Key} (h1 : VRep X.K as H x od) (h2 : VRep X.K as H y kd) (sr : SRel X.K as st H) (e1 : snap st od = .dic kvs) (e2 : keyOf kd = some k) :
    ∃ a o, x = .ref a ∧ IsD H a ∧ DGet H a y o ∧ ((∃ d v, dget kvs k = some d ∧ o = some v ∧ DRep X.K as H v d) ∨ (dget kvs k = none ∧ o = none)) := by
  obtain ⟨a, vs, rfl, g1, g2, g3⟩ := h1.dic sr e1
  have ey : y = kV k := by
    refine key_of_keyOf h2 sr (st := st) ?_
    cases kd <;> first | exact e2 | cases e2
  subst ey
  refine ⟨a, valV vs k, rfl, .inl ⟨vs, g1⟩, .inl ⟨vs, k, g1, rfl, rfl⟩, ?_⟩
  obtain ⟨i1, i2⟩ := g3.get (k := k)
  cases hg : dget kvs k with
  | none => exact .inr ⟨rfl, i2 hg⟩
  | some d =>
    obtain ⟨v, e, q⟩ := i1 d hg
    exact .inl ⟨d, v, rfl, e, q⟩
end
end En

set_option Elab.async false
set_option linter.all false
set_option maxRecDepth 100000
set_option maxHeartbeats 1000000
namespace En
open PySem PySem.Spec PyProof.Rows L2
theorem _root_.L2.PE.impD {X : Cx} {e : Expr} {t t' : TE} (h : PE X e t) (f : ∀ σ H Q, t' σ H Q → t σ H Q) : PE X e t' := ⟨fun pins s σ H Q I q => h.run pins s σ H Q I (f _ _ _ q)⟩
theorem _root_.L2.PT.impD {X : Cx} {e : Expr} {t t' : TT} (h : PT X e t) (f : ∀ σ H Q, t' σ H Q → t σ H Q) : PT X e t' := ⟨fun pins s σ H Q I q => h.run pins s σ H Q I (f _ _ _ q)⟩
theorem _root_.L2.PW.impD {X : Cx} {e : Expr} {t t' : TT} (h : PW X e t) (f : ∀ σ H Q, t' σ H Q → t σ H Q) : PW X e t' := ⟨fun wh pins s σ H Q I q => h.run wh pins s σ H Q I (f _ _ _ q)⟩
theorem _root_.L2.PA.impD {X : Cx} {es : List Expr} {t t' : TA} (h : PA X es t) (f : ∀ σ H Q, t' σ H Q → t σ H Q) : PA X es t' := ⟨fun pos pins s σ H Q I q => h.run pos pins s σ H Q I (f _ _ _ q)⟩
theorem _root_.L2.PS.impD {X : Cx} {st : Stmt} {t t' : TS} (h : PS X st t) (f : ∀ D σ H, t' D σ H → t D σ H) : PS X st t' := ⟨fun pins s σ H D I q => h.run pins s σ H D I (f _ _ _ q)⟩
theorem _root_.L2.PSs.impD {X : Cx} {st : List Stmt} {t t' : TS} (h : PSs X st t) (f : ∀ D σ H, t' D σ H → t D σ H) : PSs X st t' := ⟨fun pins s σ H D I q => h.run pins s σ H D I (f _ _ _ q)⟩

theorem atI_rep {K : PySem.W.Frag} {as : Ads} {H : Hp} {vs : List V} {ds : List D} {i : Int} {d : D} (r : DReps K as H vs ds) (e : atI ds i = some d) : ∃ v, atI vs i = some v ∧ DRep K as H v d := by
  unfold atI at e ⊢
  rw [r.length]
  cases h : ixN ds.length i with
  | none => rw [h] at e; cases e
  | some j =>
    rw [h] at e
    exact r.get e
section
variable {X : Cx}
theorem ix_dict (hu : X.A.units + 1 < cLine) : IxR X (fun x y H Q => ∃ a v, x = .ref a ∧ DGet H a y (some v) ∧ Q v H) := by
  intro value slice pins s σ H x y v u Q I rx ry ⟨a, w, ex, g, q⟩ hs
  subst ex
  obtain rfl : v = Value.ref a := rx
  exact tail_any (dict_typeIs I g) PySem.F.slot_dict_getitem.lookup (d_getItem hu I g ry fun w' s3 I3 rw' => ⟨w, H, I3, rw', q⟩) hs
/-- a[i] by data: the item itself -/
def RX (K : PySem.W.Frag) : R2 := fun x y H Q => ∃ as st dx dy d, SRel K as st H ∧ VRep K as H x dx ∧ VRep K as H y dy ∧ idx (snap st dx) dy = .ok d ∧ ∀ v, DRep K as H v d → Q v H
theorem ix_data (hu : X.A.units + 1 < cLine) : IxR X (RX X.K) := by
  intro value slice pins s σ H x y v u Q I rx ry ⟨as, st, dx, dy, d, sr, hx, hy, e, q⟩ hs
  have hyi : ∀ {i : Int}, dy = .int i → y = .int i := fun {i} e => by subst e; cases hy; rfl
  cases hd : snap st dx with
  | lst ds =>
    rw [hd] at e
    cases dy with
    | int i =>
      have hi := hyi rfl
      subst hi
      simp only [idx, atD] at e
      cases ha : atI ds i with
      | none => rw [ha] at e; cases e
      | some d' =>
        rw [ha] at e; cases e
        obtain ⟨a, vs, rfl, h1, h2, h3⟩ := hx.lst sr hd
        obtain ⟨w, e1, e2⟩ := atI_rep h3 ha
        exact ix_list value slice pins s σ H _ _ v u Q I rx ry ⟨a, vs, i, w, rfl, rfl, .inl (.inl h1), e1, q _ e2⟩ hs
    | _ => cases e
  | ro ds =>
    rw [hd] at e
    cases dy with
    | int i =>
      have hi := hyi rfl
      subst hi
      simp only [idx, atD] at e
      cases ha : atI ds i with
      | none => rw [ha] at e; cases e
      | some d' =>
        rw [ha] at e; cases e
        obtain ⟨a, vs, rfl, h1, h2, h3⟩ := hx.ro sr hd
        obtain ⟨w, e1, e2⟩ := atI_rep h3 ha
        exact ix_list value slice pins s σ H _ _ v u Q I rx ry ⟨a, vs, i, w, rfl, rfl, h1, e1, q _ e2⟩ hs
    | _ => cases e
  | tup ds =>
    rw [hd] at e
    cases dy with
    | int i =>
      have hi := hyi rfl
      subst hi
      simp only [idx, atD] at e
      cases ha : atI ds i with
      | none => rw [ha] at e; cases e
      | some d' =>
        rw [ha] at e; cases e
        obtain ⟨a, vs, rfl, h1, h2, h3⟩ := hx.tup sr hd
        obtain ⟨w, e1, e2⟩ := atI_rep h3 ha
        exact ix_tup value slice pins s σ H _ _ v u Q I rx ry ⟨a, vs, i, w, rfl, rfl, h1.sq, e1, q _ e2⟩ hs
    | _ => cases e
  | str z =>
    rw [hd] at e
    cases dy with
    | int i =>
      have hi := hyi rfl
      subst hi
      have hz := hx.str sr hd
      subst hz
      simp only [idx] at e
      split at e
      · rename_i hl
        cases ha : atI z.cps.toList i with
        | none => rw [ha] at e; cases e
        | some c =>
          rw [ha] at e; cases e
          exact ix_str value slice pins s σ H _ _ v u Q I rx ry ⟨z, i, c, rfl, rfl, by rw [← LIM_eq]; exact hl, ha, q _ (.str _)⟩ hs
      · cases e
    | _ => cases e
  | dic kvs =>
    rw [hd] at e
    have e' : (match keyOf dy with | some k => Res.of (dget kvs k) | none => .bad) = .ok d := by cases dy <;> exact e
    cases hk : keyOf dy with
    | none => rw [hk] at e'; cases e'
    | some k =>
      rw [hk] at e'
      obtain ⟨a, o, rfl, h1, h2, h3⟩ := m_dget (X := X) (pins := pins) (s := s) (σ := σ) hx hy sr hd hk
      rcases h3 with ⟨d', w, g1, rfl, g2⟩ | ⟨g1, _⟩
      · simp only [g1] at e'
        cases e'
        exact ix_dict hu value slice pins s σ H _ _ v u Q I rx ry ⟨a, w, rfl, h2, q _ g2⟩ hs
      · simp only [g1] at e'; cases e'
  | _ => rw [hd] at e; cases dy <;> cases e
/-- a slice by data -/
def RS (K : PySem.W.Frag) : V → Option Int → Option Int → Hp → VK → Prop := fun x lo hi H Q => ∃ as st dx d, SRel K as st H ∧ VRep K as H x dx ∧ slc (snap st dx) (lo.map D.int) (hi.map D.int) = .ok d ∧ ∀ v H', Same H H' → DRep K as H' v d → Q v H'
theorem optI_map (o : Option Int) : optI (o.map D.int) = some o := by cases o <;> rfl
theorem cut_rep {K : PySem.W.Frag} {as : Ads} {H : Hp} {vs : List V} {ds : List D} (r : DReps K as H vs ds) (lo hi : Option Int) : DReps K as H (cutV vs lo hi) (cutD ds lo hi) := by
  unfold cutV cutD
  rw [r.length]
  exact (r.drop _).take _
theorem sl_data : SlR X (RS X.K) := by
  intro pins s σ H x v vl vu lo hi sl Q I rx hs pl pu ⟨as, st, dx, d, sr, hx, e, q⟩
  cases hd : snap st dx with
  | lst ds =>
    rw [hd] at e
    simp only [slc, optI_map] at e
    cases e
    obtain ⟨a, vs, rfl, h1, h2, h3⟩ := hx.lst sr hd
    exact sl_list pins s σ H _ v vl vu lo hi sl Q I rx hs pl pu ⟨a, vs, rfl, .inl (.inl h1), fun p hp => q _ _ (same_new hp) (new_lst sr hp (Nat.le_trans (cutV_length vs lo hi) h2) (cut_rep h3 lo hi))⟩
  | tup ds =>
    rw [hd] at e
    simp only [slc, optI_map] at e
    cases e
    obtain ⟨a, vs, rfl, h1, h2, h3⟩ := hx.tup sr hd
    refine sl_tupA pins s σ H _ v vl vu lo hi sl Q I rx hs pl pu ⟨a, vs, rfl, h1.sq, fun hw => ?_, fun _ p hp => q _ _ (same_new hp) (new_tup hp (Nat.le_trans (cutV_length vs lo hi) h2) (cut_rep h3 lo hi))⟩
    have ec : cutD ds lo hi = ds := by
      rw [h3.length] at hw
      simp only [cutD, hw.1, hw.2]
      simp
    rw [ec] at q
    exact q _ _ (Same.refl H) (.tup h1 h2 h3)
  | str z =>
    rw [hd] at e
    simp only [slc, optI_map] at e
    split at e
    · rename_i hl
      cases e
      have hz := hx.str sr hd
      subst hz
      exact sl_str pins s σ H _ v vl vu lo hi sl Q I rx hs pl pu ⟨z, rfl, by rw [← LIM_eq]; exact hl, q _ _ (Same.refl H) (.str _)⟩
    · cases e
  | _ => rw [hd] at e; cases e
end
end En

set_option Elab.async false
set_option linter.all false
set_option maxRecDepth 100000
set_option maxHeartbeats 1000000
namespace En
open PySem PySem.Spec PyProof.Rows L2

section
variable (K : PySem.W.Frag) (Γ : Fns) (con : Nat → Option D)
def tE (c : CE) : TE := fun σ H Q => ∃ as env st d st', ERep K as H σ env ∧ SRel K as st H ∧ evE Γ con c env st = .ok (d, st') ∧ ∀ v H' as', Step as as' H H' → SRel K as' st' H' → VRep K as' H' v d → Q v H'
def tTest' (c : CE) : TT := fun σ H Q => ∃ as env st b st', ERep K as H σ env ∧ SRel K as st H ∧ evE Γ con c env st = .ok (.bl b, st') ∧ ∀ H' as', Step as as' H H' → SRel K as' st' H' → Q b H'
def tAs (cs : List CE) : TA := fun σ H Q => ∃ as env st ds st', ERep K as H σ env ∧ SRel K as st H ∧ evEs Γ con cs env st = .ok (ds, st') ∧ ∀ vs H' as', Step as as' H H' → SRel K as' st' H' → VReps K as' H' vs ds → Q vs H'
/-- a slice's part -/
def tOs (c : Option CE) : TO := fun σ H Q => ∃ as env st o st', ERep K as H σ env ∧ SRel K as st H ∧ evO Γ con c env st = .ok (o.map D.int, st') ∧ ∀ H' as', Step as as' H H' → SRel K as' st' H' → Q o H'
end
section
variable {X : Cx} {Γ : Fns} {con : Nat → Option D} {a b c : Expr} {ca cb cc : CE} {pos : Pos}

theorem pd_lit {d : D} {v : V} {e : Expr} (h : PE X e (tC v)) (hd : ∀ K as H, DRep K as H v d) : PE X e (tE X.K Γ con (.lit d)) :=
  h.impD fun σ H Q ⟨as, env, st, d', st', er, sr, e, q⟩ => by
    cases e
    exact q _ _ as (Step.refl _ _) sr (hd _ _ _).toV
theorem pd_var {i : Nat} {x : Str} (hN : X.N[i]? = some x) (hv : Vis X.env.scope x) (hd : (x == ("__debug__" : Str)) = false) (hcd : (x == ("__classdict__" : Str)) = false) : PE X (.Name x pos) (tE X.K Γ con (.var i)) :=
  (pe_var hN hv hd hcd).impD fun σ H Q ⟨as, env, st, d', st', er, sr, e, q⟩ => by
    simp only [evE] at e
    split at e
    · rename_i d hd
      cases e
      obtain ⟨v, e1, e2⟩ := er.get i d' hd
      exact ⟨v, e1, q v H as (Step.refl _ _) sr e2⟩
    · cases e
theorem pd_glob {g : Nat} {e : Expr} {v : V} {d : D} (h : PE X e (tC v)) (hc : con g = some d) (hd : ∀ as H, DRep X.K as H v d) : PE X e (tE X.K Γ con (.glob g)) :=
  h.impD fun σ H Q ⟨as, env, st, d', st', er, sr, e, q⟩ => by
    simp only [evE, hc] at e
    cases e
    exact q _ _ as (Step.refl _ _) sr (hd _ _).toV
theorem pd_bin {op : BOp} (ha : PE X a (tE X.K Γ con ca)) (hb : PE X b (tE X.K Γ con cb)) : PE X (.BinOp a (pyBin op) b pos) (tE X.K Γ con (.bin op ca cb)) :=
  (pe_op (op_bop op) ha hb).impD fun σ H Q ⟨as, env, st, d, st', er, sr, e, q⟩ => by
    simp only [evE] at e
    obtain ⟨⟨x, st1⟩, e1, e⟩ := Res.bind_ok e
    obtain ⟨⟨y, st2⟩, e2, e⟩ := Res.bind_ok e
    obtain ⟨d', e3, e4⟩ := Res.bind_ok e
    cases e4
    exact ⟨as, env, st, x, st1, er, sr, e1, fun v H1 as1 s1 sr1 hv => ⟨as1, env, st1, y, _, er.step s1, sr1, e2, fun u H2 as2 s2 sr2 hu =>
      ⟨as2, _, x, y, _, sr2, hv.step s2, hu, e3, fun w H3 sm hw => q w H3 as2 ((s1.trans s2).trans (Step.same sm)) (sr2.same sm) hw.toV⟩⟩⟩
theorem pd_neg (ha : PE X a (tE X.K Γ con ca)) : PE X (.UnaryOp .USub a pos) (tE X.K Γ con (.neg ca)) :=
  (pe_un un_negD ha).impD fun σ H Q ⟨as, env, st, d, st', er, sr, e, q⟩ => by
    simp only [evE] at e
    obtain ⟨⟨x, st1⟩, e1, e⟩ := Res.bind_ok e
    cases x with
    | int i =>
      cases e
      exact ⟨as, env, st, _, _, er, sr, e1, fun v H1 as1 s1 sr1 hv => by
        cases hv
        exact ⟨i, rfl, q _ _ as1 s1 sr1 (DRep.int (-i)).toV⟩⟩
    | _ => cases e
theorem pd_cmp {op : COp} (hu : X.A.units + 65 < cLine) (ha : PE X a (tE X.K Γ con ca)) (hb : PE X b (tE X.K Γ con cb)) (hm : behindInMarks (pyCmp op) b = false) : PE X (.Compare a [pyCmp op] [b] pos) (tE X.K Γ con (.cmp op ca cb)) :=
  (pe_cmpR (op_cop hu op) ha hb hm).impD fun σ H Q ⟨as, env, st, d, st', er, sr, e, q⟩ => by
    simp only [evE] at e
    obtain ⟨⟨x, st1⟩, e1, e⟩ := Res.bind_ok e
    obtain ⟨⟨y, st2⟩, e2, e⟩ := Res.bind_ok e
    obtain ⟨d', e3, e4⟩ := Res.bind_ok e
    cases e4
    exact ⟨as, env, st, x, st1, er, sr, e1, fun v H1 as1 s1 sr1 hv => ⟨as1, env, st1, y, _, er.step s1, sr1, e2, fun u H2 as2 s2 sr2 hu =>
      ⟨as2, _, x, y, _, sr2, hv.step s2, hu, by simp only [copD]; rw [e3]; rfl, fun w H3 sm hw => q w H3 as2 ((s1.trans s2).trans (Step.same sm)) (sr2.same sm) hw.toV⟩⟩⟩
/-- the same as a test -/
theorem pdt_cmp {op : COp} (hu : X.A.units + 65 < cLine) (ha : PE X a (tE X.K Γ con ca)) (hb : PE X b (tE X.K Γ con cb)) (hm : behindInMarks (pyCmp op) b = false) : PT X (.Compare a [pyCmp op] [b] pos) (tTest' X.K Γ con (.cmp op ca cb)) :=
  (pt_cmpR (op_cop hu op) ha hb hm).impD fun σ H Q ⟨as, env, st, d, st', er, sr, e, q⟩ => by
    simp only [evE] at e
    obtain ⟨⟨x, st1⟩, e1, e⟩ := Res.bind_ok e
    obtain ⟨⟨y, st2⟩, e2, e⟩ := Res.bind_ok e
    obtain ⟨d', e3, e4⟩ := Res.bind_ok e
    cases e4
    exact ⟨as, env, st, x, st1, er, sr, e1, fun v H1 as1 s1 sr1 hv => ⟨as1, env, st1, y, _, er.step s1, sr1, e2, fun u H2 as2 s2 sr2 hu =>
      ⟨as2, _, x, y, _, sr2, hv.step s2, hu, by simp only [copD]; rw [e3]; rfl, fun w H3 sm hw => by
        cases hw
        exact ⟨_, rfl, q H3 as2 ((s1.trans s2).trans (Step.same sm)) (sr2.same sm)⟩⟩⟩⟩
theorem pd_chain {op op' : COp} (hu : X.A.units + 65 < cLine) (ha : PE X a (tE X.K Γ con ca)) (hb : PE X b (tE X.K Γ con cb)) (hc : PE X c (tE X.K Γ con cc)) (hm : lastMarks [pyCmp op, pyCmp op'] [b, c] = false) :
    PE X (.Compare a [pyCmp op, pyCmp op'] [b, c] pos) (tE X.K Γ con (.chain op op' ca cb cc)) :=
  (pe_chain (op_cop hu op) (op_cop hu op') ha hb hc hm).impD fun σ H Q ⟨as, env, st, d, st', er, sr, e, q⟩ => by
    simp only [evE] at e
    obtain ⟨⟨x, st1⟩, e1, e⟩ := Res.bind_ok e
    obtain ⟨⟨y, st2⟩, e2, e⟩ := Res.bind_ok e
    obtain ⟨r, e3, e⟩ := Res.bind_ok e
    refine ⟨as, env, st, x, st1, er, sr, e1, fun v H1 as1 s1 sr1 hv => ⟨as1, env, st1, y, _, er.step s1, sr1, e2, fun u H2 as2 s2 sr2 hu =>
      ⟨as2, _, x, y, _, sr2, hv.step s2, hu, by simp only [copD]; rw [e3]; rfl, fun w H3 sm hw => ?_⟩⟩⟩
    cases hw
    have s3 := (s1.trans s2).trans (Step.same sm)
    cases r with
    | false =>
      cases e
      exact ⟨false, rfl, iteF (q _ _ as2 s3 (sr2.same sm) (DRep.bl false).toV)⟩
    | true =>
      simp only [if_true] at e
      obtain ⟨⟨z, st3⟩, e4, e⟩ := Res.bind_ok e
      obtain ⟨d', e5, e6⟩ := Res.bind_ok e
      cases e6
      exact ⟨true, rfl, iteT ⟨as2, env, st2, z, _, er.step s3, sr2.same sm, e4, fun w H4 as4 s4 sr4 hw => ⟨as4, _, y, z, _, sr4, (hu.step (Step.same sm)).step s4, hw, by simp only [copD]; rw [e5]; rfl, fun v' H5 sm5 hv' => q _ _ as4 ((s3.trans s4).trans (Step.same sm5)) (sr4.same sm5) hv'.toV⟩⟩⟩
theorem pdt_chain {op op' : COp} (hu : X.A.units + 65 < cLine) (ha : PE X a (tE X.K Γ con ca)) (hb : PE X b (tE X.K Γ con cb)) (hc : PE X c (tE X.K Γ con cc)) (hm : lastMarks [pyCmp op, pyCmp op'] [b, c] = false) :
    PT X (.Compare a [pyCmp op, pyCmp op'] [b, c] pos) (tTest' X.K Γ con (.chain op op' ca cb cc)) :=
  (pt_chain (op_cop hu op) (op_cop hu op') ha hb hc hm).impD fun σ H Q ⟨as, env, st, d, st', er, sr, e, q⟩ => by
    simp only [evE] at e
    obtain ⟨⟨x, st1⟩, e1, e⟩ := Res.bind_ok e
    obtain ⟨⟨y, st2⟩, e2, e⟩ := Res.bind_ok e
    obtain ⟨r, e3, e⟩ := Res.bind_ok e
    refine ⟨as, env, st, x, st1, er, sr, e1, fun v H1 as1 s1 sr1 hv => ⟨as1, env, st1, y, _, er.step s1, sr1, e2, fun u H2 as2 s2 sr2 hu =>
      ⟨as2, _, x, y, _, sr2, hv.step s2, hu, by simp only [copD]; rw [e3]; rfl, fun w H3 sm hw => ?_⟩⟩⟩
    cases hw
    have s3 := (s1.trans s2).trans (Step.same sm)
    cases r with
    | false =>
      cases e
      exact ⟨false, rfl, iteF ⟨_, rfl, q _ as2 s3 (sr2.same sm)⟩⟩
    | true =>
      simp only [if_true] at e
      obtain ⟨⟨z, st3⟩, e4, e⟩ := Res.bind_ok e
      obtain ⟨d', e5, e6⟩ := Res.bind_ok e
      cases e6
      exact ⟨true, rfl, iteT ⟨as2, env, st2, z, _, er.step s3, sr2.same sm, e4, fun w H4 as4 s4 sr4 hw => ⟨as4, _, y, z, _, sr4, (hu.step (Step.same sm)).step s4, hw, by simp only [copD]; rw [e5]; rfl, fun v' H5 sm5 hv' => by
        cases hv'
        exact ⟨_, rfl, q _ as4 ((s3.trans s4).trans (Step.same sm5)) (sr4.same sm5)⟩⟩⟩⟩
theorem asBool_ok {d : D} {b : Bool} (h : asBool d = .ok b) : d = .bl b := by
  cases d <;> cases h
  rfl
theorem pd_not (ha : PE X a (tE X.K Γ con ca)) : PE X (.UnaryOp .Not a pos) (tE X.K Γ con (.not ca)) :=
  (pe_not ha).impD fun σ H Q ⟨as, env, st, d, st', er, sr, e, q⟩ => by
    simp only [evE] at e
    obtain ⟨⟨x, st1⟩, e1, e⟩ := Res.bind_ok e
    obtain ⟨r, e2, e⟩ := Res.bind_ok e
    cases e
    cases asBool_ok e2
    exact ⟨as, env, st, _, _, er, sr, e1, fun v H1 as1 s1 sr1 hv => by
      cases hv
      exact ⟨r, rfl, q _ _ as1 s1 sr1 (DRep.bl (!r)).toV⟩⟩
theorem pdt_not (ha : PT X a (tTest' X.K Γ con ca)) : PT X (.UnaryOp .Not a pos) (tTest' X.K Γ con (.not ca)) :=
  (pt_not ha).impD fun σ H Q ⟨as, env, st, d, st', er, sr, e, q⟩ => by
    simp only [evE] at e
    obtain ⟨⟨x, st1⟩, e1, e⟩ := Res.bind_ok e
    obtain ⟨r, e2, e⟩ := Res.bind_ok e
    cases e
    cases asBool_ok e2
    exact ⟨as, env, st, _, _, er, sr, e1, fun H1 as1 s1 sr1 => q _ as1 s1 sr1⟩
/-- a value that is a bool, as a test -/
theorem pdt_val (ha : PE X a (tE X.K Γ con ca)) (he : ∀ whole, isTrue a X.env whole = (do let v ← whole; standAt a.pos; holding [v] (truthy v))) : PT X a (tTest' X.K Γ con ca) :=
  (pt_val ha he).impD fun σ H Q ⟨as, env, st, b, st', er, sr, e, q⟩ => ⟨as, env, st, _, _, er, sr, e, fun v H1 as1 s1 sr1 hv => by
    cases hv
    exact ⟨b, rfl, q _ as1 s1 sr1⟩⟩
theorem pd_ite (hc : PT X c (tTest' X.K Γ con cc)) (ha : PE X a (tE X.K Γ con ca)) (hb : PE X b (tE X.K Γ con cb)) : PE X (.IfExp c a b pos) (tE X.K Γ con (.ite cc ca cb)) :=
  (pe_ifExp hc ha hb).impD fun σ H Q ⟨as, env, st, d, st', er, sr, e, q⟩ => by
    simp only [evE] at e
    obtain ⟨⟨x, st1⟩, e1, e⟩ := Res.bind_ok e
    obtain ⟨r, e2, e⟩ := Res.bind_ok e
    cases asBool_ok e2
    refine ⟨as, env, st, _, _, er, sr, e1, fun H1 as1 s1 sr1 => ?_⟩
    cases r with
    | true => exact iteT ⟨as1, env, st1, d, st', er.step s1, sr1, e, fun v H2 as2 s2 sr2 hv => q v H2 as2 (s1.trans s2) sr2 hv⟩
    | false => exact iteF ⟨as1, env, st1, d, st', er.step s1, sr1, e, fun v H2 as2 s2 sr2 hv => q v H2 as2 (s1.trans s2) sr2 hv⟩

theorem pd_and1 (ha : PE X a (tE X.K Γ con ca)) : PE X (.BoolOp .And [a] pos) (tE X.K Γ con (.and [ca])) :=
  (pe_one ha).impD fun σ H Q ⟨as, env, st, d, st', er, sr, e, q⟩ => by
    simp only [evE, evAnd] at e
    obtain ⟨⟨x, st1⟩, e1, e⟩ := Res.bind_ok e
    obtain ⟨r, e2, e⟩ := Res.bind_ok e
    cases e
    cases asBool_ok e2
    exact ⟨as, env, st, _, _, er, sr, e1, q⟩
theorem pd_or1 (ha : PE X a (tE X.K Γ con ca)) : PE X (.BoolOp .Or [a] pos) (tE X.K Γ con (.or [ca])) :=
  (pe_one ha).impD fun σ H Q ⟨as, env, st, d, st', er, sr, e, q⟩ => by
    simp only [evE, evOr] at e
    obtain ⟨⟨x, st1⟩, e1, e⟩ := Res.bind_ok e
    obtain ⟨r, e2, e⟩ := Res.bind_ok e
    cases e
    cases asBool_ok e2
    exact ⟨as, env, st, _, _, er, sr, e1, q⟩
theorem pd_and {rest : List Expr} {cs : List CE} (ha : PE X a (tE X.K Γ con ca)) (hb : PE X (.BoolOp .And (b :: rest) pos) (tE X.K Γ con (.and (cb :: cs)))) : PE X (.BoolOp .And (a :: b :: rest) pos) (tE X.K Γ con (.and (ca :: cb :: cs))) :=
  (pe_and ha hb).impD fun σ H Q ⟨as, env, st, d, st', er, sr, e, q⟩ => by
    simp only [evE] at e
    unfold evAnd at e
    obtain ⟨⟨x, st1⟩, e1, e⟩ := Res.bind_ok e
    obtain ⟨r, e2, e⟩ := Res.bind_ok e
    cases asBool_ok e2
    refine ⟨as, env, st, _, _, er, sr, e1, fun v H1 as1 s1 sr1 hv => ?_⟩
    cases hv
    refine ⟨r, rfl, ?_⟩
    cases r with
    | true => exact iteT ⟨as1, env, st1, d, st', er.step s1, sr1, by simp only [evE]; exact e, fun v H2 as2 s2 sr2 hv => q v H2 as2 (s1.trans s2) sr2 hv⟩
    | false =>
      cases e
      exact iteF (q _ _ as1 s1 sr1 (DRep.bl false).toV)
theorem pd_or {rest : List Expr} {cs : List CE} (ha : PE X a (tE X.K Γ con ca)) (hb : PE X (.BoolOp .Or (b :: rest) pos) (tE X.K Γ con (.or (cb :: cs)))) : PE X (.BoolOp .Or (a :: b :: rest) pos) (tE X.K Γ con (.or (ca :: cb :: cs))) :=
  (pe_or ha hb).impD fun σ H Q ⟨as, env, st, d, st', er, sr, e, q⟩ => by
    simp only [evE] at e
    unfold evOr at e
    obtain ⟨⟨x, st1⟩, e1, e⟩ := Res.bind_ok e
    obtain ⟨r, e2, e⟩ := Res.bind_ok e
    cases asBool_ok e2
    refine ⟨as, env, st, _, _, er, sr, e1, fun v H1 as1 s1 sr1 hv => ?_⟩
    cases hv
    refine ⟨r, rfl, ?_⟩
    cases r with
    | false => exact iteF ⟨as1, env, st1, d, st', er.step s1, sr1, by simp only [evE]; exact e, fun v H2 as2 s2 sr2 hv => q v H2 as2 (s1.trans s2) sr2 hv⟩
    | true =>
      cases e
      exact iteT (q _ _ as1 s1 sr1 (DRep.bl true).toV)
theorem pdw_and1 (ha : PT X a (tTest' X.K Γ con ca)) : PW X (.BoolOp .And [a] pos) (tTest' X.K Γ con (.and [ca])) :=
  (pw_and1 ha).impD fun σ H Q ⟨as, env, st, d, st', er, sr, e, q⟩ => by
    simp only [evE, evAnd] at e
    obtain ⟨⟨x, st1⟩, e1, e⟩ := Res.bind_ok e
    obtain ⟨r, e2, e⟩ := Res.bind_ok e
    cases e
    cases asBool_ok e2
    exact ⟨as, env, st, _, _, er, sr, e1, q⟩
theorem pdw_or1 (ha : PT X a (tTest' X.K Γ con ca)) : PW X (.BoolOp .Or [a] pos) (tTest' X.K Γ con (.or [ca])) :=
  (pw_or1 ha).impD fun σ H Q ⟨as, env, st, d, st', er, sr, e, q⟩ => by
    simp only [evE, evOr] at e
    obtain ⟨⟨x, st1⟩, e1, e⟩ := Res.bind_ok e
    obtain ⟨r, e2, e⟩ := Res.bind_ok e
    cases e
    cases asBool_ok e2
    exact ⟨as, env, st, _, _, er, sr, e1, q⟩
theorem pdw_and {rest : List Expr} {cs : List CE} (ha : PT X a (tTest' X.K Γ con ca)) (hb : PW X (.BoolOp .And (b :: rest) pos) (tTest' X.K Γ con (.and (cb :: cs)))) : PW X (.BoolOp .And (a :: b :: rest) pos) (tTest' X.K Γ con (.and (ca :: cb :: cs))) :=
  (pw_and ha hb).impD fun σ H Q ⟨as, env, st, d, st', er, sr, e, q⟩ => by
    simp only [evE] at e
    unfold evAnd at e
    obtain ⟨⟨x, st1⟩, e1, e⟩ := Res.bind_ok e
    obtain ⟨r, e2, e⟩ := Res.bind_ok e
    cases asBool_ok e2
    refine ⟨as, env, st, _, _, er, sr, e1, fun H1 as1 s1 sr1 => ?_⟩
    cases r with
    | true => exact iteT ⟨as1, env, st1, d, st', er.step s1, sr1, by simp only [evE]; exact e, fun H2 as2 s2 sr2 => q H2 as2 (s1.trans s2) sr2⟩
    | false =>
      cases e
      exact iteF (q _ as1 s1 sr1)
theorem pdw_or {rest : List Expr} {cs : List CE} (ha : PT X a (tTest' X.K Γ con ca)) (hb : PW X (.BoolOp .Or (b :: rest) pos) (tTest' X.K Γ con (.or (cb :: cs)))) : PW X (.BoolOp .Or (a :: b :: rest) pos) (tTest' X.K Γ con (.or (ca :: cb :: cs))) :=
  (pw_or ha hb).impD fun σ H Q ⟨as, env, st, d, st', er, sr, e, q⟩ => by
    simp only [evE] at e
    unfold evOr at e
    obtain ⟨⟨x, st1⟩, e1, e⟩ := Res.bind_ok e
    obtain ⟨r, e2, e⟩ := Res.bind_ok e
    cases asBool_ok e2
    refine ⟨as, env, st, _, _, er, sr, e1, fun H1 as1 s1 sr1 => ?_⟩
    cases r with
    | false => exact iteF ⟨as1, env, st1, d, st', er.step s1, sr1, by simp only [evE]; exact e, fun H2 as2 s2 sr2 => q H2 as2 (s1.trans s2) sr2⟩
    | true =>
      cases e
      exact iteT (q _ as1 s1 sr1)
end
end En

set_option Elab.async false
set_option linter.all false
set_option maxRecDepth 100000
set_option maxHeartbeats 1000000
namespace En
open PySem PySem.Spec PyProof.Rows L2

section
variable {K : PySem.W.Frag} {as : Ads} {H : Hp} {st : Sto}
theorem cl_set (r : SRel K as st H) {i j : Nat} {o o' : O} (oc : o.clean = true) (e : (st.set i o)[j]? = some o') : o'.clean = true := by
  by_cases hj : i = j
  · subst hj
    by_cases hl : i < st.length
    · rw [List.getElem?_set_self hl] at e; cases e; exact oc
    · rw [List.getElem?_eq_none (by simpa using hl)] at e; cases e
  · rw [List.getElem?_set_ne hj] at e; exact r.cl j o' e
theorem cl_app {st : Sto} (h : ∀ (i : Nat) (o : O), st[i]? = some o → o.clean = true) {j : Nat} {o o' : O} (oc : o.clean = true) (e : (st ++ [o])[j]? = some o') : o'.clean = true := by
  by_cases hj : j < st.length
  · rw [List.getElem?_append_left hj] at e; exact h j o' e
  · rw [List.getElem?_append_right (by omega)] at e
    by_cases hz : j - st.length = 0
    · rw [hz] at e; simp at e; subst e; exact oc
    · rw [List.getElem?_eq_none (by simp; omega)] at e; cases e
/-- the store object i is written anew -/
theorem SRel.write (r : SRel K as st H) {i : Nat} {a : Addr} {o : O} {u : HO} (oc : o.clean = true) (ha : as.c[i]? = some (some a)) (ho : Step as as H (upd H a u) → ORep K as (upd H a u) (some a) o) :
    Step as as H (upd H a u) ∧ SRel K as (st.set i o) (upd H a u) := by
  have hm : some a ∈ as.c := List.mem_of_getElem? ha
  have htup : ∀ b xs, H b = some (.tup xs) → b ≠ a := fun b xs e z => by
    subst z
    rcases r.mut hm with ⟨vs, q⟩ | ⟨vs, q⟩ <;> (rw [e] at q; cases q)
  have s : Step as as H (upd H a u) := ⟨Nat.le_refl _, fun _ _ h => .inl h, fun _ h => h, fun _ h => .inl h, fun b x e n => by
    have : b ≠ a := fun z => by subst z; exact n hm
    rw [upd_ne this]; exact e, fun b xs e => by rw [upd_ne (htup b xs e)]; exact e, rfl⟩
  refine ⟨s, ⟨by rw [List.length_set]; exact r.len, r.nd, fun j o' e => ?_, fun b hb => let ⟨o, e⟩ := r.pr b hb; ⟨o, s.ext b o e (r.dj b hb)⟩, r.dj, fun j o' e => cl_set r oc e⟩⟩
  by_cases hj : i = j
  · subst hj
    have hl : i < st.length := by
      by_cases hl : i < st.length
      · exact hl
      · rw [List.getElem?_eq_none (by simpa using hl)] at e; cases e
    rw [List.getElem?_set_self hl] at e
    cases e
    exact ⟨some a, ha, ho s⟩
  · rw [List.getElem?_set_ne hj] at e
    obtain ⟨x, e1, q⟩ := r.rep j o' e
    refine ⟨x, e1, ?_⟩
    cases x with
    | none => cases o' <;> exact q
    | some b =>
      have hb : b ≠ a := fun z => by subst z; exact hj (r.nd i j b ha e1)
      cases o' with
      | lst ds => obtain ⟨vs, e2, z, p⟩ := q; exact ⟨vs, by rw [upd_ne hb]; exact e2, z, DReps.step s _ _ p⟩
      | dic ds => obtain ⟨vs, e2, z, p⟩ := q; exact ⟨vs, by rw [upd_ne hb]; exact e2, z, KReps.step s _ _ p⟩
      | dead => exact q
/-- a new store object -/
theorem SRel.alloc (r : SRel K as st H) {p : Addr} {o : O} {u : HO} (oc : o.clean = true) (hp : H p = none) (hu : ∀ (as' : Ads), Step as as' H (upd H p u) → ORep K as' (upd H p u) (some p) o) :
    Step as ⟨as.c ++ [some p], as.p⟩ H (upd H p u) ∧ SRel K ⟨as.c ++ [some p], as.p⟩ (st ++ [o]) (upd H p u) ∧ VRep K ⟨as.c ++ [some p], as.p⟩ (upd H p u) (.ref p) (.mref st.length) := by
  have fr := r.fresh hp
  have s : Step as ⟨as.c ++ [some p], as.p⟩ H (upd H p u) := by
    refine ⟨by simp, fun j a h => .inl ?_, fun j h => ?_, fun a h => ?_, fun a x e _ => ?_, fun a xs e => ?_, rfl⟩
    · have hj : j < as.c.length := by
        by_cases hl : j < as.c.length
        · exact hl
        · rw [List.getElem?_eq_none (by simpa using hl)] at h; cases h
      show (as.c ++ [some p])[j]? = _
      rw [List.getElem?_append_left hj]; exact h
    · have hj : j < as.c.length := by
        by_cases hl : j < as.c.length
        · exact hl
        · rw [List.getElem?_eq_none (by simpa using hl)] at h; cases h
      show (as.c ++ [some p])[j]? = _
      rw [List.getElem?_append_left hj]; exact h
    · rcases List.mem_append.mp h with h | h
      · exact .inl h
      · simp at h; subst h; exact .inr hp
    · rw [upd_ne (ne_of_none e hp)]; exact e
    · rw [upd_ne (ne_of_none e hp)]; exact e
  have ho := hu _ s
  refine ⟨s, ⟨by simp [r.len], fun i j a h1 h2 => ?_, fun i o' e => ?_, fun b hb => let ⟨o, e⟩ := r.pr b hb; ⟨o, by rw [upd_ne (ne_of_none e hp)]; exact e⟩, fun b hb m => ?_, fun j o' e => cl_app r.cl oc e⟩, ?_⟩
  · have key : ∀ {i : Nat}, (as.c ++ [some p])[i]? = some (some a) → (as.c[i]? = some (some a) ∧ a ≠ p) ∨ (i = as.c.length ∧ a = p) := fun {i} h => by
      by_cases hi : i < as.c.length
      · rw [List.getElem?_append_left hi] at h
        exact .inl ⟨h, fun z => by subst z; exact fr (.inl (List.mem_of_getElem? h))⟩
      · rw [List.getElem?_append_right (by omega)] at h
        by_cases hz : i - as.c.length = 0
        · rw [hz] at h; simp at h; exact .inr ⟨by omega, h.symm⟩
        · rw [List.getElem?_eq_none (by simp; omega)] at h; cases h
    rcases key h1 with ⟨a1, a2⟩ | ⟨a1, a2⟩
    · rcases key h2 with ⟨b1, b2⟩ | ⟨b1, b2⟩
      · exact r.nd i j a a1 b1
      · exact absurd b2 a2
    · rcases key h2 with ⟨b1, b2⟩ | ⟨b1, b2⟩
      · exact absurd a2 b2
      · omega
  · by_cases hi : i < st.length
    · rw [List.getElem?_append_left hi] at e
      obtain ⟨x, e1, q⟩ := r.rep i o' e
      refine ⟨x, by show (as.c ++ [some p])[i]? = _; rw [List.getElem?_append_left (by rw [r.len]; exact hi)]; exact e1, ?_⟩
      cases x with
      | none => cases o' <;> exact q
      | some b =>
        have hb : b ≠ p := fun z => by subst z; exact fr (.inl (List.mem_of_getElem? e1))
        cases o' with
        | lst ds => obtain ⟨vs, e2, z, q⟩ := q; exact ⟨vs, by rw [upd_ne hb]; exact e2, z, DReps.step s _ _ q⟩
        | dic ds => obtain ⟨vs, e2, z, q⟩ := q; exact ⟨vs, by rw [upd_ne hb]; exact e2, z, KReps.step s _ _ q⟩
        | dead => exact q
    · rw [List.getElem?_append_right (by omega)] at e
      by_cases hz : i - st.length = 0
      · rw [hz] at e
        simp at e
        subst e
        refine ⟨some p, ?_, ho⟩
        show (as.c ++ [some p])[i]? = _
        rw [List.getElem?_append_right (by rw [r.len]; omega)]
        have : i - as.c.length = 0 := by rw [r.len]; exact hz
        rw [this]; rfl
      · rw [List.getElem?_eq_none (by simp; omega)] at e; cases e
  · rcases List.mem_append.mp m with m | m
    · exact r.dj b hb m
    · simp at m
      subst m
      exact fr (.inr hb)
  · refine ⟨by simp [r.len], fun a h => ?_⟩
    have h : (as.c ++ [some p])[st.length]? = some (some a) := h
    rw [← r.len, List.getElem?_append_right (Nat.le_refl _)] at h
    simp at h
    rw [h]
end

section
variable {X : Cx} {Γ : Fns} {con : Nat → Option D} {a b : Expr} {es : List Expr} {ca cb : CE} {cs : List CE} {pos : Pos}
theorem pda_nil : PA X [] (tAs X.K Γ con []) := pa_nil.impD fun σ H Q ⟨as, env, st, ds, st', er, sr, e, q⟩ => by
  simp only [evEs] at e
  cases e
  exact q [] H as (Step.refl _ _) sr .nil
theorem pda_cons (ha : PE X a (tE X.K Γ con ca)) (hr : PA X es (tAs X.K Γ con cs)) (hs : starEach (a :: es) X.env = (false, eval a X.env) :: starEach es X.env) : PA X (a :: es) (tAs X.K Γ con (ca :: cs)) :=
  (pa_cons ha hr hs).impD fun σ H Q ⟨as, env, st, ds, st', er, sr, e, q⟩ => by
    simp only [evEs] at e
    obtain ⟨⟨x, st1⟩, e1, e⟩ := Res.bind_ok e
    obtain ⟨⟨xs, st2⟩, e2, e⟩ := Res.bind_ok e
    cases e
    exact ⟨as, env, st, x, st1, er, sr, e1, fun v H1 as1 s1 sr1 hv => ⟨as1, env, st1, xs, _, er.step s1, sr1, e2, fun vs H2 as2 s2 sr2 hvs => q _ _ as2 (s1.trans s2) sr2 (.cons (hv.step s2) hvs)⟩⟩
theorem pd_tup {k : Nat} (h : PA X es (tAs X.K Γ con cs)) : PE X (.Tuple es k pos) (tE X.K Γ con (.tup cs)) :=
  (pe_tup h).impD fun σ H Q ⟨as, env, st, d, st', er, sr, e, q⟩ => by
    simp only [evE] at e
    obtain ⟨⟨ds, st1⟩, e1, e⟩ := Res.bind_ok e
    simp only at e
    split at e
    · rename_i hz
      cases e
      refine ⟨as, env, st, ds, _, er, sr, e1, fun vs H1 as1 s1 sr1 hv => ?_⟩
      have hl : vs.length ≤ sizeLine := by rw [hv.length, ← LIM_eq]; exact hz
      refine ⟨hl, fun p hp => q _ _ as1 (s1.trans (Step.same (same_new hp))) (sr1.same (same_new hp)) (new_tup hp hl hv.dd).toV⟩
    · cases e
theorem pd_lst (h : PA X es (tAs X.K Γ con cs)) : PE X (.List es pos) (tE X.K Γ con (.lst cs)) :=
  (pe_lst h).impD fun σ H Q ⟨as, env, st, d, st', er, sr, e, q⟩ => by
    simp only [evE] at e
    obtain ⟨⟨ds, st1⟩, e1, e⟩ := Res.bind_ok e
    simp only at e
    split at e
    · rename_i hz
      simp only [Bool.and_eq_true, decide_eq_true_eq] at hz
      cases e
      refine ⟨as, env, st, ds, _, er, sr, e1, fun vs H1 as1 s1 sr1 hv => ?_⟩
      have hl : vs.length ≤ sizeLine := by rw [hv.length, ← LIM_eq]; exact hz.2
      refine ⟨hl, fun p hp => q _ _ as1 (s1.trans (Step.same (same_new hp))) (sr1.same (same_new hp)) (new_lst sr1 hp hl (hv.ds hz.1)).toV⟩
    · cases e
theorem pd_lstM (h : PA X es (tAs X.K Γ con cs)) : PE X (.List es pos) (tE X.K Γ con (.lstM cs)) :=
  (pe_lst h).impD fun σ H Q ⟨as, env, st, d, st', er, sr, e, q⟩ => by
    simp only [evE] at e
    obtain ⟨⟨ds, st1⟩, e1, e⟩ := Res.bind_ok e
    simp only at e
    split at e
    · rename_i hz
      simp only [Bool.and_eq_true, decide_eq_true_eq] at hz
      cases e
      refine ⟨as, env, st, ds, _, er, sr, e1, fun vs H1 as1 s1 sr1 hv => ?_⟩
      have hl : vs.length ≤ sizeLine := by rw [hv.length, ← LIM_eq]; exact hz.2
      refine ⟨hl, fun p hp => ?_⟩
      obtain ⟨s2, sr2, hv2⟩ := sr1.alloc (o := .lst ds) (u := .lst vs) hz.1 hp fun as' s => ⟨vs, upd_same, hl, DReps.step s _ _ hv.dd⟩
      exact q _ _ _ (s1.trans s2) sr2 hv2
    · cases e
theorem pd_idx (hu : X.A.units + 1 < cLine) (ha : PE X a (tE X.K Γ con ca)) (hb : PE X b (tE X.K Γ con cb)) (hs : PlainIx b) : PE X (.Subscript a b pos) (tE X.K Γ con (.idx ca cb)) :=
  (pe_ix (ix_data hu) ha hb hs).impD fun σ H Q ⟨as, env, st, d, st', er, sr, e, q⟩ => by
    simp only [evE] at e
    obtain ⟨⟨x, st1⟩, e1, e⟩ := Res.bind_ok e
    obtain ⟨⟨y, st2⟩, e2, e⟩ := Res.bind_ok e
    obtain ⟨d', e3, e4⟩ := Res.bind_ok e
    cases e4
    exact ⟨as, env, st, x, st1, er, sr, e1, fun v H1 as1 s1 sr1 hv => ⟨as1, env, st1, y, _, er.step s1, sr1, e2, fun u H2 as2 s2 sr2 hu =>
      ⟨as2, _, x, y, _, sr2, hv.step s2, hu, e3, fun w hw => q w H2 as2 (s1.trans s2) sr2 hw.toV⟩⟩⟩
theorem po_data_none : PO X none (tOs X.K Γ con none) := ⟨fun pins s σ H Q I ⟨as, env, st, o, st', er, sr, e, q⟩ => by
  simp only [evO] at e
  refine po_none.run pins s σ H Q I ?_
  cases o with
  | none => cases e; exact q H as (Step.refl _ _) sr
  | some i => cases e⟩
theorem po_data_some (h : PE X a (tE X.K Γ con ca)) : PO X (some a) (tOs X.K Γ con (some ca)) := ⟨fun pins s σ H Q I ⟨as, env, st, o, st', er, sr, e, q⟩ => by
  simp only [evO] at e
  obtain ⟨⟨x, st1⟩, e1, e⟩ := Res.bind_ok e
  refine (po_some h).run pins s σ H Q I ?_
  cases o with
  | none => cases e
  | some i =>
    cases e
    exact ⟨as, env, st, _, _, er, sr, e1, fun v H1 as1 s1 sr1 hv => by
      cases hv
      exact ⟨i, rfl, q H1 as1 s1 sr1⟩⟩⟩
theorem slc_parts {x : D} {l h : Option D} {d : D} (e : slc x l h = .ok d) : ∃ lo hi : Option Int, l = lo.map D.int ∧ h = hi.map D.int := by
  have key : ∀ {o : Option D} {r : Option Int}, optI o = some r → o = r.map D.int := fun {o r} e => by
    cases o with
    | none => cases e; rfl
    | some z => cases z <;> cases e; rfl
  cases x with
  | lst ds =>
    simp only [slc] at e
    split at e
    · rename_i l' h' e1 e2; exact ⟨l', h', key e1, key e2⟩
    · cases e
  | tup ds =>
    simp only [slc] at e
    split at e
    · rename_i l' h' e1 e2; exact ⟨l', h', key e1, key e2⟩
    · cases e
  | str z =>
    simp only [slc] at e
    split at e
    · rename_i l' h' e1 e2; exact ⟨l', h', key e1, key e2⟩
    · cases e
  | _ => cases e
theorem pd_slc {lo hi : Option Expr} {cl ch : Option CE} {p2 : Pos} (ha : PE X a (tE X.K Γ con ca)) (hl : PO X lo (tOs X.K Γ con cl)) (hh : PO X hi (tOs X.K Γ con ch)) : PE X (.Subscript a (.Slice lo hi none p2) pos) (tE X.K Γ con (.slc ca cl ch)) :=
  (pe_slice sl_data ha hl hh).impD fun σ H Q ⟨as, env, st, d, st', er, sr, e, q⟩ => by
    simp only [evE] at e
    obtain ⟨⟨x, st1⟩, e1, e⟩ := Res.bind_ok e
    obtain ⟨⟨l, st2⟩, e2, e⟩ := Res.bind_ok e
    obtain ⟨⟨h, st3⟩, e3, e⟩ := Res.bind_ok e
    obtain ⟨d', e4, e5⟩ := Res.bind_ok e
    cases e5
    obtain ⟨lo', hi', rfl, rfl⟩ := slc_parts e4
    exact ⟨as, env, st, x, st1, er, sr, e1, fun v H1 as1 s1 sr1 hv => ⟨as1, env, st1, lo', _, er.step s1, sr1, e2, fun H2 as2 s2 sr2 =>
      ⟨as2, env, st2, hi', _, (er.step s1).step s2, sr2, e3, fun H3 as3 s3 sr3 => ⟨as3, _, x, _, sr3, (hv.step s2).step s3, e4, fun w H4 sm hw => q w H4 as3 (((s1.trans s2).trans s3).trans (Step.same sm)) (sr3.same sm) hw.toV⟩⟩⟩⟩

theorem tb_of {bb : B} {r : List V → Hp → VK → Prop} (hr : ∀ vs H Q, RB X.K bb vs H Q → r vs H Q) {t : TA} (ht : t = tAs X.K Γ con cs) : ∀ σ H Q, tE X.K Γ con (.bi bb cs) σ H Q → tCB r t σ H Q := fun σ H Q ⟨as, env, st, d, st', er, sr, e, q⟩ => by
  subst ht
  simp only [evE] at e
  obtain ⟨⟨ds, st1⟩, e1, e⟩ := Res.bind_ok e
  obtain ⟨d', e2, e3⟩ := Res.bind_ok e
  cases e3
  exact ⟨as, env, st, ds, _, er, sr, e1, fun vs H1 as1 s1 sr1 hv => hr _ _ _ ⟨as1, _, ds, _, sr1, hv, e2, fun w H2 sm hw => q w H2 as1 (s1.trans (Step.same sm)) (sr1.same sm) hw.toV⟩⟩
theorem pd_bi {x : Str} {id : String} {bb : B} {p : Pos} (hc : CallR X (.builtin id) (RB X.K bb)) (hg : Gl X x) (hm : X.mg x = none) (hv : bootBuiltins x = some (.builtin id)) (hA : PA X (a :: es) (tAs X.K Γ con cs)) (hn : x ≠ "__name__") (hdb : (x == ("__debug__" : Str)) = false)
    (he : starEach (a :: es) X.env = (false, eval a X.env) :: starEach es X.env) (hpl : (backTo pos (starEach es X.env)).any (·.1) = false) : PE X (.Call (.Name x p) (a :: es) [] pos) (tE X.K Γ con (.bi bb cs)) :=
  (pe_callB hc hg hm hv hA hn hdb he hpl).impD (tb_of (fun _ _ _ z => z) rfl)
theorem pd_biTy {x : Str} {T : String} {bb : B} {p : Pos} (hc : CallR X (.type T) (RB X.K bb)) (hg : Gl X x) (hm : X.mg x = none) (hv : bootBuiltins x = some (.type T)) (hA : PA X (a :: es) (tAs X.K Γ con cs)) (hn : x ≠ "__name__") (hdb : (x == ("__debug__" : Str)) = false)
    (he : starEach (a :: es) X.env = (false, eval a X.env) :: starEach es X.env) (hpl : (backTo pos (starEach es X.env)).any (·.1) = false) : PE X (.Call (.Name x p) (a :: es) [] pos) (tE X.K Γ con (.bi bb cs)) :=
  (pe_callTy hc hg hm hv hA hn hdb he hpl).impD (tb_of (fun _ _ _ z => z) rfl)
/-- isinstance(e, T), T a built-in class -/
theorem pd_isi {bb : B} {p pt : Pos} {tn : Str} (hb : isIsi bb = true) (hg : Gl X "isinstance") (hm : X.mg "isinstance" = none) (hgt : Gl X tn) (hmt : X.mg tn = none) (hvt : bootBuiltins tn = some (.type (isiT bb))) (hnt : tn ≠ "__name__") (hdt : (tn == ("__debug__" : Str)) = false)
    (ha : PE X a (tE X.K Γ con ca)) (hs : starEach [a, .Name tn pt] X.env = (false, eval a X.env) :: starEach [.Name tn pt] X.env) :
    PE X (.Call (.Name "isinstance" p) [a, .Name tn pt] [] pos) (tE X.K Γ con (.bi bb [ca])) :=
  (pe_callB (c_isi hb) hg hm (by decide +kernel) (pa_cons ha (pa_cons (pe_bltn (v := .ty (isiT bb)) hgt hmt hvt rfl hnt hdt) pa_nil) hs) (by decide) (by decide) hs).impD fun σ H Q ⟨as, env, st, d, st', er, sr, e, q⟩ => by
    simp only [evE, evEs] at e
    obtain ⟨⟨ds, st1⟩, e1, e⟩ := Res.bind_ok e
    obtain ⟨⟨x, st2⟩, e1', e1⟩ := Res.bind_ok e1
    cases e1
    obtain ⟨d', e2, e3⟩ := Res.bind_ok e
    cases e3
    exact ⟨as, env, st, x, _, er, sr, e1', fun v H1 as1 s1 sr1 hv => ⟨v, rfl, as1, _, [x], _, sr1, .cons hv .nil, e2, fun w H2 sm hw => q w H2 as1 (s1.trans (Step.same sm)) (sr1.same sm) hw.toV⟩⟩
/-- list(e), to be changed -/
theorem pd_copyM {p : Pos} (hg : Gl X "list") (hm : X.mg "list" = none) (ha : PE X a (tE X.K Γ con ca)) (hs : starEach [a] X.env = (false, eval a X.env) :: starEach [] X.env) : PE X (.Call (.Name "list" p) [a] [] pos) (tE X.K Γ con (.copyM ca)) :=
  (pe_callTy call_list_of hg hm (by decide +kernel) (pa_cons ha pa_nil hs) (by decide) (by decide) hs).impD fun σ H Q ⟨as, env, st, d, st', er, sr, e, q⟩ => by
    simp only [evE] at e
    obtain ⟨⟨x, st1⟩, e1, e⟩ := Res.bind_ok e
    obtain ⟨ds, e2, e3⟩ := Res.bind_ok e
    simp only at e3
    split at e3
    case isFalse => cases e3
    rename_i hcl
    cases e3
    refine ⟨as, env, st, x, _, er, sr, e1, fun v H1 as1 s1 sr1 hv => ?_⟩
    have key : ∀ (a : Addr) (vs : List V), v = .ref a → (SqL X.K H1 a vs ∨ SqT X.K H1 a vs) → vs.length ≤ sizeLine → DReps X.K as1 H1 vs ds → ∃ p ys, [v] = [V.ref p] ∧ (SqL X.K H1 p ys ∨ SqT X.K H1 p ys) ∧ ∀ l, H1 l = none → Q (.ref l) (upd H1 l (.lst ys)) :=
      fun a vs ev h1 h2 h3 => by
        subst ev
        refine ⟨a, vs, rfl, h1, fun p hp => ?_⟩
        obtain ⟨s2, sr2, hv2⟩ := sr1.alloc (o := .lst ds) (u := .lst vs) hcl hp fun as' s => ⟨vs, upd_same, h2, DReps.step s _ _ h3⟩
        exact q _ _ _ (s1.trans s2) sr2 hv2
    cases hd : snap st1 x with
    | lst ds' => rw [hd] at e2; cases e2; obtain ⟨a, vs, ev, h1, h2, h3⟩ := hv.lst sr1 hd; exact key a vs ev (.inl (.inl (.inl h1))) h2 h3
    | ro ds' => rw [hd] at e2; cases e2; obtain ⟨a, vs, ev, h1, h2, h3⟩ := hv.ro sr1 hd; exact key a vs ev (.inl h1) h2 h3
    | tup ds' => rw [hd] at e2; cases e2; obtain ⟨a, vs, ev, h1, h2, h3⟩ := hv.tup sr1 hd; exact key a vs ev (.inr h1.sq) h2 h3
    | _ => rw [hd] at e2; cases e2
/-- sorted(set(e)), e a list of ints -/
theorem pd_sortset {p p2 q : Pos} (hc : X.calm = true) (hg : Gl X "sorted") (hm : X.mg "sorted" = none) (hg2 : Gl X "set") (hm2 : X.mg "set" = none) (ha : PE X a (tE X.K Γ con ca)) (hs : starEach [a] X.env = (false, eval a X.env) :: starEach [] X.env)
    (hs2 : starEach [.Call (.Name "set" p2) [a] [] q] X.env = (false, eval (.Call (.Name "set" p2) [a] [] q) X.env) :: starEach [] X.env) : PE X (.Call (.Name "sorted" p) [.Call (.Name "set" p2) [a] [] q] [] pos) (tE X.K Γ con (.bi .sortset [ca])) :=
  (pe_callB (cr_sortedSet hc) hg hm (by decide +kernel) (pa_cons (pe_callTy (cr_setL hc) hg2 hm2 (by decide +kernel) (pa_cons ha pa_nil hs) (by decide) (by decide) hs) pa_nil hs2) (by decide) (by decide) hs2).impD fun σ H Q ⟨as, env, st, d, st', er, sr, e, q⟩ => by
    simp only [evE, evEs] at e
    obtain ⟨⟨ds, st1⟩, e1, e⟩ := Res.bind_ok e
    obtain ⟨⟨x, st2⟩, e1', e1⟩ := Res.bind_ok e1
    have hst : st2 = st1 := by cases e1; rfl
    have hds : ds = [x] := by cases e1; rfl
    rw [hds] at e
    rw [hst] at e1'
    obtain ⟨d', e2, e3⟩ := Res.bind_ok e
    have hd' : d' = d := by cases e3; rfl
    have hst' : st1 = st' := by cases e3; rfl
    rw [hst'] at e1' e2
    rw [hd'] at e2
    refine ⟨as, env, st, x, _, er, sr, e1', fun v H1 as1 s1 sr1 hv => ?_⟩
    rw [List.map_cons, List.map_nil] at e2
    cases hd : snap st' x with
    | lst ds =>
      rw [hd] at e2
      obtain ⟨bs, e4, e5⟩ := Res.bind_ok (show (Res.of (intsD ds)).bind (fun bs => if bs.length < 60 then Res.ok (D.lst ((sortI bs).map .int)) else .bad) = .ok d from e2)
      split at e5
      · rename_i hl
        cases e5
        cases hb : intsD ds with
        | none => rw [hb] at e4; cases e4
        | some bs' =>
          rw [hb] at e4; cases e4
          obtain ⟨a, vs, rfl, h1, h2, h3⟩ := hv.lst sr1 hd
          have ev := h3.ints hb
          subst ev
          refine ⟨a, bs, rfl, .inl (.inl h1), by omega, fun p c np hc' => ⟨p, _, c, rfl, upd_same, by omega, fun ns l hs hm hn nl => ?_⟩⟩
          have en : ns = sortI bs := sortedI_uniq hs (sortI_sorted bs) fun z => by rw [hm z, decide_eq_true_eq, sortI_mem]
          subst en
          have sm1 : Same H1 (upd H1 p (SetO X.w p (fun j => decide (j ∈ bs)) c)) := same_new np
          have sm2 : Same (upd H1 p (SetO X.w p (fun j => decide (j ∈ bs)) c)) (upd (upd H1 p (SetO X.w p (fun j => decide (j ∈ bs)) c)) l (.lst ((sortI bs).map V.int))) := same_new nl
          have sr2 := sr1.same sm1
          exact q _ _ as1 (s1.trans ((Step.same sm1).trans (Step.same sm2))) (sr2.same sm2) (new_lst sr2 nl (by rw [List.length_map, hn, sizeLine_eq]; omega) (DReps.ofInts _)).toV
      · cases e5
    | _ => rw [hd] at e2; cases e2
end
end En

set_option Elab.async false
set_option linter.all false
set_option maxRecDepth 100000
set_option maxHeartbeats 1000000
namespace En
open PySem PySem.Spec PyProof.Rows L2
section
variable {K : PySem.W.Frag} {as : Ads} {H : Hp} {st : Sto} {v : V} {x : D}
theorem getLst_ok {i : Nat} {ds : List D} (h : getLst st x = .ok (i, ds)) : x = .mref i ∧ st[i]? = some (.lst ds) := by
  cases x with
  | mref j =>
    simp only [getLst] at h
    split at h
    · rename_i q; cases h; exact ⟨rfl, q⟩
    · cases h
  | _ => cases h
theorem getLst_at {i : Nat} {ds : List D} (r : SRel K as st H) (hv : VRep K as H v x) (h : getLst st x = .ok (i, ds)) : ∃ a vs, v = .ref a ∧ as.c[i]? = some (some a) ∧ H a = some (.lst vs) ∧ vs.length ≤ sizeLine ∧ DReps K as H vs ds := by
  obtain ⟨rfl, q⟩ := getLst_ok h
  obtain ⟨a, vs, e1, e2⟩ := r.lst q
  exact ⟨a, vs, hv.2 a e1, e1, e2⟩
end
section
variable {X : Cx} {Γ : Fns} {con : Nat → Option D} {o a b : Expr} {es : List Expr} {co ca cb : CE} {cs : List CE} {pos apos : Pos}
theorem pd_append (ho : PE X o (tE X.K Γ con co)) (ha : PE X a (tE X.K Γ con ca)) (hbase : attributeBase o "append" X.env (eval o X.env) = eval o X.env) (hline : (apos.endLine == pos.line) = true) (hs : starEach [a] X.env = (false, eval a X.env) :: starEach [] X.env) :
    PE X (.Call (.Attribute o "append" apos) [a] [] pos) (tE X.K Γ con (.append co ca)) :=
  (pe_bm PySem.F.plainAttrs_list PySem.F.slot_list_append PySem.F.type_list_append mt_append ho (pa_cons ha pa_nil hs) hbase (by rw [hs]; rfl) hline hs rfl).impD fun σ H Q ⟨as, env, st, d, st', er, sr, e, q⟩ => by
    simp only [evE] at e
    obtain ⟨⟨x, st1⟩, e1, e⟩ := Res.bind_ok e
    obtain ⟨⟨i0, ds0⟩, e2, e⟩ := Res.bind_ok e
    obtain ⟨⟨y, st2⟩, e3, e⟩ := Res.bind_ok e
    obtain ⟨⟨i, ds⟩, e4, e⟩ := Res.bind_ok e
    simp only at e
    split at e
    · cases e
    · rename_i hz
      simp only [Bool.or_eq_true, decide_eq_true_eq, not_or, Bool.not_eq_true] at hz
      cases e
      refine ⟨as, env, st, x, st1, er, sr, e1, fun v H1 as1 s1 sr1 hv => ?_⟩
      obtain ⟨a0, vs0, ev, g1, g2, g3, g4⟩ := getLst_at sr1 hv e2
      refine ⟨by rw [ev]; exact .inl ⟨rfl, vs0, .inl (.inl g2)⟩, as1, env, st1, y, st2, er.step s1, sr1, e3, fun u H2 as2 s2 sr2 hu => ?_⟩
      obtain ⟨a1, vs, ev1, k1, k2, k3, k4⟩ := getLst_at sr2 (hv.step s2) e4
      have hl : vs.length < sizeLine := by rw [k4.length, ← LIM_eq]; omega
      refine ⟨a1, vs, u, ev1, rfl, k2, hl, ?_⟩
      have hu' := VRep.dr hu
      have hyc : y.clean = true := by simpa using hz.1
      have hdc : D.cleans ds = true := sr2.cl i _ (getLst_ok e4).2
      obtain ⟨s3, sr3⟩ := sr2.write (i := i) (o := .lst (ds ++ [y])) (u := .lst (vs ++ [u])) (cleans_app hdc (by simp [D.cleans, hyc])) k1 fun s0 => ⟨_, upd_same, by simp; omega, DReps.step s0 _ _ (k4.append (.cons hu' .nil))⟩
      exact q _ _ as2 ((s1.trans s2).trans s3) sr3 DRep.non.toV
theorem pd_extend (ho : PE X o (tE X.K Γ con co)) (ha : PE X a (tE X.K Γ con ca)) (hbase : attributeBase o "extend" X.env (eval o X.env) = eval o X.env) (hline : (apos.endLine == pos.line) = true) (hs : starEach [a] X.env = (false, eval a X.env) :: starEach [] X.env) :
    PE X (.Call (.Attribute o "extend" apos) [a] [] pos) (tE X.K Γ con (.extend co ca)) :=
  (pe_bm PySem.F.plainAttrs_list PySem.F.slot_list_extend PySem.F.type_list_extend mt_extend ho (pa_cons ha pa_nil hs) hbase (by rw [hs]; rfl) hline hs rfl).impD fun σ H Q ⟨as, env, st, d, st', er, sr, e, q⟩ => by
    simp only [evE] at e
    obtain ⟨⟨x, st1⟩, e1, e⟩ := Res.bind_ok e
    obtain ⟨⟨i0, ds0⟩, e2, e⟩ := Res.bind_ok e
    obtain ⟨⟨y, st2⟩, e3, e⟩ := Res.bind_ok e
    obtain ⟨⟨i, ds⟩, e4, e⟩ := Res.bind_ok e
    simp only at e
    split at e
    · rename_i ys hy
      split at e
      · cases e
      · rename_i hz
        simp only [Bool.or_eq_true, decide_eq_true_eq, not_or, Bool.not_eq_true] at hz
        cases e
        refine ⟨as, env, st, x, st1, er, sr, e1, fun v H1 as1 s1 sr1 hv => ?_⟩
        obtain ⟨a0, vs0, ev, g1, g2, g3, g4⟩ := getLst_at sr1 hv e2
        refine ⟨by rw [ev]; exact .inl ⟨rfl, vs0, .inl (.inl g2)⟩, as1, env, st1, y, st2, er.step s1, sr1, e3, fun u H2 as2 s2 sr2 hu => ?_⟩
        obtain ⟨a1, vs, ev1, k1, k2, k3, k4⟩ := getLst_at sr2 (hv.step s2) e4
        obtain ⟨b1, us, ev2, m2, m3, m4⟩ := hu.lst sr2 hy
        have hl : vs.length + us.length ≤ sizeLine := by rw [k4.length, m4.length, ← LIM_eq]; omega
        refine ⟨a1, b1, vs, us, ev1, by rw [ev2], k2, m2, hl, ?_⟩
        obtain ⟨s3, sr3⟩ := sr2.write (i := i) (o := .lst (ds ++ ys)) (u := .lst (vs ++ us)) (cleans_app (sr2.cl i _ (getLst_ok e4).2) (by simpa using hz.1)) k1 fun s0 => ⟨_, upd_same, by simp; omega, DReps.step s0 _ _ (k4.append m4)⟩
        exact q _ _ as2 ((s1.trans s2).trans s3) sr3 DRep.non.toV
    · cases e
theorem pd_pop (ho : PE X o (tE X.K Γ con co)) (hbase : attributeBase o "pop" X.env (eval o X.env) = eval o X.env) (hline : (apos.endLine == pos.line) = true) :
    PE X (.Call (.Attribute o "pop" apos) [] [] pos) (tE X.K Γ con (.pop co)) :=
  (pe_bm0 PySem.F.plainAttrs_list PySem.F.slot_list_pop PySem.F.type_list_pop mt_pop ho hbase hline).impD fun σ H Q ⟨as, env, st, d, st', er, sr, e, q⟩ => by
    simp only [evE] at e
    obtain ⟨⟨x, st1⟩, e1, e⟩ := Res.bind_ok e
    obtain ⟨⟨i, ds⟩, e2, e⟩ := Res.bind_ok e
    simp only at e
    split at e
    · rename_i d' hd
      cases e
      refine ⟨as, env, st, x, st1, er, sr, e1, fun v H1 as1 s1 sr1 hv => ?_⟩
      obtain ⟨a1, vs, ev, k1, k2, k3, k4⟩ := getLst_at sr1 hv e2
      have hg : ds[ds.length - 1]? = some d := by rw [← List.getLast?_eq_getElem?]; exact hd
      obtain ⟨w, hw1, hw2⟩ := k4.get hg
      refine ⟨by rw [ev]; exact .inl ⟨rfl, vs, .inl (.inl k2)⟩, a1, vs, w, ev, rfl, k2, by rw [k4.length]; exact hw1, ?_⟩
      obtain ⟨s3, sr3⟩ := sr1.write (i := i) (o := .lst ds.dropLast) (u := .lst vs.dropLast) (cleans_sub (fun d hd => List.dropLast_subset _ hd) (sr1.cl i _ (getLst_ok e2).2)) k1 fun s0 => ⟨_, upd_same, by simp; omega, DReps.step s0 _ _ (by
        rw [List.dropLast_eq_take, List.dropLast_eq_take, k4.length]; exact k4.take _)⟩
      exact q _ _ as1 (s1.trans s3) sr3 (DRep.step s3 _ _ hw2).toV
    · cases e
theorem pd_popAt (ho : PE X o (tE X.K Γ con co)) (ha : PE X a (tE X.K Γ con ca)) (hbase : attributeBase o "pop" X.env (eval o X.env) = eval o X.env) (hline : (apos.endLine == pos.line) = true) (hs : starEach [a] X.env = (false, eval a X.env) :: starEach [] X.env) :
    PE X (.Call (.Attribute o "pop" apos) [a] [] pos) (tE X.K Γ con (.popAt co ca)) :=
  (pe_bm PySem.F.plainAttrs_list PySem.F.slot_list_pop PySem.F.type_list_pop mt_popAt ho (pa_cons ha pa_nil hs) hbase (by rw [hs]; rfl) hline hs rfl).impD fun σ H Q ⟨as, env, st, d, st', er, sr, e, q⟩ => by
    simp only [evE] at e
    obtain ⟨⟨x, st1⟩, e1, e⟩ := Res.bind_ok e
    obtain ⟨⟨i0, ds0⟩, e2, e⟩ := Res.bind_ok e
    obtain ⟨⟨y, st2⟩, e3, e⟩ := Res.bind_ok e
    obtain ⟨⟨i, ds⟩, e4, e⟩ := Res.bind_ok e
    simp only at e
    split at e
    · rename_i k hk
      split at e
      · rename_i h0
        split at e
        · rename_i d' hd
          cases e
          refine ⟨as, env, st, x, st1, er, sr, e1, fun v H1 as1 s1 sr1 hv => ?_⟩
          obtain ⟨a0, vs0, ev, g1, g2, g3, g4⟩ := getLst_at sr1 hv e2
          refine ⟨by rw [ev]; exact .inl ⟨rfl, vs0, .inl (.inl g2)⟩, as1, env, st1, _, st2, er.step s1, sr1, e3, fun u H2 as2 s2 sr2 hu => ?_⟩
          obtain ⟨a1, vs, ev1, k1, k2, k3, k4⟩ := getLst_at sr2 (hv.step s2) e4
          cases hu
          obtain ⟨w, hw1, hw2⟩ := k4.get hd
          have hlt : k.toNat < vs.length := by
            by_cases hl : k.toNat < vs.length
            · exact hl
            · rw [List.getElem?_eq_none (by simpa using hl)] at hw1; cases hw1
          have hz := sizeLine_eq
          refine ⟨a1, vs, k, k.toNat, w, ev1, rfl, k2, by omega, by omega, seqIndex_of h0 (by omega), hw1, ?_⟩
          obtain ⟨s3, sr3⟩ := sr2.write (i := i) (o := .lst (ds.eraseIdx k.toNat)) (u := .lst (vs.eraseIdx k.toNat)) (cleans_sub (fun d hd => List.mem_of_mem_eraseIdx hd) (sr2.cl i _ (getLst_ok e4).2)) k1 fun s0 => ⟨_, upd_same, by have := List.length_eraseIdx_le vs k.toNat; omega, DReps.step s0 _ _ (k4.eraseIdx _)⟩
          exact q _ _ as2 ((s1.trans s2).trans s3) sr3 (DRep.step s3 _ _ hw2).toV
        · cases e
      · cases e
    · cases e
theorem pd_dnew : PE X (.Dict [] [] pos) (tE X.K Γ con .dnew) :=
  pe_dnewK.impD fun σ H Q ⟨as, env, st, d, st', er, sr, e, q⟩ p hp => by
    simp only [evE] at e
    cases e
    obtain ⟨s2, sr2, hv2⟩ := sr.alloc (o := .dic []) (u := .dK []) rfl hp fun as' s => ⟨[], upd_same, Nat.zero_le _, .nil⟩
    exact q _ _ _ s2 sr2 hv2
theorem pd_dget1 (hu : X.A.units + 1 < cLine) (ho : PE X o (tE X.K Γ con co)) (ha : PE X a (tE X.K Γ con ca)) (m : M1 X o "get" apos a pos) : PE X (.Call (.Attribute o "get" apos) [a] [] pos) (tE X.K Γ con (.dget co ca none)) :=
  (pe_dget1 hu ho ha m).impD fun σ H Q ⟨as, env, st, d, st', er, sr, e, q⟩ => by
    simp only [evE, evO] at e
    obtain ⟨⟨od, st1⟩, e1, e⟩ := Res.bind_ok e
    obtain ⟨kvs0, e2, e⟩ := Res.bind_ok e
    obtain ⟨⟨kd, st2⟩, e3, e⟩ := Res.bind_ok e
    simp only [Res.ok_bind] at e
    split at e
    · rename_i kvs k hk1 hk2
      cases e
      have h0 : snap st1 od = .dic kvs0 := by
        cases hq : snap st1 od <;> simp only [hq, asDic] at e2 <;> first | (cases e2; rfl) | cases e2
      refine ⟨as, env, st, od, st1, er, sr, e1, fun v H1 as1 s1 sr1 hv => ?_⟩
      obtain ⟨a1, vs, ev, g1, _⟩ := hv.dic sr1 h0
      refine ⟨a1, ev, .inl ⟨vs, g1⟩, as1, env, st1, kd, _, er.step s1, sr1, e3, fun u H2 as2 s2 sr2 hu2 => ?_⟩
      obtain ⟨a2, o2, ev2, k1, k2, k3⟩ := m_dget (X := X) (pins := []) (s := X.s_0) (σ := σ) (hv.step s2) hu2 sr2 hk1 hk2
      have ea : a1 = a2 := by rw [ev] at ev2; cases ev2; rfl
      subst ea
      refine ⟨o2, k2, ?_⟩
      rcases k3 with ⟨d', w, j1, rfl, j2⟩ | ⟨j1, rfl⟩
      · rw [j1] at q
        exact q _ _ as2 (s1.trans s2) sr2 j2.toV
      · rw [j1] at q
        exact q _ _ as2 (s1.trans s2) sr2 DRep.non.toV
    · cases e
theorem pd_dget2 {f : Expr} {cf : CE} (hu : X.A.units + 1 < cLine) (ho : PE X o (tE X.K Γ con co)) (ha : PE X a (tE X.K Γ con ca)) (hf : PE X f (tE X.K Γ con cf)) (m : M2 X o "get" apos a f pos) : PE X (.Call (.Attribute o "get" apos) [a, f] [] pos) (tE X.K Γ con (.dget co ca (some cf))) :=
  (pe_dget2 hu ho ha hf m).impD fun σ H Q ⟨as, env, st, d, st', er, sr, e, q⟩ => by
    simp only [evE, evO] at e
    obtain ⟨⟨od, st1⟩, e1, e⟩ := Res.bind_ok e
    obtain ⟨kvs0, e2, e⟩ := Res.bind_ok e
    obtain ⟨⟨kd, st2⟩, e3, e⟩ := Res.bind_ok e
    obtain ⟨⟨fo, st3⟩, e4, e⟩ := Res.bind_ok e
    obtain ⟨⟨fd, st4⟩, e5, e6⟩ := Res.bind_ok e4
    cases e6
    simp only at e
    split at e
    · rename_i kvs k hk1 hk2
      cases e
      have h0 : snap st1 od = .dic kvs0 := by
        cases hq : snap st1 od <;> simp only [hq, asDic] at e2 <;> first | (cases e2; rfl) | cases e2
      refine ⟨as, env, st, od, st1, er, sr, e1, fun v H1 as1 s1 sr1 hv => ?_⟩
      obtain ⟨a1, vs, ev, g1, _⟩ := hv.dic sr1 h0
      refine ⟨a1, ev, .inl ⟨vs, g1⟩, as1, env, st1, kd, _, er.step s1, sr1, e3, fun u H2 as2 s2 sr2 hu2 => ⟨as2, env, _, fd, _, (er.step s1).step s2, sr2, e5, fun z H3 as3 s3 sr3 hz => ?_⟩⟩
      obtain ⟨a2, o2, ev2, k1, k2, k3⟩ := m_dget (X := X) (pins := []) (s := X.s_0) (σ := σ) ((hv.step s2).step s3) (hu2.step s3) sr3 hk1 hk2
      have ea : a1 = a2 := by rw [ev] at ev2; cases ev2; rfl
      subst ea
      refine ⟨o2, k2, ?_⟩
      rcases k3 with ⟨d', w, j1, rfl, j2⟩ | ⟨j1, rfl⟩
      · rw [j1] at q
        exact q _ _ as3 ((s1.trans s2).trans s3) sr3 j2.toV
      · rw [j1] at q
        exact q _ _ as3 ((s1.trans s2).trans s3) sr3 hz
    · cases e
end
end En

set_option Elab.async false
set_option linter.all false
set_option maxRecDepth 100000
set_option maxHeartbeats 1000000
namespace En
open PySem PySem.Spec PyProof.Rows L2
section
open AutoSeq1 (wpAny_loadPart')
theorem meets_enum_tup (l : Addr) (items : Array Value) (n : Nat) (dct : Option Addr) (sl : Array (Option Value)) :
    Meets (Builtin.«enumerate.__new__» ⟨[.type "enumerate", .ref l], []⟩) (fun _ R s => s.heap.get? l = some { cls := .type "tuple", dict := dct, data := .seq items n, slots := sl } ∧
      R (.ok (.ret (.ref (s.heap.push { cls := .type "tuple_iterator", data := .fields #[.ref l, .int 0 0] }).objs.size)))
        { s with heap := (s.heap.push { cls := .type "tuple_iterator", data := .fields #[.ref l, .int 0 0] }).push { cls := .type "enumerate", data := .fields #[.none, .bool false, .ref s.heap.objs.size, rawInt 0, .none, .none] } }) :=
  .of_wp fun prog w A R s h => by
    obtain ⟨hp, g, d, tk, os⟩ := s
    obtain ⟨hl, h⟩ := h
    have hsub := sub_enumerate
    have hT : Heap.IsTuple (Shared.heap ⟨hp, g, d, tk, os⟩) l items := ⟨_, hl, rfl, n, rfl⟩
    wp_walk using wpAny_loadPart' hl
    refine wpAny_stack_any fun st => wpAny_pure ?_
    split
    · rename_i c _ _ _ _ _
      cases (c == Value.type "enumerate")
      · wp_walk using wpAny_loadPart' hl, wpAny_pyIter_tuple hT
        exact ⟨_, rfl, h⟩
      · wp_walk using wpAny_loadPart' hl, wpAny_pyIter_tuple hT
        exact ⟨_, rfl, h⟩
    · wp_walk using wpAny_loadPart' hl, wpAny_pyIter_tuple hT
      exact ⟨_, rfl, h⟩
variable {prog : Program} {w : World} {A : Around} {E : Value → Shared → Prop} {s : Shared}
theorem call_enum_tup {l : Addr} {items : Array Value} {Q : Value → Shared → Prop} (hL : IsTup s.heap l items)
    (h : ∀ h', IsEnum h' (s.heap.objs.size + 1) s.heap.objs.size 0 .none → h'.IsTupleIter s.heap.objs.size l 0 → (∀ b o, s.heap.get? b = some o → h'.get? b = some o) → Q (.ref (s.heap.objs.size + 1)) { s with heap := h' }) :
    wpAny (model prog w) A (call (.type "enumerate") [.ref l]) Q E s := by
  obtain ⟨⟨c, dct, dt, sl⟩, hl, hc, n, hd⟩ := hL
  simp only at hc hd
  subst hc hd
  refine callType_new F.called_enumerate (by decide) (F.typeCall_enumerate_1 _) (F.newCall_enumerate_1 _) (fun obj => F.args_object_init_2 obj _) F.entry_enumerate_new (meets_enum_tup l items n dct sl) ⟨hl, ?_⟩
  have hz : (s.heap.push { cls := .type "tuple_iterator", data := .fields #[.ref l, .int 0 0] }).objs.size = s.heap.objs.size + 1 := Heap.size_push ..
  show _ ∧ _
  rw [hz]
  have he : IsEnum ((s.heap.push { cls := .type "tuple_iterator", data := .fields #[.ref l, .int 0 0] }).push { cls := .type "enumerate", data := .fields #[.none, .bool false, .ref s.heap.objs.size, rawInt 0, .none, .none] }) (s.heap.objs.size + 1) s.heap.objs.size 0 .none := by
    have := Heap.get?_push_size (s.heap.push { cls := .type "tuple_iterator", data := .fields #[.ref l, .int 0 0] }) (o := { cls := .type "enumerate", data := .fields #[.none, .bool false, .ref s.heap.objs.size, rawInt 0, .none, .none] }) rfl
    rw [hz] at this
    exact this
  exact ⟨⟨_, he, rfl⟩, h _ he ⟨_, Heap.get?_push_of_some _ (Heap.get?_push_size _ rfl), rfl, rfl⟩ fun b o x => Heap.get?_push_of_some _ (Heap.get?_push_of_some _ x)⟩
end
/-- the tuple at a, each item in a new pair -/
def IteT (K : PySem.W.Frag) (a : Addr) : It :=
  ⟨fun i H => ∃ (xs : List V) (x : V), SqT K H a xs ∧ xs[i]? = some x, fun i H v H' => ∃ T x, v = .ref T ∧ H T = none ∧ H' = upd H T (.tup [.int (i : Nat), x]) ∧ ∀ xs, SqT K H a xs → xs[i]? = some x, fun i H => ∃ xs : List V, SqT K H a xs ∧ xs.length ≤ i⟩
theorem turn_enumT {P : Program} {w : World} {K : PySem.W.Frag} {elts : List Expr} {kk : Nat} {tpos : Pos} (a e it : Addr) :
    Turn P w K (.Tuple elts kk tpos) (IteT K a) [e, it] e (fun i h => (∃ old, IsEnum h e it ((i : Nat) : Int) old) ∧ h.IsTupleIter it a i ∧ e ≠ it) where
  mem := by simp
  obj := fun i h st b hb => by
    obtain ⟨⟨old, he⟩, ⟨o, ho, hc, hd⟩, _⟩ := st
    have e' : b = e ∨ b = it := by simpa using hb
    rcases e' with z | z
    · rw [z]; exact ⟨_, he, fun v q => nomatch q⟩
    · rw [z]; exact ⟨o, ho, fun v q => by rw [hd] at q; cases q⟩
  keep := fun i h h' st k => let ⟨⟨old, he⟩, hi, hne⟩ := st; ⟨⟨old, k e (by simp) _ he⟩, hi.at fun o q => k it (by simp) o q, hne⟩
  item := by
    intro X hP hw hK hc i pins s σ H E I hf st hg
    subst hP hw hK
    obtain ⟨⟨old, he⟩, hit, hne⟩ := st
    obtain ⟨xs, x, hq, hx⟩ := hg
    obtain ⟨its, rv, p, hz⟩ := I.tuple hq
    obtain ⟨u, hu, ru⟩ := rv.get hx
    have hel : e < s.heap.objs.size := Heap.lt_size he
    have hil : it < s.heap.objs.size := by obtain ⟨_, q, _⟩ := hit; exact Heap.lt_size q
    obtain ⟨op, hop, hcp, _⟩ := id p
    have hai : a ≠ it := fun z => by
      obtain ⟨o2, q2, c2, _⟩ := hit
      rw [z, q2] at hop; cases hop; rw [c2] at hcp; exact absurd (Value.type.inj hcp) (by decide)
    have hae : e ≠ a := fun z => by
      rw [← z] at hop
      have := he.symm.trans hop
      cases this
      exact absurd (Value.type.inj hcp) (by decide)
    have hlt : i < its.toArray.size := by
      by_cases hl : i < its.length
      · simpa using hl
      · rw [List.getElem?_eq_none (by simpa using hl)] at hu; cases hu
    refine wpAny_pyNext_enum_itemD (Draws.tuple (A := X.A.in1) (I.ok.hd hc) it a hai its.toArray) he ⟨hit, p⟩ hlt hne (by simp [hne, hae]) fun x' h' tk px ho hst hT hsz hk => ?_
    have ex : x' = u := by
      have : its.toArray[i]? = some x' := px
      rw [show its.toArray[i]? = its[i]? by simp] at this
      exact Option.some.inj (this.symm.trans hu)
    subst ex
    refine ⟨_, rfl, wpAny_letOwnedTupleGo_enum (s := { s with heap := h', toks := tk + 1 }) ho fun h'' he' sb => ?_⟩
    have hT2 : h''.get? s.heap.objs.size = some { cls := .type "tuple", data := .seq #[.int i tk, x'] } := (sb.2 _ (Nat.ne_of_gt hel)).trans hT
    have new : ObjOk X.prog X.w (upd H s.heap.objs.size (.tup [.int (i : Nat), x])) h'' s.heap.objs.size (.tup [.int (i : Nat), x]) :=
      ⟨by show 2 ≤ sizeLine; decide, [.int i tk, x'], .cons ⟨_, rfl⟩ (.cons ru .nil), ⟨_, hT2, rfl, _, rfl⟩⟩
    have I1 : Inv X pins σ (upd H s.heap.objs.size (.tup [.int (i : Nat), x])) { s with heap := h'', toks := tk + 1 } :=
      I.turnedNew (ch := [e, it]) (fun b ob hb q => (sb.2 b (fun z => hb (by simp [z]))).trans (hk b ob (fun z => hb (by simp [z])) (fun z => hb (by simp [z])) q)) hf (Nat.le_refl _) new
    refine ⟨.ref s.heap.objs.size, _, I1, rfl, ⟨_, x, rfl, I.hok.fresh (Nat.le_refl _), rfl, fun ys hy => by rw [I.tuple_inj hy hq]; exact hx⟩, ⟨⟨x', ?_⟩, hst.1.at fun o q => (sb.2 it (Ne.symm hne)).trans q, hne⟩, fun b hb => ?_⟩
    · have e1 : ((i + 1 : Nat) : Int) = (i : Int) + 1 := by omega
      rw [e1]; exact he'
    · have hb' : b < s.heap.objs.size := by
        have e' : b = e ∨ b = it := by simpa using hb
        rcases e' with z | z
        · rw [z]; exact hel
        · rw [z]; exact hil
      rw [upd_ne (Nat.ne_of_lt hb')]
      exact (hf b hb).1
  done := by
    intro X hP hw hK hc i pins s σ H E I hf st hg
    subst hP hw hK
    obtain ⟨⟨old, he⟩, hit, hne⟩ := st
    obtain ⟨xs, hq, hx⟩ := hg
    obtain ⟨its, rv, p, hz⟩ := I.tuple hq
    obtain ⟨f0, f1, f2, f3, f4, f5⟩ := hf it (by simp)
    obtain ⟨op, hop, hcp, _⟩ := id p
    have hai : a ≠ it := fun z => by
      obtain ⟨o2, q2, c2, _⟩ := hit
      rw [z, q2] at hop; cases hop; rw [c2] at hcp; exact absurd (Value.type.inj hcp) (by decide)
    have hl := rv.length
    have hT : s.TypeIs (.ref e) "enumerate" := ⟨_, he, rfl⟩
    unfold pyNext
    refine wpAny_bind (wpAny_attempt (wpAny_callSpecial?_slot (name := Str.ofString "__next__") hT F.slot_enumerate_next (wpAny_call_entry F.slot_enumerate_next hT F.entry_enumerate_next ?_ (F.args_enumerate_next_1 _))))
    show wpAny _ _ (field (.ref e) 2 >>= _) _ _ _
    refine wpAny_bind (wpAny_field he rfl (x := .ref it) rfl ?_)
    refine wpAny_bind (wpAny_nextOf_tuple_end (A := X.A.in1) (I.ok.hd hc) hit (show s.heap.IsTuple a its.toArray from p) (by simp; omega) fun h' x he' hx' => ?_)
    obtain ⟨o, ho, hc'⟩ := hx'
    refine wpAny_bind (wpAny_isInstance (T := "StopIteration") (b := true) ⟨o, ho, hc'⟩ isSubtype_stop ?_)
    exact wpAny_pure ⟨rfl, I.turned (t' := s.toks) (fun b o hb q => he' b o hb q) f0 f1 f3 f4 f5⟩
  self := fun A i s Q E st h => let ⟨⟨_, he⟩, _⟩ := st; wpAny_pyIter_enum he h
def iEnumT (K : PySem.W.Frag) (ta : TA) : TI := fun σ H R => ta σ H fun vs H1 => ∃ a xs, vs = [.ref a] ∧ SqT K H1 a xs ∧ R (IteT K a) H1
theorem pi_enumT {X : Cx} {e : Expr} {ta : TA} {p pos tpos : Pos} {elts : List Expr} {kk : Nat} (hg : Gl X "enumerate") (hm : X.mg "enumerate" = none) (ha : PA X [e] ta) (hs : starEach [e] X.env = [(false, eval e X.env)]) :
    PI X (.Tuple elts kk tpos) (.Call (.Name "enumerate" p) [e] [] pos) (iEnumT X.K ta) := by
  refine ⟨fun pins s σ H R I h => ?_⟩
  refine Call_ (ld_blt I hg hm boot_enumerate (PyProof.Rows.callWith_type1 (thn (ha.run pos pins s σ H _ I h) fun us s1 ⟨vs, H1, I1, r1, q1⟩ => ?_) hs rfl))
  obtain ⟨a, xs, ex, hq, q⟩ := q1
  subst ex
  cases r1 with
  | cons r rr =>
    cases rr
    cases r
    obtain ⟨its, rv, p', hz⟩ := I1.tuple hq
    refine call_enum_tup p' fun h' he hit hk => wpAny_pyIter_enum he ?_
    have I2 : Inv X pins σ H1 { s1 with heap := h' } := I1.kept (t' := s1.toks) hk
    refine ⟨s1.heap.objs.size + 1, [s1.heap.objs.size + 1, s1.heap.objs.size], _, _, H1, rfl, I2, turn_enumT a (s1.heap.objs.size + 1) s1.heap.objs.size, ⟨⟨.none, he⟩, hit, Nat.succ_ne_self _⟩, fun b hb => ?_, q⟩
    have e' : b = s1.heap.objs.size + 1 ∨ b = s1.heap.objs.size := by simpa using hb
    have hle : s1.heap.objs.size ≤ b := by
      rcases e' with z | z
      · rw [z]; exact Nat.le_add_right _ _
      · rw [z]; exact Nat.le_refl _
    exact I1.fpOk hle (I1.hok.fresh hle)

section
variable {prog : Program} {w : World} {A : Around} {E : Value → Shared → Prop} {s : Shared}
theorem fm_congr {α β : Type} {f g : α → Option β} : ∀ {l : List α}, (∀ k ∈ l, f k = g k) → l.filterMap f = l.filterMap g
  | [], _ => rfl
  | x :: l, h => by
    rw [List.filterMap_cons, List.filterMap_cons, h x List.mem_cons_self, fm_congr fun k hk => h k (List.mem_cons_of_mem _ hk)]
theorem pick_back (xs : Array Value) : ((List.range xs.size).filterMap fun (k : Nat) => xs[((xs.size : Int) - 1 + (k : Int) * (-1)).toNat]?) = xs.toList.reverse := by
  have e : ∀ k ∈ List.range xs.size, xs[((xs.size : Int) - 1 + (k : Int) * (-1)).toNat]? = xs.toList.reverse[k]? := fun k hk => by
    have hk' := List.mem_range.mp hk
    have e1 : ((xs.size : Int) - 1 + (k : Int) * (-1)).toNat = xs.size - 1 - k := by omega
    rw [e1, List.getElem?_reverse (by simpa using hk'), Array.getElem?_toList]
    simp
  rw [fm_congr e]
  have h2 : ∀ (l : List Value), (List.range l.length).filterMap (fun k => l[k]?) = l := by
    intro l
    have h := PySem.W.krv_all l.toArray
    simpa using h
  have := h2 xs.toList.reverse
  rw [List.length_reverse, Array.length_toList] at this
  exact this
theorem getItem_tup_back {t sl : Addr} {items : Array Value} {u : Tok} {Q : Value → Shared → Prop} (ht : IsTup s.heap t items) (hs : s.heap.IsSliceOf sl .none .none (.int (-1) u))
    (h : Q (.ref s.heap.objs.size) { s with heap := s.heap.push { cls := .type "tuple", data := .seq items.toList.reverse.toArray } }) (hsz : items.size ≤ sizeLine) : wpAny (model prog w) A (getItem (.ref t) (.ref sl)) Q E s := by
  have htake : sizeOk (.seq items.toList.reverse.toArray) := by
    show items.toList.reverse.toArray.size ≤ sizeLine
    simpa using hsz
  obtain ⟨os, hos, hcs, hds⟩ := id hs
  have hTs : s.TypeIs (.ref sl) "slice" := ⟨os, hos, hcs⟩
  unfold getItem
  try with_reducible refine wpAny_holding ?_
  first | refine wpAny_bind (wpAny_pure ?_) | skip
  refine wpAny_bind (wpAny_sequenceKey ht.typeIs (by decide) ?_)
  refine wpAny_bind (wpAny_callSpecial?_slot (name := Str.ofString "__getitem__") ht.typeIs PyProof.Rows.slot_tuple_getitem (wpAny_call_entry PyProof.Rows.slot_tuple_getitem ht.typeIs entry_tuple_getitem ?_ (args_tuple_getitem _ _)))
  show wpAny _ _ (Builtin.Tuple.tupleItemsOf (.ref t) >>= _) _ _ s
  refine wpAny_bind (tupleItemsOf_ ht ?_)
  refine wpAny_bind (wpAny_typeOf hTs ?_)
  rw [if_pos (by decide)]
  have app : wpAny (model prog w) A.in1 (Builtin.Slice.sliceApplied (.ref sl) (pure (items.size : Int))) (fun r s' => r = ((items.size : Int) - 1, -1, items.size) ∧ s' = s) E s := by
    unfold Builtin.Slice.sliceApplied Builtin.Slice.sliceFields
    refine wpAny_bind (wpAny_bind (wpAny_field hos hds (x := .none) rfl (wpAny_bind (wpAny_field hos hds (x := .none) rfl (wpAny_bind (wpAny_field hos hds (x := .int (-1) u) rfl (wpAny_pure ?_)))))))
    refine wpAny_bind (slicePart_int ?_)
    show wpAny _ _ (if ((-1 : Int) == 0) = true then _ else _) _ _ s
    rw [if_neg (by decide)]
    refine wpAny_bind (slicePart_none (wpAny_bind (slicePart_none (wpAny_bind (wpAny_pure ?_)))))
    refine wpAny_pure ⟨?_, rfl⟩
    show (((items.size : Int) - 1, -1, Builtin.Slice.slicePlaces ((items.size : Int) - 1) (-1) (-1)) : Int × Int × Nat) = _
    have : Builtin.Slice.slicePlaces ((items.size : Int) - 1) (-1) (-1) = items.size := by
      unfold Builtin.Slice.slicePlaces
      have h1 : ¬ ((-1 : Int) > 0) := by decide
      simp only [h1, if_false]
      by_cases h2 : (items.size : Int) - 1 > -1
      · rw [if_pos h2, show (- -1 : Int) = 1 by decide, Int.ediv_one]
        omega
      · rw [if_neg h2]
        omega
    rw [this]
  refine wpAny_bind (wpAny_mono app (fun r s' ⟨e1, e2⟩ => ?_) fun _ _ x => x)
  subst e1 e2
  show wpAny _ _ (if (((items.size : Int) - 1 == 0 && (-1 : Int) == 1 && items.size == items.size) = true) then _ else _) _ _ _
  rw [if_neg (by simp)]
  show wpAny _ _ (Builtin.Tuple.tupleExact ((List.range items.size).filterMap fun (k : Nat) => items[((items.size : Int) - 1 + (k : Int) * (-1)).toNat]?).toArray >>= _) _ _ _
  rw [pick_back]
  first
    | exact wpAny_bind (m := Builtin.Tuple.tupleExact _) (wpAny_newObj_type (wpAny_pure ⟨_, rfl, wpAny_pure h⟩) htake)
    | exact wpAny_bind (m := Builtin.Tuple.tupleExact _) (wpAny_newObj_type (wpAny_bind (wpAny_pure (wpAny_pure ⟨_, rfl, wpAny_pure h⟩))) htake)
end
end En

set_option Elab.async false
set_option linter.all false
set_option maxRecDepth 100000
set_option maxHeartbeats 1000000
namespace En
open PySem PySem.Spec PyProof.Rows L2
section
variable {X : Cx} {Γ : Fns} {con : Nat → Option D} {a b : Expr} {es : List Expr} {ca cb : CE} {cs : List CE} {pos : Pos}
theorem pick_cps (z : Str) : (Builtin.Str.strSliceIndices none none (-1) z.length).filterMap (z.cps[·]?) = z.cps.toList.reverse := by
  have h1 : ¬ ((-1 : Int) > 0) := by decide
  have e0 : Builtin.Str.strSliceIndices none none (-1) z.length = (List.range z.cps.size).map fun (k : Nat) => z.cps.size - 1 - k := by
    simp only [Builtin.Str.strSliceIndices, sliceRange, h1, if_false]
    show (List.range (if ((z.cps.size : Int) - 1) > -1 then (((z.cps.size : Int) - 1) - -1 - -1 - 1) / (- -1) else 0).toNat).map _ = _
    have ec : (if ((z.cps.size : Int) - 1) > -1 then (((z.cps.size : Int) - 1) - -1 - -1 - 1) / (- -1) else 0).toNat = z.cps.size := by
      rw [show (- -1 : Int) = 1 by decide, Int.ediv_one]
      split <;> omega
    rw [ec]
    refine List.map_congr_left fun k hk => ?_
    show (((z.cps.size : Int) - 1) + (-1) * (k : Int)).toNat = _
    omega
  rw [e0, List.filterMap_map]
  have e : ∀ k ∈ List.range z.cps.size, ((fun i => z.cps[i]?) ∘ fun (k : Nat) => z.cps.size - 1 - k) k = z.cps.toList.reverse[k]? := fun k hk => by
    have hk' := List.mem_range.mp hk
    show z.cps[z.cps.size - 1 - k]? = _
    rw [List.getElem?_reverse (by simpa using hk'), Array.getElem?_toList]
    simp
  rw [fm_congr e]
  have h2 : ∀ (l : List Nat), (List.range l.length).filterMap (fun k => l[k]?) = l := by
    intro l
    induction l with
    | nil => rfl
    | cons a r ih =>
      rw [List.length_cons, List.range_succ_eq_map, List.filterMap_cons_some (f := fun k => (a :: r)[k]?) (b := a) rfl, List.filterMap_map]
      exact congrArg (a :: ·) ih
  have := h2 z.cps.toList.reverse
  rw [List.length_reverse, Array.length_toList] at this
  exact this
theorem back_made (z : Str) (t : Tok) {l : Option (Int × Tok)} (hl : l.map (·.1) = some (-1)) : sliceMade z t none none l = .str (backS z) := by
  unfold sliceMade slicePicked
  rw [hl]
  show (if ((-1 : Int) == 1 && _) = true then _ else Made.str ⟨((Builtin.Str.strSliceIndices none none (-1) z.length).filterMap (z.cps[·]?)).toArray⟩) = _
  rw [pick_cps]
  rfl
theorem backS_length (z : Str) : (backS z).length = z.length := by
  show (z.cps.toList.reverse.toArray).size = z.cps.size
  simp
def tRevA (K : PySem.W.Frag) (te : TE) : TE := fun σ H Q => te σ H fun x H1 => (∃ z, x = .str z ∧ z.length ≤ sizeLine ∧ Q (.str (backS z)) H1) ∨ ∃ a xs, x = .ref a ∧ ((SqL K H1 a xs ∧ ∀ p, H1 p = none → Q (.ref p) (upd H1 p (.lst xs.reverse))) ∨ (SqT K H1 a xs ∧ ∀ p, H1 p = none → Q (.ref p) (upd H1 p (.tup xs.reverse))))
theorem pe_revA {e : Expr} {te : TE} {k : Nat} {p1 p2 p3 : Pos} (he : PE X e te) : PE X (.Subscript e (.Slice none none (some (.UnaryOp .USub (.Constant (.int 1) k p1) p2)) p3) pos) (tRevA X.K te) := by
  refine ⟨fun pins s σ H Q I h => ?_⟩
  refine Subscript_ (thn (he.run pins s σ H _ I h) fun v s1 ⟨x, H1, I1, r1, q1⟩ => ?_)
  have hst : PO X (some (.UnaryOp .USub (.Constant (.int 1) k p1) p2)) (tPart (tUn (rU fun i => .int (-i)) (tC (.int 1)))) := po_some (pe_un un_neg pe_int)
  refine wpAny_Slice (thn (po_none.run pins s1 σ H1 (fun o H2 => o = none ∧ H2 = H1) I1 ⟨rfl, rfl⟩) fun vl s2 ⟨l, H2, I2, pl, el, e2⟩ => ?_)
  subst el e2
  refine thn (po_none.run pins s2 σ H2 (fun o H3 => o = none ∧ H3 = H2) I2 ⟨rfl, rfl⟩) fun vu s3 ⟨u, H3, I3, pu, eu, e3⟩ => ?_
  subst eu e3
  refine thn (hst.run pins s3 σ H3 (fun o H4 => o = some (-1) ∧ H4 = H3) I3 ⟨1, rfl, -1, rfl, rfl, rfl⟩) fun vs s4 ⟨o, H4, I4, ps, eo, e4⟩ => ?_
  subst eo e4
  have I5 : Inv X pins σ H4 { s4 with heap := s4.heap.push { cls := .type "slice", data := .fields #[vl, vu, vs] } } := I4.kept (t' := s4.toks) fun b ob q => Heap.get?_push_of_some _ q
  rcases q1 with ⟨z, rfl, hz, q⟩ | ⟨a, xs, ex, q1⟩
  · obtain ⟨t, rfl⟩ := r1
    show wpAny (model X.prog X.w) X.A (subscriptTail e (.Slice none none (some (.UnaryOp .USub (.Constant (.int 1) k p1) p2)) p3) (.str z t) (.ref s4.heap.objs.size)) (EP X pins σ Q) X.xe { s4 with heap := s4.heap.push { cls := .type "slice", data := .fields #[vl, vu, vs] } }
    cases pl
    cases pu
    obtain ⟨l, rfl, hl⟩ := IsPart.raw ps
    refine tail_any (ops := [.str z t, .ref s4.heap.objs.size]) (typeIs_str _ z t) (PySem.F.slot_str_getitem.lookup) ?_ (by with_unfolding_all rfl)
    refine wpAny_getItem_str_slice (l := none) (u := none) (st := l) ⟨_, Heap.get?_push_size _ rfl, rfl, rfl⟩ (by rw [hl]; rfl) ?_
    rw [back_made z t hl]
    exact ⟨by rw [backS_length]; exact hz, .str _, H4, I5.tok _, ⟨_, rfl⟩, q⟩
  subst ex
  cases r1
  show wpAny (model X.prog X.w) X.A (subscriptTail e (.Slice none none (some (.UnaryOp .USub (.Constant (.int 1) k p1) p2)) p3) (.ref a) (.ref s4.heap.objs.size)) (EP X pins σ Q) X.xe { s4 with heap := s4.heap.push { cls := .type "slice", data := .fields #[vl, vu, vs] } }
  rcases q1 with ⟨hx, q⟩ | ⟨hx, q⟩
  · obtain ⟨its, r, ht, hz⟩ := I5.list hx
    have hlen := r.length
    refine tail_any (ops := [.ref a, .ref s4.heap.objs.size]) ht.isList.typeIs (PySem.slot_list_getitem.lookup) ?_ (by with_unfolding_all rfl)
    refine wpAny_getItem_list_slice ht.isList (Heap.IsSliceOf.new _ vl vu vs) pl pu ps (by decide) ?_ (by rw [List.size_toArray]; omega)
    rw [PySem.W.krv_pick]
    refine ⟨.ref _, _, I5.laid (t' := s4.toks) (o := .lst xs.reverse) (fun b ob q => Heap.get?_push_of_some _ q) (Nat.le_refl _) ?_, rfl, q _ (I5.hok.fresh (Nat.le_refl _))⟩
    exact ⟨by rw [List.length_reverse]; exact hz, _, 0, r.reverse, Heap.get?_push_size _ rfl⟩
  · obtain ⟨its, r, ht, hz⟩ := I5.tuple hx
    have hlen := r.length
    cases pl
    cases pu
    cases ps
    refine tail_any (ops := [.ref a, .ref s4.heap.objs.size]) ht.typeIs (PyProof.Rows.slot_tuple_getitem.lookup) ?_ (by with_unfolding_all rfl)
    refine getItem_tup_back ht (Heap.IsSliceOf.new ..) ?_ (by rw [List.size_toArray]; omega)
    refine ⟨.ref _, _, I5.laid (t' := s4.toks) (o := .tup xs.reverse) (fun b ob q => Heap.get?_push_of_some _ q) (Nat.le_refl _) ?_, rfl, q _ (I5.hok.fresh (Nat.le_refl _))⟩
    exact ⟨by rw [List.length_reverse]; exact hz, its.reverse, r.reverse, ⟨_, Heap.get?_push_size _ rfl, rfl, 0, by simp⟩⟩
theorem pd_rev {k : Nat} {p1 p2 p3 : Pos} (ha : PE X a (tE X.K Γ con ca)) : PE X (.Subscript a (.Slice none none (some (.UnaryOp .USub (.Constant (.int 1) k p1) p2)) p3) pos) (tE X.K Γ con (.rev ca)) :=
  (pe_revA ha).impD fun σ H Q ⟨as, env, st, d, st', er, sr, e, q⟩ => by
    simp only [evE] at e
    obtain ⟨⟨x, st1⟩, e1, e⟩ := Res.bind_ok e
    obtain ⟨d', e2, e3⟩ := Res.bind_ok e
    cases e3
    refine ⟨as, env, st, x, _, er, sr, e1, fun v H1 as1 s1 sr1 hv => ?_⟩
    cases hd : snap st1 x with
    | str z =>
      simp only [hd, revD] at e2
      split at e2
      · rename_i hl
        cases e2
        have hz := hv.str sr1 hd
        subst hz
        exact .inl ⟨z, rfl, by rw [← LIM_eq]; exact hl, q _ _ as1 s1 sr1 (DRep.str _).toV⟩
      · cases e2
    | lst ds =>
      simp only [hd, revD] at e2
      cases e2
      obtain ⟨b, vs, rfl, h1, h2, h3⟩ := hv.lst sr1 hd
      exact .inr ⟨b, vs, rfl, .inl ⟨.inl (.inl h1), fun p hp => q _ _ as1 (s1.trans (Step.same (same_new hp))) (sr1.same (same_new hp)) (new_lst sr1 hp (by rw [List.length_reverse]; exact h2) h3.reverse).toV⟩⟩
    | tup ds =>
      simp only [hd, revD] at e2
      cases e2
      obtain ⟨b, vs, rfl, h1, h2, h3⟩ := hv.tup sr1 hd
      exact .inr ⟨b, vs, rfl, .inr ⟨h1.sq, fun p hp => q _ _ as1 (s1.trans (Step.same (same_new hp))) (sr1.same (same_new hp)) (new_tup hp (by rw [List.length_reverse]; exact h2) h3.reverse).toV⟩⟩
    | _ => simp only [hd, revD] at e2; cases e2
end
/-- the store object i becomes a value -/
theorem SRel.freeze {K : PySem.W.Frag} {as : Ads} {st : Sto} {H : Hp} (r : SRel K as st H) {i : Nat} {a : Addr} (ha : as.c[i]? = some (some a)) :
    Step as ⟨as.c.set i none, as.p⟩ H H ∧ SRel K ⟨as.c.set i none, as.p⟩ (st.set i .dead) H ∧ ¬ (⟨as.c.set i none, as.p⟩ : Ads).Has a := by
  have hl : i < as.c.length := by
    by_cases hl : i < as.c.length
    · exact hl
    · rw [List.getElem?_eq_none (by simpa using hl)] at ha; cases ha
  have at_ : ∀ {j : Nat} {x : Option Addr}, (as.c.set i none)[j]? = some x → (i = j ∧ x = none) ∨ (i ≠ j ∧ as.c[j]? = some x) := fun {j x} h => by
    by_cases hj : i = j
    · subst hj
      rw [List.getElem?_set_self hl] at h
      exact .inl ⟨rfl, (Option.some.inj h).symm⟩
    · rw [List.getElem?_set_ne hj] at h
      exact .inr ⟨hj, h⟩
  have nin : ∀ b, some b ∈ as.c.set i none → some b ∈ as.c ∧ b ≠ a := fun b hb => by
    obtain ⟨j, hj⟩ := List.mem_iff_getElem?.mp hb
    rcases at_ hj with ⟨_, z⟩ | ⟨hne, z⟩
    · cases z
    · exact ⟨List.mem_of_getElem? z, fun e => by subst e; exact hne (r.nd i j b ha z)⟩
  have s : Step as ⟨as.c.set i none, as.p⟩ H H := by
    refine ⟨by simp, fun j b h => ?_, fun j h => ?_, fun b h => .inl (nin b h).1, fun _ _ h _ => h, fun _ _ h => h, rfl⟩
    · by_cases hj : i = j
      · subst hj; exact .inr (List.getElem?_set_self hl)
      · exact .inl (by show (as.c.set i none)[j]? = _; rw [List.getElem?_set_ne hj]; exact h)
    · by_cases hj : i = j
      · subst hj; exact List.getElem?_set_self hl
      · show (as.c.set i none)[j]? = _
        rw [List.getElem?_set_ne hj]; exact h
  refine ⟨s, ⟨by simp [r.len], fun j k b h1 h2 => ?_, fun j o e => ?_, r.pr, fun b hb m => r.dj b hb (nin b m).1, fun j o e => cl_set r rfl e⟩, fun h => ?_⟩
  · rcases at_ h1 with ⟨_, z⟩ | ⟨_, z1⟩
    · cases z
    · rcases at_ h2 with ⟨_, z⟩ | ⟨_, z2⟩
      · cases z
      · exact r.nd j k b z1 z2
  · by_cases hj : i = j
    · subst hj
      rw [List.getElem?_set_self (by rw [← r.len]; exact hl)] at e
      cases e
      exact ⟨none, List.getElem?_set_self hl, trivial⟩
    · rw [List.getElem?_set_ne hj] at e
      obtain ⟨x, e1, q⟩ := r.rep j o e
      refine ⟨x, by show (as.c.set i none)[j]? = _; rw [List.getElem?_set_ne hj]; exact e1, ?_⟩
      cases x with
      | none => cases o <;> exact q
      | some b =>
        cases o with
        | lst ds => obtain ⟨vs, e2, z, p⟩ := q; exact ⟨vs, e2, z, DReps.step s _ _ p⟩
        | dic ds => obtain ⟨vs, e2, z, p⟩ := q; exact ⟨vs, e2, z, KReps.step s _ _ p⟩
        | dead => exact q
  · rcases h with h | h
    · exact (nin a h).2 rfl
    · exact r.dj a h (List.mem_of_getElem? ha)
section
variable {X : Cx} {Γ : Fns} {con : Nat → Option D} {a b : Expr} {es : List Expr} {ca cb : CE} {cs : List CE} {pos : Pos}
theorem pd_frz (ha : PE X a (tE X.K Γ con ca)) : PE X a (tE X.K Γ con (.frz ca)) :=
  ha.impD fun σ H Q ⟨as, env, st, d, st', er, sr, e, q⟩ => by
    simp only [evE] at e
    obtain ⟨⟨x, st1⟩, e1, e⟩ := Res.bind_ok e
    refine ⟨as, env, st, x, _, er, sr, e1, fun v H1 as1 s1 sr1 hv => ?_⟩
    simp only at e
    split at e
    · rename_i i
      split at e
      · rename_i ds hd
        cases e
        obtain ⟨a0, vs, k1, k2, k3, k4⟩ := sr1.lst hd
        obtain ⟨s2, sr2, n2⟩ := sr1.freeze k1
        have ev := hv.2 a0 k1
        subst ev
        exact q _ _ _ (s1.trans s2) sr2 (DRep.lst k2 n2 k3 (DReps.step s2 _ _ k4)).toV
      · rename_i ds hd
        cases e
        obtain ⟨a0, vs, k1, k2, k3, k4⟩ := sr1.dic hd
        obtain ⟨s2, sr2, n2⟩ := sr1.freeze k1
        have ev := hv.2 a0 k1
        subst ev
        exact q _ _ _ (s1.trans s2) sr2 (DRep.dic (.inl k2) n2 k3 (KReps.step s2 _ _ k4)).toV
      · cases e
    · cases e
end

mutual
def slotsT : Tg → List Nat
  | .name i => [i]
  | .tup ts => slotsTs ts
def slotsTs : List Tg → List Nat
  | [] => []
  | t :: ts => slotsT t ++ slotsTs ts
end
/-- σ' is σ but at the slots vs -/
def OnlyAt (vs : List Nat) (σ σ' : L2.St) : Prop := σ'.length = σ.length ∧ ∀ i, i ∉ vs → σ'[i]? = σ[i]?
theorem OnlyAt.refl (vs : List Nat) (σ : L2.St) : OnlyAt vs σ σ := ⟨rfl, fun _ _ => rfl⟩
theorem OnlyAt.trans {vs us : List Nat} {σ σ1 σ2 : L2.St} (h : OnlyAt vs σ σ1) (g : OnlyAt us σ1 σ2) : OnlyAt (vs ++ us) σ σ2 :=
  ⟨g.1.trans h.1, fun i hi => by rw [List.mem_append, not_or] at hi; rw [g.2 i hi.2, h.2 i hi.1]⟩
theorem OnlyAt.mono {vs us : List Nat} {σ σ1 : L2.St} (h : OnlyAt vs σ σ1) (s : ∀ i ∈ vs, i ∈ us) : OnlyAt us σ σ1 := ⟨h.1, fun i hi => h.2 i fun z => hi (s i z)⟩
theorem wipe_in {vs : List Nat} {σ : L2.St} {i : Nat} (hi : i ∈ vs) : (L2.wipe σ vs)[i]? = if i < σ.length then some none else none := by
  induction vs with
  | nil => simp at hi
  | cons v vs ih =>
    unfold L2.wipe
    by_cases h : v = i
    · subst h
      by_cases hl : v < σ.length
      · rw [List.getElem?_set_self (by rw [wipe_length]; exact hl), if_pos hl]
      · rw [List.getElem?_eq_none (by simp [wipe_length]; omega), if_neg hl]
    · rw [List.getElem?_set_ne h]
      rcases List.mem_cons.mp hi with e | e
      · exact absurd e.symm h
      · exact ih e
theorem OnlyAt.wipe {vs : List Nat} {σ σ' : L2.St} (h : OnlyAt vs σ σ') : L2.wipe σ' vs = L2.wipe σ vs := by
  refine List.ext_getElem? fun i => ?_
  by_cases hi : i ∈ vs
  · rw [wipe_in hi, wipe_in hi, h.1]
  · rw [wipe_out hi, wipe_out hi, h.2 i hi]
/-- a target by its code -/
def tG (K : PySem.W.Frag) (t : Tg) : TG := fun v σ H Q => ∃ as env d env', ERep K as H σ env ∧ VRep K as H v d ∧ asgT t d env = some env' ∧ ∀ σ', ERep K as H σ' env' → OnlyAt (slotsT t) σ σ' → Q σ' H
def tGs (K : PySem.W.Frag) (ts : List Tg) : TGs := fun vs σ H Q => ∃ as env ds env', ERep K as H σ env ∧ DReps K as H vs ds ∧ asgTs ts ds env = some env' ∧ ∀ σ', ERep K as H σ' env' → OnlyAt (slotsTs ts) σ σ' → Q σ' H
theorem _root_.L2.PG.impD {X : Cx} {e : Expr} {t t' : TG} (h : PG X e t) (f : ∀ v σ H Q, t' v σ H Q → t v σ H Q) : PG X e t' := ⟨fun pins s σ H v u Q I r q => h.run pins s σ H v u Q I r (f _ _ _ _ q)⟩
theorem _root_.L2.PGs.impD {X : Cx} {e : List Expr} {t t' : TGs} (h : PGs X e t) (f : ∀ v σ H Q, t' v σ H Q → t v σ H Q) : PGs X e t' := ⟨fun pins s σ H v u Q I r q => h.run pins s σ H v u Q I r (f _ _ _ _ q)⟩
section
variable {X : Cx} {pos : Pos}
theorem pdg_name {i : Nat} {x : Str} (hN : X.N.Nodup) (hi : X.N[i]? = some x) (hx : Loc X.env.scope x) (hf : X.fn x = true ∨ X.env.scope.names.lookup x = some .local) : PG X (.Name x pos) (tG X.K (.name i)) :=
  (pg_name hN hi hx hf).impD fun v σ H Q ⟨as, env, d, env', er, hv, e, q⟩ => by
    simp only [asgT] at e
    cases e
    refine q _ (er.set hv) ⟨by simp, fun j hj => ?_⟩
    have : i ≠ j := fun z => hj (by simp [slotsT, z])
    rw [List.getElem?_set_ne this]
theorem pdg_nil : PGs X [] (tGs X.K []) := pgs_nil.impD fun vs σ H Q ⟨as, env, ds, env', er, hv, e, q⟩ => by
  cases hv with
  | nil => simp only [asgTs] at e; cases e; exact ⟨rfl, q _ er (OnlyAt.refl _ _)⟩
  | cons => simp [asgTs] at e
theorem pdg_cons {e : Expr} {es : List Expr} {t : Tg} {ts : List Tg} (h1 : PG X e (tG X.K t)) (h2 : PGs X es (tGs X.K ts)) (hs : (assignEach (e :: es) X.env).map (·.2) = assign e X.env :: (assignEach es X.env).map (·.2)) : PGs X (e :: es) (tGs X.K (t :: ts)) :=
  (pgs_cons h1 h2 hs).impD fun vs σ H Q ⟨as, env, ds, env', er, hv, e, q⟩ => by
    cases hv with
    | nil => simp [asgTs] at e
    | cons h r =>
      simp only [asgTs] at e
      split at e
      · rename_i env1 e1
        exact ⟨_, _, rfl, as, env, _, env1, er, h.toV, e1, fun σ1 er1 o1 => ⟨as, env1, _, env', er1, r, e, fun σ2 er2 o2 => q σ2 er2 (o1.trans o2)⟩⟩
      · cases e
theorem pdg_tup {es : List Expr} {k : Nat} {ts : List Tg} {n : Nat} (hc : X.calm = true) (h : PGs X es (tGs X.K ts)) (hn : (assignEach es X.env).length = n) (hts : ts.length = n) (hst : (assignEach es X.env).findIdx? (·.1) = none) : PG X (.Tuple es k pos) (tG X.K (.tup ts)) :=
  (pg_tup hc h hn hst).impD fun v σ H Q ⟨as, env, d, env', er, hv, e, q⟩ => by
    cases d with
    | tup ds =>
      simp only [asgT] at e
      cases hv with
      | tup h1 h2 h3 =>
        refine ⟨_, _, rfl, h1.sq, ?_, as, env, ds, env', er, h3, e, fun σ' er' o => q σ' er' o⟩
        have len : ∀ {ts : List Tg} {ds : List D} {env env' : Env}, asgTs ts ds env = some env' → ds.length = ts.length := by
          intro ts
          induction ts with
          | nil => intro ds env env' h; cases ds with
            | nil => rfl
            | cons => simp [asgTs] at h
          | cons t ts ih => intro ds env env' h; cases ds with
            | nil => simp [asgTs] at h
            | cons d ds =>
              simp only [asgTs] at h
              split at h
              · simp [ih h]
              · cases h
        rw [h3.length, len e, hts]
    | _ => simp [asgT] at e
end
end En

set_option Elab.async false
set_option linter.all false
set_option maxRecDepth 100000
set_option maxHeartbeats 1000000
namespace En
open PySem PySem.Spec PyProof.Rows L2 RZ
theorem _root_.L2.PI.impD {X : Cx} {tg e : Expr} {t t' : TI} (h : PI X tg e t) (f : ∀ σ H R, t' σ H R → t σ H R) : PI X tg e t' := ⟨fun pins s σ H R I q => h.run pins s σ H R I (f _ _ _ q)⟩
/-- what data in the heap lean on is left as it is -/
def HO.isEr : HO → Bool
  | .ext _ => true
  | .xd _ => true
  | _ => false
structure TRd (as as' : Ads) (H H' : Hp) : Prop where
  er : ∀ (a : Addr) (o : HO), HO.isEr o = true → H a = some o → ¬ as.Has a → H' a = some o ∧ ¬ as'.Has a
  tup : ∀ (a : Addr) (xs : List V), H a = some (.tup xs) → H' a = some (.tup xs)
  lst : ∀ (a : Addr) (xs : List V), H a = some (.lst xs) → ¬ as.Has a → H' a = some (.lst xs) ∧ ¬ as'.Has a
  rls : ∀ (a : Addr) (xs : List V), Rd H a (.lst xs) → ¬ as.Has a → Rd H' a (.lst xs) ∧ ¬ as'.Has a
  rdk : ∀ (a : Addr) (xs : List (Key × V)), Rd H a (.dK xs) → ¬ as.Has a → Rd H' a (.dK xs) ∧ ¬ as'.Has a
  mr : ∀ i, i < as.c.length → i < as'.c.length ∧ ∀ a, as'.c[i]? = some (some a) → as.c[i]? = some (some a)
structure TR (as as' : Ads) (H H' : Hp) : Prop where
  tup : ∀ (a : Addr) (xs : List V), H a = some (.tup xs) → H' a = some (.tup xs)
  ext : ∀ (a : Addr) (o : HO), H a = some o → ¬ as.Has a → H' a = some o ∧ ¬ as'.Has a
  mr : ∀ i, i < as.c.length → i < as'.c.length ∧ ∀ a, as'.c[i]? = some (some a) → as.c[i]? = some (some a)
theorem TR.d {as as' : Ads} {H H' : Hp} (t : TR as as' H H') : TRd as as' H H' where
  tup := t.tup
  lst := fun a xs h n => t.ext a _ h n
  rls := fun a xs h n => by
    rcases h with h | ⟨o, h⟩
    · exact ⟨.inl (t.ext a _ h n).1, (t.ext a _ h n).2⟩
    · exact ⟨.inr ⟨o, (t.ext a _ h n).1⟩, (t.ext a _ h n).2⟩
  rdk := fun a xs h n => by
    rcases h with h | ⟨o, h⟩
    · exact ⟨.inl (t.ext a _ h n).1, (t.ext a _ h n).2⟩
    · exact ⟨.inr ⟨o, (t.ext a _ h n).1⟩, (t.ext a _ h n).2⟩
  mr := t.mr
  er := fun a o _ h n => t.ext a o h n
theorem Step.mr {as as' : Ads} {H H' : Hp} (s : Step as as' H H') (i : Nat) (l : i < as.c.length) : i < as'.c.length ∧ ∀ a, as'.c[i]? = some (some a) → as.c[i]? = some (some a) := by
  refine ⟨Nat.lt_of_lt_of_le l s.len, fun a e => ?_⟩
  cases q : as.c[i]? with
  | none => rw [List.getElem?_eq_none_iff] at q; omega
  | some x =>
    cases x with
    | none => rw [s.dead i q] at e; cases e
    | some b =>
      rcases s.old i b q with z | z
      · rw [z] at e; cases e; rfl
      · rw [z] at e; cases e
theorem Step.tr {as as' : Ads} {H H' : Hp} (s : Step as as' H H') : TR as as' H H' := ⟨s.tup, fun _ _ h n => ⟨s.extH h n, s.notin h n⟩, s.mr⟩
section
variable {K : PySem.W.Frag} {as as' : Ads} {H H' : Hp}
theorem LsA.trd {a : Addr} {xs : List V} (t : TRd as as' H H') (h : LsA K as H a xs) : LsA K as' H' a xs := by
  rcases h with ⟨h, n⟩ | h
  · exact .inl (t.rls a xs h n)
  · exact .inr h
theorem TpA.trd {a : Addr} {xs : List V} (t : TRd as as' H H') (h : TpA K H a xs) : TpA K H' a xs := by
  rcases h with h | h
  · exact .inl (t.tup _ _ h)
  · exact .inr h
mutual
theorem DRep.trd (t : TRd as as' H H') : ∀ (d : D) (v : V), DRep K as H v d → DRep K as' H' v d
  | .non, _, h => by cases h; exact .non
  | .bl b, _, h => by cases h; exact .bl b
  | .int b, _, h => by cases h; exact .int b
  | .str b, _, h => by cases h; exact .str b
  | .tup ds, _, h => by
    cases h with
    | tup h z r => exact .tup (h.trd t) z (DReps.trd t ds _ r)
  | .lst ds, _, h => by
    cases h with
    | lst h n z r => exact .lst (t.lst _ _ h n).1 (t.lst _ _ h n).2 z (DReps.trd t ds _ r)
  | .ro ds, _, h => by
    cases h with
    | ro h z r => exact .ro (h.trd t) z (DReps.trd t ds _ r)
  | .dic ds, _, h => by
    cases h with
    | dic h n z r => exact .dic (t.rdk _ _ h n).1 (t.rdk _ _ h n).2 z (KReps.trd t ds _ r)
  | .err x d, _, h => by
    cases h with
    | err h1 h2 n1 h3 n2 r =>
      rcases h3 with h3 | h3
      · exact .err h1 (t.er _ _ rfl h2 n1).1 (t.er _ _ rfl h2 n1).2 (.inl (t.er _ _ rfl h3 n2).1) (t.er _ _ rfl h3 n2).2 (DRep.trd t d _ r)
      · exact .err h1 (t.er _ _ rfl h2 n1).1 (t.er _ _ rfl h2 n1).2 (.inr (t.er _ _ rfl h3 n2).1) (t.er _ _ rfl h3 n2).2 (DRep.trd t d _ r)
  | .mref i, _, h => by
    cases h with
    | mref l h => exact .mref (t.mr i l).1 fun a e => h a ((t.mr i l).2 a e)
theorem DReps.trd (t : TRd as as' H H') : ∀ (ds : List D) (vs : List V), DReps K as H vs ds → DReps K as' H' vs ds
  | [], _, h => by cases h; exact .nil
  | d :: ds, _, h => by
    cases h with
    | cons h r => exact .cons (DRep.trd t d _ h) (DReps.trd t ds _ r)
theorem KReps.trd (t : TRd as as' H H') : ∀ (ds : List (Key × D)) (vs : List (Key × V)), KReps K as H vs ds → KReps K as' H' vs ds
  | [], _, h => by cases h; exact .nil
  | (k, d) :: ds, _, h => by
    cases h with
    | cons h r => exact .cons (DRep.trd t d _ h) (KReps.trd t ds _ r)
end
theorem VRep.trd {v : V} {d : D} (t : TRd as as' H H') (hc : as'.c = as.c) (h : VRep K as H v d) : VRep K as' H' v d := by
  cases d with
  | mref i => obtain ⟨l, h⟩ := h; exact ⟨by rw [hc]; exact l, fun a e => h a (by rw [← hc]; exact e)⟩
  | _ => exact DRep.trd t _ _ h
theorem ERep.trd {σ : L2.St} {env : Env} (t : TRd as as' H H') (hc : as'.c = as.c) (h : ERep K as H σ env) : ERep K as' H' σ env :=
  ⟨h.len, fun i d e => let ⟨v, e1, q⟩ := h.get i d e; ⟨v, e1, q.trd t hc⟩⟩
theorem SRel.trd {st : Sto} (r : SRel K as st H) (t : TRd as as' H H') (hc : as'.c = as.c) (hs : ∀ a, some a ∈ as.c → H' a = H a) (pr : ∀ a ∈ as'.p, ∃ o, H' a = some o) (dj : ∀ a ∈ as'.p, some a ∉ as.c) : SRel K as' st H' := by
  refine ⟨by rw [hc]; exact r.len, by rw [hc]; exact r.nd, fun i o e => ?_, pr, by rw [hc]; exact dj, r.cl⟩
  obtain ⟨x, e1, q⟩ := r.rep i o e
  refine ⟨x, by rw [hc]; exact e1, ?_⟩
  cases x with
  | none => cases o <;> exact q
  | some b =>
    have hb : H' b = H b := hs b (List.mem_of_getElem? e1)
    cases o with
    | lst ds => obtain ⟨vs, e2, z, p⟩ := q; exact ⟨vs, by rw [hb]; exact e2, z, DReps.trd t _ _ p⟩
    | dic ds => obtain ⟨vs, e2, z, p⟩ := q; exact ⟨vs, by rw [hb]; exact e2, z, KReps.trd t _ _ p⟩
    | dead => exact q
end
/-- the walk J gives the data ds in turn -/
structure Wk (K : PySem.W.Frag) (J : It) (as : Ads) (H : Hp) (ds : List D) : Prop where
  go : ∀ (as' : Ads) (H' : Hp) (i : Nat), TR as as' H H' → i < ds.length → J.go i H'
  stop : ∀ (as' : Ads) (H' : Hp) (i : Nat), TR as as' H H' → ds.length ≤ i → J.stop i H'
  yld : ∀ (as' : Ads) (st' : Sto) (H' : Hp) (i : Nat) (x : V) (H'' : Hp) (d : D), TR as as' H H' → SRel K as' st' H' → J.yld i H' x H'' → ds[i]? = some d → Same H' H'' ∧ DRep K as' H'' x d
def tI (K : PySem.W.Frag) (Γ : Fns) (con : Nat → Option D) (ci : CI) : TI := fun σ H R => ∃ as env st ds st', ERep K as H σ env ∧ SRel K as st H ∧ evI Γ con ci env st = .ok (ds, st') ∧
  ∀ J H' as', Step as as' H H' → SRel K as' st' H' → Wk K J as' H' ds → ds.length ≤ sizeLine → R J H'
section
variable {K : PySem.W.Frag} {as : Ads} {H : Hp} {ds : List D} {vs : List V} {a : Addr}
theorem LsA.lst (h : H a = some (.lst vs)) (n : ¬ as.Has a) : LsA K as H a vs := .inl ⟨.inl h, n⟩
theorem wk_list (h : LsA K as H a vs) (r : DReps K as H vs ds) : Wk K (Itl K a) as H ds where
  go := fun as' H' i s hi => by
    have hl : i < vs.length := by rw [r.length]; exact hi
    exact ⟨vs, vs[i], (h.trd s.d).sq, by simp [hl]⟩
  stop := fun as' H' i s hi => ⟨vs, (h.trd s.d).sq, by rw [r.length]; exact hi⟩
  yld := fun as' st' H' i x H'' d s sr y e => by
    obtain ⟨e1, y⟩ := y
    subst e1
    obtain ⟨v, e2, q⟩ := r.get e
    have := y vs (h.trd s.d).sq
    rw [e2] at this
    cases this
    exact ⟨Same.refl _, DRep.trd s.d _ _ q⟩
theorem wk_tup (h : TpA K H a vs) (r : DReps K as H vs ds) : Wk K (Itt K a) as H ds where
  go := fun as' H' i s hi => by
    have hl : i < vs.length := by rw [r.length]; exact hi
    exact ⟨vs, vs[i], (h.trd s.d).sq, by simp [hl]⟩
  stop := fun as' H' i s hi => ⟨vs, (h.trd s.d).sq, by rw [r.length]; exact hi⟩
  yld := fun as' st' H' i x H'' d s sr y e => by
    obtain ⟨e1, y⟩ := y
    subst e1
    obtain ⟨v, e2, q⟩ := r.get e
    have := y vs (h.trd s.d).sq
    rw [e2] at this
    cases this
    exact ⟨Same.refl _, DRep.trd s.d _ _ q⟩
theorem wk_str (z : Str) : Wk K (Its z) as H (z.cps.toList.map fun c => .str ⟨#[c]⟩) where
  go := fun as' H' i s hi => by
    show i < z.cps.size
    simpa using hi
  stop := fun as' H' i s hi => by
    show z.cps.size ≤ i
    simpa using hi
  yld := fun as' st' H' i x H'' d s sr y e => by
    obtain ⟨e1, c, e2, e3⟩ := y
    subst e1 e3
    rw [List.getElem?_map, Array.getElem?_toList, e2] at e
    cases e
    exact ⟨Same.refl _, .str _⟩
theorem rngD_length : ∀ (n : Nat) (a : Int), (rngD a n).length = n
  | 0, _ => rfl
  | n + 1, a => by simp [rngD, rngD_length n]
theorem rngD_get : ∀ (n : Nat) (a : Int) (i : Nat) (d : D), (rngD a n)[i]? = some d → d = .int (a + i)
  | 0, _, i, d, h => by simp [rngD] at h
  | n + 1, a, 0, d, h => by simp [rngD] at h; simp [← h]
  | n + 1, a, i + 1, d, h => by
    simp only [rngD, List.getElem?_cons_succ] at h
    rw [rngD_get n (a + 1) i d h]
    congr 1
    omega
theorem wk_range (lo : Int) (n : Nat) : Wk K (Itr lo n) as H (rngD lo n) where
  go := fun as' H' i s hi => by rw [rngD_length] at hi; exact hi
  stop := fun as' H' i s hi => by rw [rngD_length] at hi; exact hi
  yld := fun as' st' H' i x H'' d s sr y e => by
    obtain ⟨e1, e2⟩ := y
    subst e1 e2
    rw [rngD_get n lo i d e]
    exact ⟨Same.refl _, .int _⟩
theorem enumD_length : ∀ (ds : List D) (k : Nat), (enumD k ds).length = ds.length
  | [], _ => rfl
  | d :: ds, k => by simp [enumD, enumD_length ds]
theorem enumD_get : ∀ (ds : List D) (k i : Nat) (d : D), (enumD k ds)[i]? = some d → ∃ x, ds[i]? = some x ∧ d = .tup [.int ((k + i : Nat) : Int), x]
  | [], _, i, d, h => by simp [enumD] at h
  | x :: ds, k, 0, d, h => by simp [enumD] at h; exact ⟨x, rfl, by simp [← h]⟩
  | x :: ds, k, i + 1, d, h => by
    simp only [enumD, List.getElem?_cons_succ] at h
    obtain ⟨y, e1, e2⟩ := enumD_get ds (k + 1) i d h
    exact ⟨y, by simpa using e1, by rw [e2]; congr 3; omega⟩
theorem pair_rep {as' : Ads} {H' : Hp} {T : Addr} {x y : V} {d e : D} (hT : H' T = none) (hx : DRep K as' H' x d) (hy : DRep K as' H' y e) : DRep K as' (upd H' T (.tup [x, y])) (.ref T) (.tup [d, e]) :=
  new_tup hT (by show 2 ≤ sizeLine; decide) (.cons hx (.cons hy .nil))
theorem wk_enum (h : LsA K as H a vs) (r : DReps K as H vs ds) : Wk K (Ite K a) as H (enumD 0 ds) where
  go := fun as' H' i s hi => by
    rw [enumD_length] at hi
    have hl : i < vs.length := by rw [r.length]; exact hi
    exact ⟨vs, vs[i], (h.trd s.d).sq, by simp [hl]⟩
  stop := fun as' H' i s hi => ⟨vs, (h.trd s.d).sq, by rw [r.length]; rw [enumD_length] at hi; exact hi⟩
  yld := fun as' st' H' i x H'' d s sr y e => by
    obtain ⟨T, x', rfl, nT, rfl, f⟩ := y
    obtain ⟨z, e1, rfl⟩ := enumD_get ds 0 i d e
    obtain ⟨v, e2, q⟩ := r.get e1
    have := f vs (h.trd s.d).sq
    rw [e2] at this
    cases this
    refine ⟨same_new nT, ?_⟩
    have := pair_rep nT (DRep.int (K := K) (as := as') (H := H') ((i : Nat) : Int)) (DRep.trd s.d _ _ q)
    simpa using this
theorem wk_enumT (h : TpA K H a vs) (r : DReps K as H vs ds) : Wk K (IteT K a) as H (enumD 0 ds) where
  go := fun as' H' i s hi => by
    rw [enumD_length] at hi
    have hl : i < vs.length := by rw [r.length]; exact hi
    exact ⟨vs, vs[i], (h.trd s.d).sq, by simp [hl]⟩
  stop := fun as' H' i s hi => ⟨vs, (h.trd s.d).sq, by rw [r.length]; rw [enumD_length] at hi; exact hi⟩
  yld := fun as' st' H' i x H'' d s sr y e => by
    obtain ⟨T, x', rfl, nT, rfl, f⟩ := y
    obtain ⟨z, e1, rfl⟩ := enumD_get ds 0 i d e
    obtain ⟨v, e2, q⟩ := r.get e1
    have := f vs (h.trd s.d).sq
    rw [e2] at this
    cases this
    refine ⟨same_new nT, ?_⟩
    have := pair_rep nT (DRep.int (K := K) (as := as') (H := H') ((i : Nat) : Int)) (DRep.trd s.d _ _ q)
    simpa using this
theorem zipD_length : ∀ (xs ys : List D), (zipD xs ys).length = min xs.length ys.length
  | [], _ => by simp [zipD]
  | _ :: _, [] => by simp [zipD]
  | x :: xs, y :: ys => by simp [zipD, zipD_length xs ys]
theorem zipD_get : ∀ (xs ys : List D) (i : Nat) (d : D), (zipD xs ys)[i]? = some d → ∃ x y, xs[i]? = some x ∧ ys[i]? = some y ∧ d = .tup [x, y]
  | [], _, i, d, h => by simp [zipD] at h
  | _ :: _, [], i, d, h => by simp [zipD] at h
  | x :: xs, y :: ys, 0, d, h => by simp [zipD] at h; exact ⟨x, y, rfl, rfl, h.symm⟩
  | x :: xs, y :: ys, i + 1, d, h => by
    simp only [zipD, List.getElem?_cons_succ] at h
    obtain ⟨x', y', e1, e2, e3⟩ := zipD_get xs ys i d h
    exact ⟨x', y', by simpa using e1, by simpa using e2, e3⟩
theorem wk_zip {b : Addr} {us : List V} {es : List D} (h : LsA K as H a vs) (r : DReps K as H vs ds) (h2 : LsA K as H b us) (r2 : DReps K as H us es) : Wk K (Itz K a b) as H (zipD ds es) where
  go := fun as' H' i s hi => by
    rw [zipD_length] at hi
    have hl : i < vs.length := by rw [r.length]; omega
    have hl2 : i < us.length := by rw [r2.length]; omega
    exact ⟨vs, us, vs[i], us[i], (h.trd s.d).sq, (h2.trd s.d).sq, by simp [hl], by simp [hl2]⟩
  stop := fun as' H' i s hi => ⟨vs, us, (h.trd s.d).sq, (h2.trd s.d).sq, by rw [r.length, r2.length]; rw [zipD_length] at hi; omega⟩
  yld := fun as' st' H' i x H'' d s sr y e => by
    obtain ⟨T, x1, x2, rfl, nT, rfl, f1, f2⟩ := y
    obtain ⟨z1, z2, e1, e2, rfl⟩ := zipD_get ds es i d e
    obtain ⟨v1, g1, q1⟩ := r.get e1
    obtain ⟨v2, g2, q2⟩ := r2.get e2
    have t1 := f1 vs (h.trd s.d).sq
    have t2 := f2 us (h2.trd s.d).sq
    rw [g1] at t1
    rw [g2] at t2
    cases t1
    cases t2
    exact ⟨same_new nT, pair_rep nT (DRep.trd s.d _ _ q1) (DRep.trd s.d _ _ q2)⟩
theorem wk_zipT {b : Addr} {us : List V} {es : List D} (h : TpA K H a vs) (r : DReps K as H vs ds) (h2 : TpA K H b us) (r2 : DReps K as H us es) : Wk K (ItzT K a b) as H (zipD ds es) where
  go := fun as' H' i s hi => by
    rw [zipD_length] at hi
    have hl : i < vs.length := by rw [r.length]; omega
    have hl2 : i < us.length := by rw [r2.length]; omega
    exact ⟨vs, us, vs[i], us[i], (h.trd s.d).sq, (h2.trd s.d).sq, by simp [hl], by simp [hl2]⟩
  stop := fun as' H' i s hi => ⟨vs, us, (h.trd s.d).sq, (h2.trd s.d).sq, by rw [r.length, r2.length]; rw [zipD_length] at hi; omega⟩
  yld := fun as' st' H' i x H'' d s sr y e => by
    obtain ⟨T, x1, x2, rfl, nT, rfl, f1, f2⟩ := y
    obtain ⟨z1, z2, e1, e2, rfl⟩ := zipD_get ds es i d e
    obtain ⟨v1, g1, q1⟩ := r.get e1
    obtain ⟨v2, g2, q2⟩ := r2.get e2
    have t1 := f1 vs (h.trd s.d).sq
    have t2 := f2 us (h2.trd s.d).sq
    rw [g1] at t1
    rw [g2] at t2
    cases t1
    cases t2
    exact ⟨same_new nT, pair_rep nT (DRep.trd s.d _ _ q1) (DRep.trd s.d _ _ q2)⟩
theorem kD_rep (k : Key) : DRep K as H (kV k) (kD k) := by cases k <;> constructor
theorem wk_items {o : Obj} {kvs : List (Key × V)} {ks : List (Key × D)} (h : H a = some (.frz o (.dK kvs))) (n : ¬ as.Has a) (r : KReps K as H kvs ks) : Wk K (Iti a o kvs) as H (ks.map fun kv => .tup [kD kv.1, kv.2]) where
  go := fun as' H' i s hi => ⟨(s.ext _ _ h n).1, by rw [r.length]; simpa using hi⟩
  stop := fun as' H' i s hi => ⟨(s.ext _ _ h n).1, by rw [r.length]; simpa using hi⟩
  yld := fun as' st' H' i x H'' d s sr y e => by
    obtain ⟨T, k, v, e1, rfl, nT, rfl⟩ := y
    have key : ∀ {ks : List (Key × D)} {kvs : List (Key × V)} {i : Nat}, KReps K as H kvs ks → kvs[i]? = some (k, v) → ∃ d, ks[i]? = some (k, d) ∧ DRep K as H v d := by
      intro ks
      induction ks with
      | nil => intro kvs i r e; cases r; simp at e
      | cons p ks ih =>
        intro kvs i r e
        cases r with
        | cons q r =>
          cases i with
          | zero => simp at e; obtain ⟨rfl, rfl⟩ := e; exact ⟨_, rfl, q⟩
          | succ i => obtain ⟨d, e1, e2⟩ := ih r (by simpa using e); exact ⟨d, by simpa using e1, e2⟩
    obtain ⟨d', e2, q⟩ := key r e1
    rw [List.getElem?_map, e2] at e
    cases e
    exact ⟨same_new nT, pair_rep nT (kD_rep k) (DRep.trd s.d _ _ q)⟩
end
section
variable {X : Cx} {Γ : Fns} {con : Nat → Option D} {tg a b : Expr} {ca cb : CE} {pos p : Pos}
def iSeq (K : PySem.W.Frag) (tl : TE) : TI := fun σ H R => tl σ H fun x H1 => (∃ a, x = .ref a ∧ (∃ xs, SqL K H1 a xs) ∧ R (Itl K a) H1) ∨ (∃ a, x = .ref a ∧ (∃ xs, SqT K H1 a xs) ∧ R (Itt K a) H1) ∨ ∃ z, x = .str z ∧ R (Its z) H1
theorem pi_seq {l : Expr} {tl : TE} (hl : PE X l tl) : PI X tg l (iSeq X.K tl) := by
  refine ⟨fun pins s σ H R I h => ?_⟩
  refine thn (hl.run pins s σ H _ I h) fun v s1 ⟨x, H1, I1, r1, q1⟩ => ?_
  rcases q1 with ⟨a, e, ⟨xs, hq⟩, q⟩ | ⟨a, e, ⟨xs, hq⟩, q⟩ | ⟨z, e, q⟩
  · subst e
    cases r1
    obtain ⟨its, rv, p, hz⟩ := I1.list hq
    exact wpAny_pyIter_list p.isList (pi_one (tk := s1.toks) I1 _ (turn_list a _) ⟨_, Heap.get?_push_size _ rfl, rfl, rfl⟩ q)
  · subst e
    cases r1
    obtain ⟨its, rv, p, hz⟩ := I1.tuple hq
    exact wpAny_pyIter_tuple (show s1.heap.IsTuple a its.toArray from p) (pi_one (tk := s1.toks) I1 _ (turn_tuple a _) ⟨_, Heap.get?_push_size _ rfl, rfl, rfl⟩ q)
  · subst e
    obtain ⟨t, rfl⟩ := r1
    cases ha : z.cps.all (· < 128)
    · exact wpAny_pyIter_wide ha (pi_one (tk := s1.toks) I1 _ (turn_str _ z t "str_iterator" (.inr rfl)) ⟨_, Heap.get?_push_size _ rfl, rfl, rfl⟩ q)
    · exact wpAny_pyIter_ascii ha (pi_one (tk := s1.toks) I1 _ (turn_str _ z t "str_ascii_iterator" (.inl rfl)) ⟨_, Heap.get?_push_size _ rfl, rfl, rfl⟩ q)
theorem pdi_seq (ha : PE X a (tE X.K Γ con ca)) : PI X tg a (tI X.K Γ con (.seq ca)) :=
  (pi_seq ha).impD fun σ H R ⟨as, env, st, ds, st', er, sr, e, q⟩ => by
    simp only [evI] at e
    obtain ⟨⟨x, st1⟩, e1, e⟩ := Res.bind_ok e
    obtain ⟨ds', e2, e3⟩ := Res.bind_ok e
    cases e3
    refine ⟨as, env, st, x, _, er, sr, e1, fun v H1 as1 s1 sr1 hv => ?_⟩
    cases x with
    | lst xs =>
      cases e2
      cases hv with
      | lst h1 h2 h3 h4 => exact .inl ⟨_, rfl, ⟨_, .inl (.inl h1)⟩, q _ _ as1 s1 sr1 (wk_list (.lst h1 h2) h4) (by rw [← h4.length]; exact h3)⟩
    | ro xs =>
      cases e2
      cases hv with
      | ro h1 h3 h4 => exact .inl ⟨_, rfl, ⟨_, h1.sq⟩, q _ _ as1 s1 sr1 (wk_list h1 h4) (by rw [← h4.length]; exact h3)⟩
    | tup xs =>
      cases e2
      cases hv with
      | tup h1 h3 h4 => exact .inr (.inl ⟨_, rfl, ⟨_, h1.sq⟩, q _ _ as1 s1 sr1 (wk_tup h1 h4) (by rw [← h4.length]; exact h3)⟩)
    | str z =>
      simp only [seqItems] at e2
      split at e2
      · rename_i hl
        cases e2
        cases hv
        exact .inr (.inr ⟨z, rfl, q _ _ as1 s1 sr1 (wk_str z) (by rw [← LIM_eq, List.length_map, Array.length_toList]; exact hl)⟩)
      · cases e2
    | _ => cases e2
theorem pdi_range1 (hg : Gl X "range") (hm : X.mg "range" = none) (ha : PE X a (tE X.K Γ con ca)) (hs : starEach [a] X.env = [(false, eval a X.env)]) : PI X tg (.Call (.Name "range" p) [a] [] pos) (tI X.K Γ con (.range1 ca)) :=
  (pi_range1 hg hm (pa_cons ha pa_nil hs) hs).impD fun σ H R ⟨as, env, st, ds, st', er, sr, e, q⟩ => by
    simp only [evI] at e
    obtain ⟨⟨x, st1⟩, e1, e⟩ := Res.bind_ok e
    cases x with
    | int j =>
      simp only at e
      split at e
      · rename_i h
        cases e
        refine ⟨as, env, st, _, _, er, sr, e1, fun v H1 as1 s1 sr1 hv => ?_⟩
        cases hv
        exact ⟨j, rfl, h.1, by omega, q _ _ as1 s1 sr1 (wk_range 0 j.toNat) (by rw [rngD_length, sizeLine_eq]; omega)⟩
      · cases e
    | _ => cases e
theorem pdi_range2 (hg : Gl X "range") (hm : X.mg "range" = none) (ha : PE X a (tE X.K Γ con ca)) (hb : PE X b (tE X.K Γ con cb)) (hs : starEach [a, b] X.env = [(false, eval a X.env), (false, eval b X.env)]) (hs2 : starEach [b] X.env = [(false, eval b X.env)]) : PI X tg (.Call (.Name "range" p) [a, b] [] pos) (tI X.K Γ con (.range2 ca cb)) :=
  (pi_range2 hg hm (pa_cons ha (pa_cons hb pa_nil hs2) (by rw [hs, hs2])) hs hs2).impD fun σ H R ⟨as, env, st, ds, st', er, sr, e, q⟩ => by
    simp only [evI] at e
    obtain ⟨⟨x, st1⟩, e1, e⟩ := Res.bind_ok e
    obtain ⟨⟨y, st2⟩, e2, e⟩ := Res.bind_ok e
    simp only at e
    split at e
    · rename_i i j _
      split at e
      · rename_i h
        cases e
        refine ⟨as, env, st, _, _, er, sr, e1, fun v H1 as1 s1 sr1 hv => ⟨as1, env, st1, _, _, er.step s1, sr1, e2, fun u H2 as2 s2 sr2 hu => ?_⟩⟩
        cases hv
        cases hu
        exact ⟨i, j, rfl, ⟨h.1.1, h.1.2, h.2.1.1, h.2.1.2⟩, q _ _ as2 (s1.trans s2) sr2 (wk_range i (j - i).toNat) (by rw [rngD_length, sizeLine_eq]; omega)⟩
      · cases e
    · cases e
theorem pdi_zip {elts : List Expr} {kk : Nat} {tpos : Pos} (hg : Gl X "zip") (hm : X.mg "zip" = none) (ha : PE X a (tE X.K Γ con ca)) (hb : PE X b (tE X.K Γ con cb)) (hs : starEach [a, b] X.env = (false, eval a X.env) :: starEach [b] X.env) (hs2 : starEach [b] X.env = (false, eval b X.env) :: starEach [] X.env) :
    PI X (.Tuple elts kk tpos) (.Call (.Name "zip" p) [a, b] [] pos) (tI X.K Γ con (.zip ca cb)) :=
  (pi_zipA hg hm (pa_cons ha (pa_cons hb pa_nil hs2) hs) hs (by rw [hs2]; rfl)).impD fun σ H R ⟨as, env, st, ds, st', er, sr, e, q⟩ => by
    simp only [evI] at e
    obtain ⟨⟨x, st1⟩, e1, e⟩ := Res.bind_ok e
    obtain ⟨⟨y, st2⟩, e2, e⟩ := Res.bind_ok e
    simp only at e
    split at e
    · rename_i xs ys
      cases e
      refine ⟨as, env, st, _, _, er, sr, e1, fun v H1 as1 s1 sr1 hv => ⟨as1, env, st1, _, _, er.step s1, sr1, e2, fun u H2 as2 s2 sr2 hu => ?_⟩⟩
      have hv2 := hv.step s2
      cases hv2 with
      | lst h1 h2 h3 h4 =>
        cases hu with
        | lst k1 k2 k3 k4 =>
          exact ⟨_, _, _, _, rfl, .inl ⟨.inl (.inl h1), .inl (.inl k1), q _ _ as2 (s1.trans s2) sr2 (wk_zip (.lst h1 h2) h4 (.lst k1 k2) k4) (by rw [zipD_length, ← h4.length]; omega)⟩⟩
    · rename_i xs ys
      cases e
      refine ⟨as, env, st, _, _, er, sr, e1, fun v H1 as1 s1 sr1 hv => ⟨as1, env, st1, _, _, er.step s1, sr1, e2, fun u H2 as2 s2 sr2 hu => ?_⟩⟩
      have hv2 := hv.step s2
      cases hv2 with
      | tup h1 h3 h4 =>
        cases hu with
        | tup k1 k3 k4 =>
          exact ⟨_, _, _, _, rfl, .inr ⟨h1.sq, k1.sq, q _ _ as2 (s1.trans s2) sr2 (wk_zipT h1 h4 k1 k4) (by rw [zipD_length, ← h4.length]; omega)⟩⟩
    · cases e
theorem pdi_enum {elts : List Expr} {kk : Nat} {tpos : Pos} (hg : Gl X "enumerate") (hm : X.mg "enumerate" = none) (ha : PE X a (tE X.K Γ con ca)) (hs : starEach [a] X.env = [(false, eval a X.env)]) :
    PI X (.Tuple elts kk tpos) (.Call (.Name "enumerate" p) [a] [] pos) (tI X.K Γ con (.enum ca)) := by
  have h1 := pi_enum (X := X) (p := p) (pos := pos) (tpos := tpos) (elts := elts) (kk := kk) hg hm (pa_cons ha pa_nil hs) hs
  have h2 := pi_enumT (X := X) (p := p) (pos := pos) (tpos := tpos) (elts := elts) (kk := kk) hg hm (pa_cons ha pa_nil hs) hs
  refine ⟨fun pins s σ H R I ⟨as, env, st, ds, st', er, sr, e, q⟩ => ?_⟩
  simp only [evI] at e
  obtain ⟨⟨x, st1⟩, e1, e⟩ := Res.bind_ok e
  simp only at e
  split at e
  · rename_i xs
    cases e
    refine h1.run pins s σ H R I ⟨as, env, st, _, _, er, sr, e1, fun v H1 as1 s1 sr1 hv => ?_⟩
    cases hv with
    | lst k1 k2 k3 k4 => exact ⟨_, _, rfl, .inl (.inl k1), q _ _ as1 s1 sr1 (wk_enum (.lst k1 k2) k4) (by rw [enumD_length, ← k4.length]; exact k3)⟩
  · rename_i xs
    cases e
    refine h2.run pins s σ H R I ⟨as, env, st, _, _, er, sr, e1, fun v H1 as1 s1 sr1 hv => ?_⟩
    cases hv with
    | tup k1 k3 k4 => exact ⟨_, _, rfl, k1.sq, q _ _ as1 s1 sr1 (wk_enumT k1 k4) (by rw [enumD_length, ← k4.length]; exact k3)⟩
  · cases e
end
end En

set_option Elab.async false
set_option linter.all false
set_option maxRecDepth 100000
set_option maxHeartbeats 1000000
namespace En
open PySem PySem.Spec PyProof.Rows L2
theorem _root_.L2.PTs.impD {X : Cx} {es : List Expr} {t t' : TT} (h : PTs X es t) (f : ∀ σ H Q, t' σ H Q → t σ H Q) : PTs X es t' := ⟨fun pins s σ H Q I q => h.run pins s σ H Q I (f _ _ _ q)⟩
def tTo (K : PySem.W.Frag) (Γ : Fns) (con : Nat → Option D) (c : Option CE) : TT := fun σ H Q => ∃ as env st b st', ERep K as H σ env ∧ SRel K as st H ∧ evT Γ con c env st = .ok (b, st') ∧ ∀ H' as', Step as as' H H' → SRel K as' st' H' → Q b H'
theorem pdts_none {X : Cx} {Γ : Fns} {con : Nat → Option D} : PTs X [] (tTo X.K Γ con none) := pts_nil.impD fun σ H Q ⟨as, env, st, b, st', er, sr, e, q⟩ => by
  simp only [evT] at e
  cases e
  exact q H as (Step.refl _ _) sr
theorem pdts_some {X : Cx} {Γ : Fns} {con : Nat → Option D} {a : Expr} {ca : CE} (h : PT X a (tTest' X.K Γ con ca)) : PTs X [a] (tTo X.K Γ con (some ca)) := (pts_one h).impD fun σ H Q ⟨as, env, st, b, st', er, sr, e, q⟩ => by
  simp only [evT] at e
  obtain ⟨⟨d, st1⟩, e1, e⟩ := Res.bind_ok e
  obtain ⟨r, e2, e⟩ := Res.bind_ok e
  cases e
  cases asBool_ok e2
  exact ⟨as, env, st, _, _, er, sr, e1, q⟩
theorem wipe_wipe {vs : List Nat} {σ : L2.St} : L2.wipe (L2.wipe σ vs) vs = L2.wipe σ vs := by
  refine List.ext_getElem? fun i => ?_
  by_cases hi : i ∈ vs
  · rw [wipe_in hi, wipe_in hi, wipe_length]
  · rw [wipe_out hi]

section
variable {K : PySem.W.Frag} {as : Ads} {H : Hp} {st : Sto} {Dl : Addr}
theorem tr_start (h : H Dl = none) (u : HO) : TR as ⟨as.c, Dl :: as.p⟩ H (upd H Dl u) where
  tup := fun a xs e => by rw [upd_ne (ne_of_none e h)]; exact e
  ext := fun a o e n => by
    have hne := ne_of_none e h
    refine ⟨by rw [upd_ne hne]; exact e, fun m => ?_⟩
    rcases m with m | m
    · exact n (.inl m)
    · rcases List.mem_cons.mp m with z | z
      · exact hne z
      · exact n (.inr z)
  mr := fun i l => ⟨l, fun _ e => e⟩
theorem SRel.start (r : SRel K as st H) (h : H Dl = none) (u : HO) : SRel K ⟨as.c, Dl :: as.p⟩ st (upd H Dl u) := by
  have fr := r.fresh h
  refine r.trd (tr_start h u).d rfl (fun a ha => ?_) (fun a ha => ?_) fun a ha => ?_
  · rw [upd_ne]
    intro e
    subst e
    exact fr (.inl ha)
  · rcases List.mem_cons.mp ha with z | z
    · exact ⟨u, by rw [z, upd_same]⟩
    · obtain ⟨o, e⟩ := r.pr a z
      exact ⟨o, by rw [upd_ne (ne_of_none e h)]; exact e⟩
  · rcases List.mem_cons.mp ha with z | z
    · rw [z]; exact fun m => fr (.inl m)
    · exact r.dj a z
/-- the state in the midst of making the list at Dl, from H1 on -/
structure Mid (K : PySem.W.Frag) (Dl : Addr) (as1 : Ads) (H1 : Hp) (as' : Ads) (st' : Sto) (H : Hp) : Prop where
  p : as'.p = Dl :: as1.p
  step : Step as1 ⟨as'.c, as1.p⟩ H1 H
  rel : SRel K as' st' H
theorem Mid.tr {as1 as' : Ads} {H1 : Hp} {st' : Sto} (hD : H1 Dl = none) (m : Mid K Dl as1 H1 as' st' H) : TR as1 as' H1 H where
  tup := m.step.tup
  ext := fun a o e n => by
    refine ⟨m.step.extH e n, fun z => ?_⟩
    have hne := ne_of_none e hD
    rcases z with z | z
    · exact m.step.notin e n (.inl z)
    · rw [m.p] at z
      rcases List.mem_cons.mp z with y | y
      · exact hne y
      · exact n (.inr y)
  mr := m.step.mr
theorem Mid.core {as1 as' : Ads} {H1 : Hp} {st' : Sto} (hD : H1 Dl = none) (m : Mid K Dl as1 H1 as' st' H) {v : V} {d : D} (h : VRep K as1 H1 v d) : VRep K as' H v d := by
  cases d with
  | mref i =>
    have h2 := VRep.step m.step h
    exact h2
  | _ => exact DRep.trd (m.tr hD).d _ _ h
theorem Mid.env {as1 as' : Ads} {H1 : Hp} {st' : Sto} (hD : H1 Dl = none) (m : Mid K Dl as1 H1 as' st' H) {σ : L2.St} {env : Env} (h : ERep K as1 H1 σ env) : ERep K as' H σ env :=
  ⟨h.len, fun i d e => let ⟨v, e1, q⟩ := h.get i d e; ⟨v, e1, m.core hD q⟩⟩
theorem Mid.start (r : SRel K as st H) (h : H Dl = none) (u : HO) : Mid K Dl as H ⟨as.c, Dl :: as.p⟩ st (upd H Dl u) := ⟨rfl, Step.same (same_new h), r.start h u⟩
theorem Mid.go {as1 as' as'' : Ads} {H1 H2 : Hp} {st' st'' : Sto} (hD : H1 Dl = none) (m : Mid K Dl as1 H1 as' st' H) (s : Step as' as'' H H2) (r : SRel K as'' st'' H2) : Mid K Dl as1 H1 as'' st'' H2 := by
  refine ⟨s.prot.trans m.p, ?_, r⟩
  refine ⟨Nat.le_trans m.step.len s.len, fun j a h => ?_, fun j h => s.dead j (m.step.dead j h), fun a h => ?_, fun a o e n => ?_, fun a xs e => s.tup a xs (m.step.tup a xs e), rfl⟩
  · rcases m.step.old j a h with z | z
    · exact s.old j a z
    · exact .inr (s.dead j z)
  · rcases s.new a h with z | z
    · exact m.step.new a z
    · cases q : H1 a with
      | none => exact .inr rfl
      | some o =>
        by_cases mm : some a ∈ as1.c
        · exact .inl mm
        · rw [m.step.ext a o q mm] at z; cases z
  · exact s.ext a o (m.step.ext a o e n) (m.step.notinC e n)
/-- the list at Dl is written -/
theorem Mid.put {as1 as' : Ads} {H1 : Hp} {st' : Sto} (hD : H1 Dl = none) (m : Mid K Dl as1 H1 as' st' H) (hl : ∀ xs, H Dl ≠ some (.tup xs)) (u : HO) : Mid K Dl as1 H1 as' st' (upd H Dl u) ∧ TR as' as' H (upd H Dl u) := by
  have has : as'.Has Dl := .inr (by rw [m.p]; exact List.mem_cons_self)
  have t : TR as' as' H (upd H Dl u) := ⟨fun a xs e => by
    have : a ≠ Dl := fun z => by subst z; exact hl xs e
    rw [upd_ne this]; exact e, fun a o e n => by
    have : a ≠ Dl := fun z => by subst z; exact n has
    exact ⟨by rw [upd_ne this]; exact e, n⟩, fun i l => ⟨l, fun _ e => e⟩⟩
  have nc : some Dl ∉ as'.c := m.rel.dj Dl (by rw [m.p]; exact List.mem_cons_self)
  refine ⟨⟨m.p, ?_, m.rel.trd t.d rfl (fun a ha => ?_) (fun a ha => ?_) m.rel.dj⟩, t⟩
  · exact ⟨m.step.len, m.step.old, m.step.dead, m.step.new, fun a o e n => by rw [upd_ne (ne_of_none e hD)]; exact m.step.ext a o e n, fun a xs e => by rw [upd_ne (ne_of_none e hD)]; exact m.step.tup a xs e, rfl⟩
  · have : a ≠ Dl := fun z => by subst z; exact nc ha
    rw [upd_ne this]
  · by_cases z : a = Dl
    · exact ⟨u, by rw [z, upd_same]⟩
    · obtain ⟨o, e⟩ := m.rel.pr a ha
      exact ⟨o, by rw [upd_ne z]; exact e⟩
/-- the list is made: by value -/
theorem Mid.done {as1 as' : Ads} {H1 : Hp} {st' : Sto} (hD : H1 Dl = none) (sr1 : SRel K as1 st H1) (m : Mid K Dl as1 H1 as' st' H) : SRel K ⟨as'.c, as1.p⟩ st' H ∧ TR as' ⟨as'.c, as1.p⟩ H H ∧ ¬ (⟨as'.c, as1.p⟩ : Ads).Has Dl := by
  have t : TR as' ⟨as'.c, as1.p⟩ H H := ⟨fun _ _ e => e, fun a o e n => ⟨e, fun z => by
    rcases z with z | z
    · exact n (.inl z)
    · exact n (.inr (by rw [m.p]; exact List.mem_cons_of_mem _ z))⟩, fun i l => ⟨l, fun _ e => e⟩⟩
  refine ⟨m.rel.trd t.d rfl (fun _ _ => rfl) (fun a ha => m.rel.pr a (by rw [m.p]; exact List.mem_cons_of_mem _ ha)) fun a ha => m.rel.dj a (by rw [m.p]; exact List.mem_cons_of_mem _ ha), t, fun z => ?_⟩
  rcases z with z | z
  · exact m.rel.dj Dl (by rw [m.p]; exact List.mem_cons_self) z
  · obtain ⟨o, e⟩ := sr1.pr Dl z
    rw [hD] at e; cases e
end

/-- the turns of a list comprehension -/
abbrev compF (Γ : Fns) (con : Nat → Option D) (t : Tg) (test : Option CE) (e : CE) (own : List Nat) (env : Env) : D → Sto → Res (Option D × Sto) := fun x s => (Res.of (asgT t x (wipeD env own))).bind fun env1 => (evT Γ con test env1 s).bind fun (b, s1) =>
  if b then (evE Γ con e env1 s1).bind fun (d, s2) => if d.isRef then .bad else .ok (some d, s2) else .ok (none, s1)
theorem compGo_len {f : D → Sto → Res (Option D × Sto)} : ∀ {ds : List D} {st : Sto} {rs : List D} {st2 : Sto}, compGo f ds st = .ok (rs, st2) → rs.length ≤ ds.length
  | [], st, rs, st2, h => by simp only [compGo] at h; cases h; exact Nat.le_refl _
  | x :: r, st, rs, st2, h => by
    simp only [compGo] at h
    obtain ⟨⟨o, st1⟩, e1, h⟩ := Res.bind_ok h
    obtain ⟨⟨ds', st3⟩, e2, h⟩ := Res.bind_ok h
    have := compGo_len e2
    cases h
    cases o <;> simp <;> omega
section
variable {K : PySem.W.Frag} {Γ : Fns} {con : Nat → Option D}
/-- the reading of a comprehension's loop; fin: what is told of the made list -/
theorem lc_loop {wi : TI} {t : Tg} {test : Option CE} {e : CE} {vs : List Nat} (hsub : ∀ i ∈ slotsT t, i ∈ vs) {σ : L2.St} {H : Hp} {Q : VK} {as : Ads} {env : Env} {st st1 st2 : Sto} {ds rs : List D} (er : ERep K as H σ env) (sr : SRel K as st H)
    (hwi : ∀ R : It → Hp → Prop, (∀ J H1 as1, Step as as1 H H1 → SRel K as1 st1 H1 → Wk K J as1 H1 ds → ds.length ≤ sizeLine → R J H1) → wi σ H R) (e2 : compGo (compF Γ con t test e vs env) ds st1 = .ok (rs, st2))
    (fin : ∀ as1 H1 Dl as' H' ws, Step as as1 H H1 → SRel K as1 st1 H1 → H1 Dl = none → Mid K Dl as1 H1 as' st2 H' → H' Dl = some (.lst ws) → DReps K as' H' ws rs → ws.length ≤ sizeLine → Q (.ref Dl) H') :
    tLc wi (tG K t) (tTo K Γ con test) (tE K Γ con e) vs σ H Q := by
  refine hwi _ fun J H1 as1 s1 sr1 wk hlen Dl hD => ?_
  refine ⟨fun i m H => m + i = ds.length ∧ ∃ as' st' ws done rest, Mid K Dl as1 H1 as' st' H ∧ H Dl = some (.lst ws) ∧ DReps K as' H ws done ∧ done.length ≤ i ∧ compGo (compF Γ con t test e vs env) (ds.drop i) st' = .ok (rest, st2) ∧ rs = done ++ rest,
    ⟨ds.length, by omega, ⟨as1.c, Dl :: as1.p⟩, st1, [], [], rs, Mid.start sr1 hD _, upd_same, .nil, Nat.le_refl _, by simpa using e2, rfl⟩, ?_⟩
  rintro i m H2 ⟨hm, as', st', ws, done, rest, mid, hDl, rep, hdl, ego, ers⟩
  by_cases hi : i < ds.length
  · right
    refine ⟨wk.go as' H2 i (mid.tr hD) hi, fun H' => ∃ as' st' ws done rest, Mid K Dl as1 H1 as' st' H' ∧ H' Dl = some (.lst ws) ∧ DReps K as' H' ws done ∧ done.length ≤ i + 1 ∧ compGo (compF Γ con t test e vs env) (ds.drop (i + 1)) st' = .ok (rest, st2) ∧ rs = done ++ rest,
      fun H' hN => ⟨m - 1, by omega, by omega, hN⟩, fun x H' hy => ?_⟩
    obtain ⟨sm, hx⟩ := wk.yld as' st' H2 i x H' ds[i] (mid.tr hD) mid.rel hy (List.getElem?_eq_getElem hi)
    rw [List.drop_eq_getElem_cons hi] at ego
    simp only [compGo] at ego
    obtain ⟨⟨o, stA⟩, g1, ego⟩ := Res.bind_ok ego
    obtain ⟨⟨rest', stB⟩, g2, ego⟩ := Res.bind_ok ego
    simp only [compF] at g1
    obtain ⟨env1, g3, g1⟩ := Res.bind_ok g1
    obtain ⟨⟨b, stC⟩, g4, g1⟩ := Res.bind_ok g1
    have midA := mid.go hD (Step.same sm) (mid.rel.same sm)
    have hDA : H' Dl = some (.lst ws) := sm _ _ hDl
    have repA := DReps.step (Step.same (as := as') sm) _ _ rep
    have g3' : asgT t ds[i] (wipeD env vs) = some env1 := by
      cases hq : asgT t ds[i] (wipeD env vs) with
      | none => rw [hq] at g3; cases g3
      | some z => rw [hq] at g3; cases g3; rfl
    refine ⟨as', wipeD env vs, ds[i], env1, (midA.env hD (er.step s1)).wipe vs, hx.toV, g3', fun σ2 er2 o2 => ⟨?_, ?_⟩⟩
    · rw [(o2.mono hsub).wipe, wipe_wipe]
    · refine ⟨as', env1, st', b, stC, er2, midA.rel, g4, fun H3 as3 s3 sr3 => ?_⟩
      have mid3 := midA.go hD s3 sr3
      have nD : some Dl ∉ as'.c := mid.rel.dj Dl (by rw [mid.p]; exact List.mem_cons_self)
      have hD3 : H3 Dl = some (.lst ws) := s3.ext _ _ hDA nD
      have rep3 := DReps.step s3 _ _ repA
      cases b with
      | false =>
        cases g1
        cases ego
        exact iteF ⟨as3, _, ws, done, _, mid3, hD3, rep3, by omega, g2, ers⟩
      | true =>
        simp only [if_true] at g1
        obtain ⟨⟨d, stE⟩, g5, g1⟩ := Res.bind_ok g1
        simp only at g1
        split at g1
        · cases g1
        · rename_i hr
          cases g1
          cases ego
          refine iteT ⟨as3, env1, stC, d, stA, er2.step s3, sr3, g5, fun y H4 as4 s4 sr4 hy4 => ?_⟩
          have mid4 := mid3.go hD s4 sr4
          have nD3 : some Dl ∉ as3.c := mid3.rel.dj Dl (by rw [mid3.p]; exact List.mem_cons_self)
          have hD4 : H4 Dl = some (.lst ws) := s4.ext _ _ hD3 nD3
          have rep4 := DReps.step s4 _ _ rep3
          have hlw : ws.length = done.length := rep.length
          refine ⟨ws, hD4, by omega, ?_⟩
          obtain ⟨mid5, t5⟩ := mid4.put hD (fun xs z => by rw [hD4] at z; cases z) (.lst (ws ++ [y]))
          have hy' := hy4.toD (by simpa using hr)
          refine ⟨as4, stA, ws ++ [y], done ++ [d], rest', mid5, upd_same, DReps.trd t5.d _ _ (rep4.append (.cons hy' .nil)), by simp; omega, g2, ?_⟩
          rw [ers, List.append_assoc]
          rfl
  · left
    have hdrop : ds.drop i = [] := List.drop_eq_nil_of_le (by omega)
    rw [hdrop] at ego
    simp only [compGo] at ego
    cases ego
    rw [List.append_nil] at ers
    subst ers
    exact ⟨wk.stop as' H2 i (mid.tr hD) (by omega), fin as1 H1 Dl as' H2 ws s1 sr1 hD mid hDl rep (by have := rep.length; omega)⟩
theorem lc_val {t : Tg} {ci : CI} {test : Option CE} {e : CE} {vs : List Nat} (hsub : ∀ i ∈ slotsT t, i ∈ vs) : ∀ σ H Q, tE K Γ con (.comp t ci test e vs) σ H Q → tLc (tI K Γ con ci) (tG K t) (tTo K Γ con test) (tE K Γ con e) vs σ H Q := fun σ H Q ⟨as, env, st, d, st', er, sr, ee, q⟩ => by
  simp only [evE] at ee
  obtain ⟨⟨ds, st1⟩, e1, ee⟩ := Res.bind_ok ee
  obtain ⟨⟨rs, st2⟩, e2, ee⟩ := Res.bind_ok ee
  cases ee
  refine lc_loop (st := st) hsub er sr (fun R hR => ⟨as, env, st, ds, st1, er, sr, e1, hR⟩) e2 fun as1 H1 Dl as' H' ws s1 sr1 hD mid hDl rep hz => ?_
  obtain ⟨sr2, t2, n2⟩ := mid.done hD sr1
  exact q _ _ ⟨as'.c, as1.p⟩ (s1.trans mid.step) sr2 (DRep.lst hDl n2 hz (DReps.trd t2.d _ _ rep)).toV
theorem lc_mut {t : Tg} {ci : CI} {test : Option CE} {e : CE} {vs : List Nat} (hsub : ∀ i ∈ slotsT t, i ∈ vs) : ∀ σ H Q, tE K Γ con (.compM t ci test e vs) σ H Q → tLc (tI K Γ con ci) (tG K t) (tTo K Γ con test) (tE K Γ con e) vs σ H Q := fun σ H Q ⟨as, env, st, d, st', er, sr, ee, q⟩ => by
  simp only [evE] at ee
  obtain ⟨⟨ds, st1⟩, e1, ee⟩ := Res.bind_ok ee
  obtain ⟨⟨rs, st2⟩, e2, ee⟩ := Res.bind_ok ee
  simp only at ee
  split at ee
  case isFalse => cases ee
  rename_i hcl
  cases ee
  refine lc_loop (st := st) hsub er sr (fun R hR => ⟨as, env, st, ds, st1, er, sr, e1, hR⟩) e2 fun as1 H1 Dl as' H' ws s1 sr1 hD mid hDl rep hz => ?_
  obtain ⟨sr2, t2, n2⟩ := mid.done hD sr1
  have rep2 := DReps.trd t2.d _ _ rep
  -- the list becomes an object of the store
  have st3 : Step as1 ⟨as'.c ++ [some Dl], as1.p⟩ H1 H' := by
    refine ⟨by have := mid.step.len; simp at this ⊢; omega, fun j a h => ?_, fun j h => ?_, fun a h => ?_, mid.step.ext, mid.step.tup, rfl⟩
    · have hj : j < as'.c.length := by
        have h1 := mid.step.len
        have : j < as1.c.length := by
          by_cases hl : j < as1.c.length
          · exact hl
          · rw [List.getElem?_eq_none (by simpa using hl)] at h; cases h
        simp at h1; omega
      show (as'.c ++ [some Dl])[j]? = _ ∨ (as'.c ++ [some Dl])[j]? = _
      rw [List.getElem?_append_left hj]
      exact mid.step.old j a h
    · have hj : j < as'.c.length := by
        have h1 := mid.step.len
        have : j < as1.c.length := by
          by_cases hl : j < as1.c.length
          · exact hl
          · rw [List.getElem?_eq_none (by simpa using hl)] at h; cases h
        simp at h1; omega
      show (as'.c ++ [some Dl])[j]? = _
      rw [List.getElem?_append_left hj]
      exact mid.step.dead j h
    · rcases List.mem_append.mp h with h | h
      · exact mid.step.new a h
      · simp at h; subst h; exact .inr hD
  have tB : TR as' ⟨as'.c ++ [some Dl], as1.p⟩ H' H' := ⟨fun _ _ e => e, fun a o e n => ⟨e, fun z => by
    rcases z with z | z
    · rcases List.mem_append.mp z with z | z
      · exact n (.inl z)
      · simp at z; subst z; exact n (.inr (by rw [mid.p]; exact List.mem_cons_self))
    · exact n (.inr (by rw [mid.p]; exact List.mem_cons_of_mem _ z))⟩, fun i l => ⟨by show i < (as'.c ++ [some Dl]).length; simp; omega, fun a e => by
      have e' : (as'.c ++ [some Dl])[i]? = some (some a) := e
      rw [List.getElem?_append_left l] at e'; exact e'⟩⟩
  have nDc : some Dl ∉ as'.c := fun z => n2 (.inl z)
  have sr3 : SRel K ⟨as'.c ++ [some Dl], as1.p⟩ (st2 ++ [.lst rs]) H' := by
    refine ⟨by have := sr2.len; simp at this ⊢; exact this, fun i j a h1 h2 => ?_, fun i o ee => ?_, sr2.pr, fun a ha m => ?_, fun j o e => cl_app (o := .lst rs) sr2.cl hcl e⟩
    · have key : ∀ {i : Nat}, (as'.c ++ [some Dl])[i]? = some (some a) → (as'.c[i]? = some (some a) ∧ a ≠ Dl) ∨ (i = as'.c.length ∧ a = Dl) := fun {i} h => by
        by_cases hi : i < as'.c.length
        · rw [List.getElem?_append_left hi] at h
          exact .inl ⟨h, fun z => by subst z; exact nDc (List.mem_of_getElem? h)⟩
        · rw [List.getElem?_append_right (by omega)] at h
          by_cases hz : i - as'.c.length = 0
          · rw [hz] at h; simp at h; exact .inr ⟨by omega, h.symm⟩
          · rw [List.getElem?_eq_none (by simp; omega)] at h; cases h
      rcases key h1 with ⟨a1, a2⟩ | ⟨a1, a2⟩
      · rcases key h2 with ⟨b1, b2⟩ | ⟨b1, b2⟩
        · exact sr2.nd i j a a1 b1
        · exact absurd b2 a2
      · rcases key h2 with ⟨b1, b2⟩ | ⟨b1, b2⟩
        · exact absurd a2 b2
        · omega
    · have hl := sr2.len
      simp only at hl
      by_cases hi : i < st2.length
      · rw [List.getElem?_append_left hi] at ee
        obtain ⟨x, g1, g2⟩ := mid.rel.rep i o ee
        refine ⟨x, by show (as'.c ++ [some Dl])[i]? = _; rw [List.getElem?_append_left (by omega)]; exact g1, ?_⟩
        cases x with
        | none => cases o <;> exact g2
        | some b =>
          cases o with
          | lst ds => obtain ⟨vs, e2, z, p⟩ := g2; exact ⟨vs, e2, z, DReps.trd tB.d _ _ p⟩
          | dic ds => obtain ⟨vs, e2, z, p⟩ := g2; exact ⟨vs, e2, z, KReps.trd tB.d _ _ p⟩
          | dead => exact g2
      · rw [List.getElem?_append_right (by omega)] at ee
        by_cases hz' : i - st2.length = 0
        · rw [hz'] at ee
          simp at ee
          subst ee
          refine ⟨some Dl, ?_, ws, hDl, hz, DReps.trd tB.d _ _ rep⟩
          show (as'.c ++ [some Dl])[i]? = _
          rw [List.getElem?_append_right (by omega)]
          have : i - as'.c.length = 0 := by omega
          rw [this]; rfl
        · rw [List.getElem?_eq_none (by simp; omega)] at ee; cases ee
    · rcases List.mem_append.mp m with m | m
      · exact sr2.dj a ha m
      · simp at m
        subst m
        exact n2 (.inr ha)
  refine q _ _ _ (s1.trans st3) sr3 ⟨by have := sr2.len; simp at this ⊢; omega, fun a h => ?_⟩
  have h : (as'.c ++ [some Dl])[st2.length]? = some (some a) := h
  have hl := sr2.len
  simp only at hl
  rw [← hl, List.getElem?_append_right (Nat.le_refl _)] at h
  simp at h
  rw [h]
end
end En

set_option Elab.async false
set_option linter.all false
set_option maxRecDepth 100000
set_option maxHeartbeats 1000000
namespace En
open PySem PySem.Spec PyProof.Rows L2
theorem _root_.L2.PE.orD {X : Cx} {e : Expr} {t t' : TE} (h : PE X e t) (h' : PE X e t') : PE X e (fun σ H Q => t σ H Q ∨ t' σ H Q) := ⟨fun pins s σ H Q I q => q.elim (fun z => h.run pins s σ H Q I z) fun z => h'.run pins s σ H Q I z⟩
section
variable {K : PySem.W.Frag} {as : Ads} {H : Hp} {st : Sto} {a : Addr} {kvs : List (Key × V)} {od : Obj}
theorem lock_tr (h : H a = some (.dK kvs)) (n : ¬ as.Has a) : TRd as as H (upd H a (.frz od (.dK kvs))) where
  tup := fun b xs e => by
    have : b ≠ a := fun z => by subst z; rw [h] at e; cases e
    rw [upd_ne this]; exact e
  lst := fun b xs e m => by
    have : b ≠ a := fun z => by subst z; rw [h] at e; cases e
    exact ⟨by rw [upd_ne this]; exact e, m⟩
  rls := fun b xs e m => by
    have : b ≠ a := fun z => by
      subst z
      rcases e with e | ⟨o, e⟩ <;> (rw [h] at e; cases e)
    exact ⟨by unfold Rd; rw [upd_ne this]; exact e, m⟩
  rdk := fun b xs e m => by
    refine ⟨?_, m⟩
    by_cases z : b = a
    · subst z
      rcases e with e | ⟨o, e⟩
      · rw [h] at e; cases e; exact .inr ⟨od, upd_same⟩
      · rw [h] at e; cases e
    · unfold Rd; rw [upd_ne z]; exact e
  mr := fun i l => ⟨l, fun _ e => e⟩
  er := fun b o eo e m => by
    have : b ≠ a := fun z => by subst z; rw [h] at e; cases e; cases eo
    exact ⟨by rw [upd_ne this]; exact e, m⟩
theorem unlock_tr (h : H a = some (.frz od (.dK kvs))) : TRd as as H (upd H a (.dK kvs)) where
  tup := fun b xs e => by
    have : b ≠ a := fun z => by subst z; rw [h] at e; cases e
    rw [upd_ne this]; exact e
  lst := fun b xs e m => by
    have : b ≠ a := fun z => by subst z; rw [h] at e; cases e
    exact ⟨by rw [upd_ne this]; exact e, m⟩
  rls := fun b xs e m => by
    have : b ≠ a := fun z => by
      subst z
      rcases e with e | ⟨o, e⟩ <;> (rw [h] at e; cases e)
    exact ⟨by unfold Rd; rw [upd_ne this]; exact e, m⟩
  rdk := fun b xs e m => by
    refine ⟨?_, m⟩
    by_cases z : b = a
    · subst z
      rcases e with e | ⟨o, e⟩
      · rw [h] at e; cases e
      · rw [h] at e; cases e; exact .inl upd_same
    · unfold Rd; rw [upd_ne z]; exact e
  mr := fun i l => ⟨l, fun _ e => e⟩
  er := fun b o eo e m => by
    have : b ≠ a := fun z => by subst z; rw [h] at e; cases e; cases eo
    exact ⟨by rw [upd_ne this]; exact e, m⟩
theorem lock_rel (r : SRel K as st H) (h : H a = some (.dK kvs)) (n : ¬ as.Has a) : SRel K as st (upd H a (.frz od (.dK kvs))) := by
  refine r.trd (lock_tr h n) rfl (fun b hb => ?_) (fun b hb => ?_) r.dj
  · have : b ≠ a := fun z => by subst z; exact n (.inl hb)
    rw [upd_ne this]
  · by_cases z : b = a
    · exact ⟨_, by rw [z, upd_same]⟩
    · obtain ⟨o, e⟩ := r.pr b hb
      exact ⟨o, by rw [upd_ne z]; exact e⟩
theorem unlock_rel (r : SRel K as st H) (h : H a = some (.frz od (.dK kvs))) (n : ¬ as.Has a) : SRel K as st (upd H a (.dK kvs)) := by
  refine r.trd (unlock_tr h) rfl (fun b hb => ?_) (fun b hb => ?_) r.dj
  · have : b ≠ a := fun z => by subst z; exact n (.inl hb)
    rw [upd_ne this]
  · by_cases z : b = a
    · exact ⟨_, by rw [z, upd_same]⟩
    · obtain ⟨o, e⟩ := r.pr b hb
      exact ⟨o, by rw [upd_ne z]; exact e⟩
/-- behind the lock -/
theorem unlock_step {as' : Ads} {H' : Hp} (h : H a = some (.dK kvs)) (n : ¬ as.Has a) (s : Step as as' (upd H a (.frz od (.dK kvs))) H') : H' a = some (.frz od (.dK kvs)) ∧ ¬ as'.Has a ∧ Step as as' H (upd H' a (.dK kvs)) := by
  have h1 : H' a = some (.frz od (.dK kvs)) := s.extH upd_same n
  refine ⟨h1, s.notin upd_same n, s.len, s.old, s.dead, fun b hb => ?_, fun b o e m => ?_, fun b xs e => ?_, s.prot⟩
  · rcases s.new b hb with z | z
    · exact .inl z
    · by_cases y : b = a
      · subst y; rw [upd_same] at z; cases z
      · rw [upd_ne y] at z; exact .inr z
  · by_cases y : b = a
    · subst y; rw [h] at e; cases e; exact upd_same
    · rw [upd_ne y]; exact s.ext b o (by rw [upd_ne y]; exact e) m
  · have y : b ≠ a := fun z => by subst z; rw [h] at e; cases e
    rw [upd_ne y]
    exact s.tup b xs (by rw [upd_ne y]; exact e)
end
section
variable {X : Cx} {Γ : Fns} {con : Nat → Option D}
/-- what a comprehension's code wants of the text -/
structure LcOk (X : Cx) (Γ : Fns) (con : Nat → Option D) (tg : Expr) (ifs : List Expr) (scope : Scope) (own : List (Str × Nat)) (t : Tg) (test : Option CE) : Prop where
  calm : X.calm = true
  nd : X.N.Nodup
  blk : BlkOk X.N X.env.scope scope own
  sub : ∀ i ∈ slotsT t, i ∈ own.map (·.2)
  tgt : ∀ (s : Shared) (H : Hp) (C : Addr) (cl : List (Str × Addr)) (fp : List Addr), PG (X.blk s H scope (compEnvC scope cl C X.env) fp) tg (tG X.K t)
  tst : ∀ (s : Shared) (H : Hp) (C : Addr) (cl : List (Str × Addr)) (fp : List Addr), PTs (X.blk s H scope (compEnvC scope cl C X.env) fp) ifs (tTo X.K Γ con test)
theorem pd_comp {elt tg iter : Expr} {ifs : List Expr} {scope : Scope} {own : List (Str × Nat)} {pos : Pos} {t : Tg} {ci : CI} {test : Option CE} {ce : CE} (ok : LcOk X Γ con tg ifs scope own t test) (hi : PI X tg iter (tI X.K Γ con ci))
    (he : ∀ (s : Shared) (H : Hp) (C : Addr) (cl : List (Str × Addr)) (fp : List Addr), PE (X.blk s H scope (compEnvC scope cl C X.env) fp) elt (tE X.K Γ con ce)) (hs : ∀ x, foldedSetIterable iter X.env x = pure x) :
    PE X (.ListComp elt [⟨tg, iter, ifs, 0⟩] scope pos) (tE X.K Γ con (.comp t ci test ce (own.map (·.2)))) :=
  (pe_lc ok.calm ok.nd hi ok.blk ok.tgt ok.tst he hs).impD (lc_val ok.sub)
theorem pd_compM {elt tg iter : Expr} {ifs : List Expr} {scope : Scope} {own : List (Str × Nat)} {pos : Pos} {t : Tg} {ci : CI} {test : Option CE} {ce : CE} (ok : LcOk X Γ con tg ifs scope own t test) (hi : PI X tg iter (tI X.K Γ con ci))
    (he : ∀ (s : Shared) (H : Hp) (C : Addr) (cl : List (Str × Addr)) (fp : List Addr), PE (X.blk s H scope (compEnvC scope cl C X.env) fp) elt (tE X.K Γ con ce)) (hs : ∀ x, foldedSetIterable iter X.env x = pure x) :
    PE X (.ListComp elt [⟨tg, iter, ifs, 0⟩] scope pos) (tE X.K Γ con (.compM t ci test ce (own.map (·.2)))) :=
  (pe_lc ok.calm ok.nd hi ok.blk ok.tgt ok.tst he hs).impD (lc_mut ok.sub)
theorem pd_compItems {elt iter : Expr} {elts : List Expr} {kk : Nat} {tpos : Pos} {ifs : List Expr} {scope : Scope} {own : List (Str × Nat)} {pos apos cpos : Pos} {t : Tg} {j : Nat} {test : Option CE} {ce : CE} (ok : LcOk X Γ con (.Tuple elts kk tpos) ifs scope own t test)
    (hv : PE X iter (tVar j)) (hbase : attributeBase iter "items" X.env (eval iter X.env) = eval iter X.env) (hline : (apos.endLine == cpos.line) = true)
    (he : ∀ (s : Shared) (H : Hp) (C : Addr) (cl : List (Str × Addr)) (fp : List Addr), PE (X.blk s H scope (compEnvC scope cl C X.env) fp) elt (tE X.K Γ con ce)) (hs : ∀ x, foldedSetIterable (.Call (.Attribute iter "items" apos) [] [] cpos) X.env x = pure x) :
    PE X (.ListComp elt [⟨.Tuple elts kk tpos, .Call (.Attribute iter "items" apos) [] [] cpos, ifs, 0⟩] scope pos) (tE X.K Γ con (.comp t (.items (.var j)) test ce (own.map (·.2)))) := by
  have base := pe_lc (X := X) (pos := pos) ok.calm ok.nd (pi_items hv hbase hline) ok.blk ok.tgt ok.tst he hs
  refine ((pe_lock base).orD base).impD fun σ H Q ⟨as, env, st, d, st', er, sr, ee, q⟩ => ?_
  simp only [evE, evI] at ee
  obtain ⟨⟨ds, st1⟩, e1, ee⟩ := Res.bind_ok ee
  obtain ⟨⟨rs, st2⟩, e2, ee⟩ := Res.bind_ok ee
  cases ee
  obtain ⟨⟨x, stX⟩, e3, e1⟩ := Res.bind_ok e1
  obtain ⟨ds', e4, e5⟩ := Res.bind_ok e1
  cases e5
  split at e3
  · rename_i dj hdj
    cases e3
    cases hx : x with
    | dic ks =>
      subst hx
      cases e4
      obtain ⟨v, ev, hvr⟩ := er.get j _ hdj
      cases hvr with
      | @dic a kvs _ h1 h2 h3 h4 =>
        have lenD : (ks.map fun kv => D.tup [kD kv.1, kv.2]).length ≤ sizeLine := by rw [List.length_map, ← h4.length]; exact h3
        rcases h1 with h1 | ⟨o, h1⟩
        · left
          refine ⟨a, .dK kvs, h1, trivial, fun od => ?_⟩
          have sr0 := lock_rel (od := od) sr h1 h2
          have er0 := er.trd (lock_tr (od := od) h1 h2) rfl
          have h4' := KReps.trd (lock_tr (od := od) h1 h2) _ _ h4
          refine lc_loop (st := st) (Γ := Γ) (con := con) ok.sub er0 sr0 (fun R hR => ⟨_, ev, a, od, kvs, rfl, upd_same, hR _ _ as (Step.refl _ _) sr0 (wk_items upd_same h2 h4') lenD⟩) e2 fun as1 H1 Dl as' H' ws s1 sr1 hD mid hDl rep hz => ?_
          obtain ⟨sr2, t2, n2⟩ := mid.done hD sr1
          obtain ⟨g1, g2, g3⟩ := unlock_step h1 h2 (s1.trans mid.step)
          refine ⟨g1, q _ _ _ g3 (unlock_rel sr2 g1 g2) (DRep.trd (unlock_tr g1) _ _ (DRep.lst hDl n2 hz (DReps.trd t2.d _ _ rep))).toV⟩
        · right
          refine lc_loop (st := st) (Γ := Γ) (con := con) ok.sub er sr (fun R hR => ⟨_, ev, a, o, kvs, rfl, h1, hR _ _ as (Step.refl _ _) sr (wk_items h1 h2 h4) lenD⟩) e2 fun as1 H1 Dl as' H' ws s1 sr1 hD mid hDl rep hz => ?_
          obtain ⟨sr2, t2, n2⟩ := mid.done hD sr1
          exact q _ _ ⟨as'.c, as1.p⟩ (s1.trans mid.step) sr2 (DRep.lst hDl n2 hz (DReps.trd t2.d _ _ rep)).toV
    | _ => subst hx; cases e4
  · cases e3
end
abbrev dcompF (Γ : Fns) (con : Nat → Option D) (t : Tg) (test : Option CE) (k v : CE) (own : List Nat) (env : Env) : D → Sto → Res (Option (Key × D) × Sto) := fun x s => (Res.of (asgT t x (wipeD env own))).bind fun env1 => (evT Γ con test env1 s).bind fun (b, s1) =>
  if b then (evE Γ con k env1 s1).bind fun (kd, s2) => (evE Γ con v env1 s2).bind fun (d, s3) => if d.isRef then .bad else (Res.of (keyOf kd)).bind fun kk => .ok (some (kk, d), s3) else .ok (none, s1)
section
variable {X : Cx} {Γ : Fns} {con : Nat → Option D}
theorem dc_val {K : PySem.W.Frag} {t : Tg} {ci : CI} {test : Option CE} {k v : CE} {vs : List Nat} (hsub : ∀ i ∈ slotsT t, i ∈ vs) : ∀ σ H Q, tE K Γ con (.dcomp t ci test k v vs) σ H Q → tDc (tI K Γ con ci) (tG K t) (tTo K Γ con test) (tE K Γ con k) (tE K Γ con v) vs σ H Q := fun σ H Q ⟨as, env, st, d, st', er, sr, ee, q⟩ => by
  simp only [evE] at ee
  obtain ⟨⟨ds, st1⟩, e1, ee⟩ := Res.bind_ok ee
  obtain ⟨⟨rs, st2⟩, e2, ee⟩ := Res.bind_ok ee
  cases ee
  have e2 : dcompGo (dcompF Γ con t test k v vs env) ds [] st1 = .ok (rs, st2) := e2
  refine ⟨as, env, st, ds, st1, er, sr, e1, fun J H1 as1 s1 sr1 wk hlen Dl hD => ?_⟩
  refine ⟨fun i m H => m + i = ds.length ∧ ∃ as' st'' ws acc, Mid K Dl as1 H1 as' st'' H ∧ H Dl = some (.dK ws) ∧ KReps K as' H ws acc ∧ acc.length ≤ i ∧ dcompGo (dcompF Γ con t test k v vs env) (ds.drop i) acc st'' = .ok (rs, st2),
    ⟨ds.length, by omega, ⟨as1.c, Dl :: as1.p⟩, st1, [], [], Mid.start sr1 hD _, upd_same, .nil, Nat.le_refl _, by simpa using e2⟩, ?_⟩
  rintro i m H2 ⟨hm, as', st'', ws, acc, mid, hDl, rep, hdl, ego⟩
  by_cases hi : i < ds.length
  · right
    refine ⟨wk.go as' H2 i (mid.tr hD) hi, fun H' => ∃ as' st'' ws acc, Mid K Dl as1 H1 as' st'' H' ∧ H' Dl = some (.dK ws) ∧ KReps K as' H' ws acc ∧ acc.length ≤ i + 1 ∧ dcompGo (dcompF Γ con t test k v vs env) (ds.drop (i + 1)) acc st'' = .ok (rs, st2),
      fun H' hN => ⟨m - 1, by omega, by omega, hN⟩, fun x H' hy => ?_⟩
    obtain ⟨sm, hx⟩ := wk.yld as' st'' H2 i x H' ds[i] (mid.tr hD) mid.rel hy (List.getElem?_eq_getElem hi)
    rw [List.drop_eq_getElem_cons hi] at ego
    simp only [dcompGo] at ego
    obtain ⟨⟨o, stA⟩, g1, ego⟩ := Res.bind_ok ego
    simp only [dcompF] at g1
    obtain ⟨env1, g3, g1⟩ := Res.bind_ok g1
    obtain ⟨⟨b, stC⟩, g4, g1⟩ := Res.bind_ok g1
    have midA := mid.go hD (Step.same sm) (mid.rel.same sm)
    have hDA : H' Dl = some (.dK ws) := sm _ _ hDl
    have repA := KReps.step (Step.same (as := as') sm) _ _ rep
    have g3' : asgT t ds[i] (wipeD env vs) = some env1 := by
      cases hq : asgT t ds[i] (wipeD env vs) with
      | none => rw [hq] at g3; cases g3
      | some z => rw [hq] at g3; cases g3; rfl
    refine ⟨as', wipeD env vs, ds[i], env1, (midA.env hD (er.step s1)).wipe vs, hx.toV, g3', fun σ2 er2 o2 => ⟨?_, ?_⟩⟩
    · rw [(o2.mono hsub).wipe, wipe_wipe]
    · refine ⟨as', env1, st'', b, stC, er2, midA.rel, g4, fun H3 as3 s3 sr3 => ?_⟩
      have mid3 := midA.go hD s3 sr3
      have nD : some Dl ∉ as'.c := mid.rel.dj Dl (by rw [mid.p]; exact List.mem_cons_self)
      have hD3 : H3 Dl = some (.dK ws) := s3.ext _ _ hDA nD
      have rep3 := KReps.step s3 _ _ repA
      cases b with
      | false =>
        cases g1
        exact iteF ⟨as3, _, ws, acc, mid3, hD3, rep3, by omega, ego⟩
      | true =>
        simp only [if_true] at g1
        obtain ⟨⟨kd, stE⟩, g5, g1⟩ := Res.bind_ok g1
        obtain ⟨⟨vd, stF⟩, g6, g1⟩ := Res.bind_ok g1
        simp only at g1
        split at g1
        · cases g1
        · rename_i hr
          obtain ⟨kk, g7, g1⟩ := Res.bind_ok g1
          cases g1
          refine iteT ⟨as3, env1, stC, kd, stE, er2.step s3, sr3, g5, fun y H4 as4 s4 sr4 hy4 => ⟨as4, env1, stE, vd, _, (er2.step s3).step s4, sr4, g6, fun z H5 as5 s5 sr5 hz5 => ?_⟩⟩
          have mid5 := (mid3.go hD s4 sr4).go hD s5 sr5
          have nD3 : some Dl ∉ as3.c := mid3.rel.dj Dl (by rw [mid3.p]; exact List.mem_cons_self)
          have hD5 : H5 Dl = some (.dK ws) := (s4.trans s5).ext _ _ hD3 nD3
          have rep5 := KReps.step (s4.trans s5) _ _ rep3
          have hlw : ws.length = acc.length := rep.length
          have hk : keyOf kd = some kk := by
            cases hq : keyOf kd with
            | none => rw [hq] at g7; cases g7
            | some z => rw [hq] at g7; cases g7; rfl
          have ey : y = kV kk := by
            cases kd with
            | int i => exact DRep.key hy4 hk
            | str i => exact DRep.key hy4 hk
            | _ => cases hk
          refine ⟨ws, kk, ey, hD5, by omega, ?_⟩
          obtain ⟨mid6, t6⟩ := mid5.put hD (fun xs z => by rw [hD5] at z; cases z) (.dK (putK ws kk z))
          have hz' := hz5.toD (by simpa using hr)
          refine ⟨as5, _, putK ws kk z, dput acc kk vd, mid6, upd_same, KReps.trd t6.d _ _ (rep5.put hz'), ?_, ego⟩
          have l1 := len_put ws kk z
          have l2 := (rep5.put (k := kk) hz').length
          omega
  · left
    have hdrop : ds.drop i = [] := List.drop_eq_nil_of_le (by omega)
    rw [hdrop] at ego
    simp only [dcompGo] at ego
    cases ego
    obtain ⟨sr2, t2, n2⟩ := mid.done hD sr1
    exact ⟨wk.stop as' H2 i (mid.tr hD) (by omega), q _ _ ⟨as'.c, as1.p⟩ (s1.trans mid.step) sr2 (DRep.dic (.inl hDl) n2 (by have := rep.length; omega) (KReps.trd t2.d _ _ rep)).toV⟩
theorem pd_dcomp {kx vx tg iter : Expr} {ifs : List Expr} {scope : Scope} {own : List (Str × Nat)} {pos : Pos} {t : Tg} {ci : CI} {test : Option CE} {ck cv : CE} (ok : LcOk X Γ con tg ifs scope own t test) (hi : PI X tg iter (tI X.K Γ con ci))
    (hk : ∀ (s : Shared) (H : Hp) (C : Addr) (cl : List (Str × Addr)) (fp : List Addr), PE (X.blk s H scope (compEnvC scope cl C X.env) fp) kx (tE X.K Γ con ck))
    (he : ∀ (s : Shared) (H : Hp) (C : Addr) (cl : List (Str × Addr)) (fp : List Addr), PE (X.blk s H scope (compEnvC scope cl C X.env) fp) vx (tE X.K Γ con cv)) (hs : ∀ x, foldedSetIterable iter X.env x = pure x) :
    PE X (.DictComp kx vx [⟨tg, iter, ifs, 0⟩] scope pos) (tE X.K Γ con (.dcomp t ci test ck cv (own.map (·.2)))) :=
  (pe_dc ok.calm ok.nd hi ok.blk ok.tgt ok.tst hk he hs).impD (dc_val ok.sub)
end
end En

set_option Elab.async false
set_option linter.all false
set_option maxRecDepth 100000
set_option maxHeartbeats 1000000
namespace En
open PySem PySem.Spec PyProof.Rows L2
/-- what is wanted where code ends -/
def EndOf (K : PySem.W.Frag) (Dn : Ends) (as' : Ads) (σ' : L2.St) (H' : Hp) : Fl → Prop
  | .next => Dn.nx σ' H'
  | .brk => Dn.bk σ' H'
  | .cont => Dn.ct σ' H'
  | .ret d => ∀ v, VRep K as' H' v d → Dn.rt v H'
def tBk (K : PySem.W.Frag) (ev : Env → Sto → Res (Fl × Env × Sto)) : TS := fun Dn σ H => ∃ as env st fl env' st', ERep K as H σ env ∧ SRel K as st H ∧ ev env st = .ok (fl, env', st') ∧
  ∀ σ' H' as', Step as as' H H' → SRel K as' st' H' → ERep K as' H' σ' env' → EndOf K Dn as' σ' H' fl
section
variable {X : Cx} {Γ : Fns} {con : Nat → Option D} {F : Nat} {pos : Pos} {st : Stmt} {sts : List Stmt} {c : CS} {cs : List CS} {a b : Expr} {ca cb : CE}
abbrev tS (K : PySem.W.Frag) (Γ : Fns) (con : Nat → Option D) (F : Nat) (c : CS) : TS := tBk K (evS Γ con F c)
abbrev tSs (K : PySem.W.Frag) (Γ : Fns) (con : Nat → Option D) (F : Nat) (c : List CS) : TS := tBk K (evSs Γ con F c)
theorem pds_nil : PSs X [] (tSs X.K Γ con F []) := pss_nil.impD fun Dn σ H ⟨as, env, s, fl, env', s', er, sr, e, q⟩ => by
  simp only [evSs] at e
  cases e
  exact q σ H as (Step.refl _ _) sr er
theorem pds_cons (h1 : PS X st (tS X.K Γ con F c)) (h2 : PSs X sts (tSs X.K Γ con F cs)) : PSs X (st :: sts) (tSs X.K Γ con F (c :: cs)) := (pss_cons h1 h2).impD fun Dn σ H ⟨as, env, s, fl, env', s', er, sr, e, q⟩ => by
  simp only [evSs] at e
  obtain ⟨⟨fl1, env1, s1⟩, e1, e⟩ := Res.bind_ok e
  refine ⟨as, env, s, fl1, env1, s1, er, sr, e1, fun σ1 H1 as1 st1 sr1 er1 => ?_⟩
  cases fl1 with
  | next => exact ⟨as1, env1, s1, fl, env', s', er1, sr1, e, fun σ2 H2 as2 st2 sr2 er2 => q σ2 H2 as2 (st1.trans st2) sr2 er2⟩
  | brk => cases e; exact q σ1 H1 as1 st1 sr1 er1
  | cont => cases e; exact q σ1 H1 as1 st1 sr1 er1
  | ret d => cases e; exact q σ1 H1 as1 st1 sr1 er1
theorem pd_pass : PS X (.Pass pos) (tS X.K Γ con F .pass) := ps_pass.impD fun Dn σ H ⟨as, env, s, fl, env', s', er, sr, e, q⟩ => by
  simp only [evS] at e
  cases e
  exact q σ H as (Step.refl _ _) sr er
theorem pd_break : PS X (.Break pos) (tS X.K Γ con F .brk) := ps_break.impD fun Dn σ H ⟨as, env, s, fl, env', s', er, sr, e, q⟩ => by
  simp only [evS] at e
  cases e
  exact q σ H as (Step.refl _ _) sr er
theorem pd_continue : PS X (.Continue pos) (tS X.K Γ con F .cont) := ps_continue.impD fun Dn σ H ⟨as, env, s, fl, env', s', er, sr, e, q⟩ => by
  simp only [evS] at e
  cases e
  exact q σ H as (Step.refl _ _) sr er
theorem pd_never : PS X st (tS X.K Γ con F .never) := ps_never.impD fun Dn σ H ⟨as, env, s, fl, env', s', er, sr, e, q⟩ => by
  simp only [evS] at e
  cases e
theorem pd_ex (ha : PE X a (tE X.K Γ con ca)) (hs : swapsWith a none pos.line X.env = pure false) : PS X (.Expr a pos) (tS X.K Γ con F (.ex ca)) := (ps_expr ha hs).impD fun Dn σ H ⟨as, env, s, fl, env', s', er, sr, e, q⟩ => by
  simp only [evS] at e
  obtain ⟨⟨d, s1⟩, e1, e⟩ := Res.bind_ok e
  cases e
  exact ⟨as, env, s, d, _, er, sr, e1, fun v H1 as1 st1 sr1 hv => q σ H1 as1 st1 sr1 (er.step st1)⟩
theorem pd_ret (ha : PE X a (tE X.K Γ con ca)) : PS X (.Return (some a) pos) (tS X.K Γ con F (.ret ca)) := (ps_ret ha).impD fun Dn σ H ⟨as, env, s, fl, env', s', er, sr, e, q⟩ => by
  simp only [evS] at e
  obtain ⟨⟨d, s1⟩, e1, e⟩ := Res.bind_ok e
  cases e
  exact ⟨as, env, s, d, _, er, sr, e1, fun v H1 as1 st1 sr1 hv => q σ H1 as1 st1 sr1 (er.step st1) v hv⟩
theorem pd_retN : PS X (.Return none pos) (tS X.K Γ con F .retN) := ps_retN.impD fun Dn σ H ⟨as, env, s, fl, env', s', er, sr, e, q⟩ => by
  simp only [evS] at e
  cases e
  exact q σ H as (Step.refl _ _) sr er _ DRep.non.toV
theorem pd_if {x y : List Stmt} {cx cy : List CS} (hc : PT X a (tTest' X.K Γ con ca)) (hx : PSs X x (tSs X.K Γ con F cx)) (hy : PSs X y (tSs X.K Γ con F cy)) : PS X (.If a x y pos) (tS X.K Γ con F (.ite ca cx cy)) :=
  (ps_if hc hx hy).impD fun Dn σ H ⟨as, env, s, fl, env', s', er, sr, e, q⟩ => by
    simp only [evS] at e
    obtain ⟨⟨d, s1⟩, e1, e⟩ := Res.bind_ok e
    obtain ⟨r, e2, e⟩ := Res.bind_ok e
    cases asBool_ok e2
    refine ⟨as, env, s, _, _, er, sr, e1, fun H1 as1 st1 sr1 => ?_⟩
    cases r with
    | true => exact iteT ⟨as1, env, s1, fl, env', s', er.step st1, sr1, e, fun σ2 H2 as2 st2 sr2 er2 => q σ2 H2 as2 (st1.trans st2) sr2 er2⟩
    | false => exact iteF ⟨as1, env, s1, fl, env', s', er.step st1, sr1, e, fun σ2 H2 as2 st2 sr2 er2 => q σ2 H2 as2 (st1.trans st2) sr2 er2⟩
theorem asg_imp {t : Tg} {te : TE} (hte : te = tE X.K Γ con ca) : ∀ Dn σ H, tS X.K Γ con F (.asg t ca) Dn σ H → tAsg te (tG X.K t) Dn σ H := fun Dn σ H ⟨as, env, s, fl, env', s', er, sr, e, q⟩ => by
  subst hte
  simp only [evS] at e
  obtain ⟨⟨d, s1⟩, e1, e⟩ := Res.bind_ok e
  obtain ⟨env1, e2, e⟩ := Res.bind_ok e
  cases e
  have e2' : asgT t d env = some env' := by
    cases hq : asgT t d env with
    | none => rw [hq] at e2; cases e2
    | some z => rw [hq] at e2; cases e2; rfl
  exact ⟨as, env, s, d, _, er, sr, e1, fun v H1 as1 st1 sr1 hv => ⟨as1, env, d, env', er.step st1, hv, e2', fun σ2 er2 _ => q σ2 H1 as1 st1 sr1 er2⟩⟩
theorem pd_asg {tg : Expr} {t : Tg} (ha : PE X a (tE X.K Γ con ca)) (hg : PG X tg (tG X.K t)) (hs : swapsWithSole [tg] a pos.line X.env = pure false) (hw : swappedStores [tg] a X.env = pure none) (h1 : (assignEach [tg] X.env).map (·.2) = [assign tg X.env]) : PS X (.Assign [tg] a pos) (tS X.K Γ con F (.asg t ca)) :=
  (ps_asg ha hg hs hw h1).impD (asg_imp rfl)
/-- name = [..] -/
theorem pd_setLc {i : Nat} {y : Str} {py : Pos} {elt tg iter : Expr} {ifs : List Expr} {scope : Scope} {own : List (Str × Nat)} {spos : Pos} {t : Tg} {ci : CI} {test : Option CE} {ce : CE} (ok : LcOk X Γ con tg ifs scope own t test) (hi : PI X tg iter (tI X.K Γ con ci))
    (he : ∀ (s : Shared) (H : Hp) (C : Addr) (cl : List (Str × Addr)) (fp : List Addr), PE (X.blk s H scope (compEnvC scope cl C X.env) fp) elt (tE X.K Γ con ce)) (hs : ∀ x, foldedSetIterable iter X.env x = pure x)
    (hy : X.N[i]? = some y) (hyl : X.env.scope.names.lookup y = some .local) (hsw : swapsWith (.ListComp elt [⟨tg, iter, ifs, 0⟩] scope pos) (some (.Name y py)) spos.line X.env = pure true) :
    PS X (.Assign [.Name y py] (.ListComp elt [⟨tg, iter, ifs, 0⟩] scope pos) spos) (tS X.K Γ con F (.asg (.name i) (.comp t ci test ce (own.map (·.2))))) :=
  (ps_setLc ok.calm ok.nd hy hyl hsw hi ok.blk ok.tgt ok.tst he hs).impD fun Dn σ H h => by
    have h2 := asg_imp (te := _) rfl Dn σ H h
    refine lc_val ok.sub σ H _ ?_
    obtain ⟨as, env, s, d, s', er, sr, e, q⟩ := h2
    refine ⟨as, env, s, d, s', er, sr, e, fun v H' as' st' sr' hv => ?_⟩
    obtain ⟨as2, env2, d2, env', er2, hv2, e2, q2⟩ := q v H' as' st' sr' hv
    simp only [asgT] at e2
    cases e2
    refine q2 _ (er2.set hv2) ⟨by simp, fun j hj => ?_⟩
    have : i ≠ j := fun z => hj (by simp [slotsT, z])
    rw [List.getElem?_set_ne this]
theorem pd_setLcM {i : Nat} {y : Str} {py : Pos} {elt tg iter : Expr} {ifs : List Expr} {scope : Scope} {own : List (Str × Nat)} {spos : Pos} {t : Tg} {ci : CI} {test : Option CE} {ce : CE} (ok : LcOk X Γ con tg ifs scope own t test) (hi : PI X tg iter (tI X.K Γ con ci))
    (he : ∀ (s : Shared) (H : Hp) (C : Addr) (cl : List (Str × Addr)) (fp : List Addr), PE (X.blk s H scope (compEnvC scope cl C X.env) fp) elt (tE X.K Γ con ce)) (hs : ∀ x, foldedSetIterable iter X.env x = pure x)
    (hy : X.N[i]? = some y) (hyl : X.env.scope.names.lookup y = some .local) (hsw : swapsWith (.ListComp elt [⟨tg, iter, ifs, 0⟩] scope pos) (some (.Name y py)) spos.line X.env = pure true) :
    PS X (.Assign [.Name y py] (.ListComp elt [⟨tg, iter, ifs, 0⟩] scope pos) spos) (tS X.K Γ con F (.asg (.name i) (.compM t ci test ce (own.map (·.2))))) :=
  (ps_setLc ok.calm ok.nd hy hyl hsw hi ok.blk ok.tgt ok.tst he hs).impD fun Dn σ H h => by
    have h2 := asg_imp (te := _) rfl Dn σ H h
    refine lc_mut ok.sub σ H _ ?_
    obtain ⟨as, env, s, d, s', er, sr, e, q⟩ := h2
    refine ⟨as, env, s, d, s', er, sr, e, fun v H' as' st' sr' hv => ?_⟩
    obtain ⟨as2, env2, d2, env', er2, hv2, e2, q2⟩ := q v H' as' st' sr' hv
    simp only [asgT] at e2
    cases e2
    refine q2 _ (er2.set hv2) ⟨by simp, fun j hj => ?_⟩
    have : i ≠ j := fun z => hj (by simp [slotsT, z])
    rw [List.getElem?_set_ne this]
theorem pd_set {i : Nat} {x : Str} {px : Pos} (hN : X.N.Nodup) (hi : X.N[i]? = some x) (hx : Loc X.env.scope x) (hf : X.fn x = true ∨ X.env.scope.names.lookup x = some .local) (ha : PE X a (tE X.K Γ con ca)) (hs : swapsWith a (some (.Name x px)) pos.line X.env = pure false) :
    PS X (.Assign [.Name x px] a pos) (tS X.K Γ con F (.asg (.name i) ca)) :=
  (ps_set hN hi hx ha hs hf).impD fun Dn σ H h => by
    obtain ⟨as, env, s, d, s', er, sr, e, q⟩ := asg_imp (te := _) rfl Dn σ H h
    refine ⟨as, env, s, d, s', er, sr, e, fun v H' as' st' sr' hv => ?_⟩
    obtain ⟨as2, env2, d2, env', er2, hv2, e2, q2⟩ := q v H' as' st' sr' hv
    simp only [asgT] at e2
    cases e2
    refine q2 _ (er2.set hv2) ⟨by simp, fun j hj => ?_⟩
    have : i ≠ j := fun z => hj (by simp [slotsT, z])
    rw [List.getElem?_set_ne this]
theorem pd_par2 {i j : Nat} {x y : Str} {px py pt : Pos} {kt k2 : Nat} {pt2 : Pos} (hc : X.calm = true) (hN : X.N.Nodup) (hi : X.N[i]? = some x) (hj : X.N[j]? = some y) (hij : i ≠ j)
    (hx : X.env.scope.names.lookup x = some .local) (hy : X.env.scope.names.lookup y = some .local) (hA : PA X [a, b] (tAs X.K Γ con [ca, cb]))
    (hw : swappedStores [.Tuple [.Name x px, .Name y py] kt pt] (.Tuple [a, b] k2 pt2) X.env = pure (some [x, y])) :
    PS X (.Assign [.Tuple [.Name x px, .Name y py] kt pt] (.Tuple [a, b] k2 pt2) pos) (tS X.K Γ con F (.par [i, j] [ca, cb])) :=
  (ps_par hc hN hi hj hij hx hy hA hw).impD fun Dn σ H ⟨as, env, s, fl, env', s', er, sr, e, q⟩ => by
    simp only [evS] at e
    obtain ⟨⟨ds, s1⟩, e1, e⟩ := Res.bind_ok e
    obtain ⟨env1, e2, e⟩ := Res.bind_ok e
    cases e
    refine ⟨as, env, s, ds, _, er, sr, e1, fun vs H1 as1 st1 sr1 hv => ?_⟩
    match ds, hv, e2 with
    | [d1, d2], hv, e2 =>
      obtain ⟨v, u, rfl, h1, h2⟩ := hv.two
      simp only [setAll, Res.of] at e2
      cases e2
      exact ⟨v, u, rfl, q _ H1 as1 st1 sr1 (((er.step st1).set h1).set h2)⟩
    | [], hv, e2 => simp [setAll, Res.of] at e2
    | [_], hv, e2 => simp [setAll, Res.of] at e2
    | _ :: _ :: _ :: _, hv, e2 => simp [setAll, Res.of] at e2
theorem pd_par3 {i j l : Nat} {x y z : Str} {c' : Expr} {cc : CE} {px py pz pt : Pos} {kt k2 : Nat} {pt2 : Pos} (hc : X.calm = true) (hN : X.N.Nodup) (hi : X.N[i]? = some x) (hj : X.N[j]? = some y) (hl : X.N[l]? = some z) (hij : i ≠ j) (hil : i ≠ l) (hjl : j ≠ l)
    (hx : X.env.scope.names.lookup x = some .local) (hy : X.env.scope.names.lookup y = some .local) (hz : X.env.scope.names.lookup z = some .local) (hA : PA X [a, b, c'] (tAs X.K Γ con [ca, cb, cc]))
    (hw : swappedStores [.Tuple [.Name x px, .Name y py, .Name z pz] kt pt] (.Tuple [a, b, c'] k2 pt2) X.env = pure (some [x, y, z])) :
    PS X (.Assign [.Tuple [.Name x px, .Name y py, .Name z pz] kt pt] (.Tuple [a, b, c'] k2 pt2) pos) (tS X.K Γ con F (.par [i, j, l] [ca, cb, cc])) :=
  (ps_par3 hc hN hi hj hl hij hil hjl hx hy hz hA hw).impD fun Dn σ H ⟨as, env, s, fl, env', s', er, sr, e, q⟩ => by
    simp only [evS] at e
    obtain ⟨⟨ds, s1⟩, e1, e⟩ := Res.bind_ok e
    obtain ⟨env1, e2, e⟩ := Res.bind_ok e
    cases e
    refine ⟨as, env, s, ds, _, er, sr, e1, fun vs H1 as1 st1 sr1 hv => ?_⟩
    match ds, hv, e2 with
    | [d1, d2, d3], hv, e2 =>
      cases hv with
      | cons h1 hv =>
        obtain ⟨v, u, rfl, h2, h3⟩ := hv.two
        simp only [setAll, Res.of] at e2
        cases e2
        exact ⟨_, v, u, rfl, q _ H1 as1 st1 sr1 ((((er.step st1).set h1).set h2).set h3)⟩
    | [], hv, e2 => simp [setAll, Res.of] at e2
    | [_], hv, e2 => simp [setAll, Res.of] at e2
    | [_, _], hv, e2 => simp [setAll, Res.of] at e2
    | _ :: _ :: _ :: _ :: _, hv, e2 => simp [setAll, Res.of] at e2
theorem iop_bop (op : BOp) (hop : op = .add ∨ op = .sub ∨ op = .mul ∨ op = .mod) : PIp X (pyBin op) (fun x y H Q => ∃ dx dy d, (∀ as', DRep X.K as' H x dx) ∧ (∀ as', DRep X.K as' H y dy) ∧ ((∃ a b, dx = .int a ∧ dy = .int b) ∨ ∃ a b, dx = .str a ∧ dy = .str b) ∧ bop op dx dy = .ok d ∧ ∀ v, (∀ as', DRep X.K as' H v d) → Q v H) := by
  intro pins s σ H x y v u Q I rx ry ⟨dx, dy, d, hx, hy, hd, e, q⟩
  have hx := hx ⟨[], []⟩
  have hy := hy ⟨[], []⟩
  rcases hd with ⟨a, b, rfl, rfl⟩ | ⟨a, b, rfl, rfl⟩
  · cases hx
    cases hy
    rcases hop with rfl | rfl | rfl | rfl
    · cases e; exact iop_add pins s σ H _ _ v u Q I rx ry ⟨a, b, rfl, rfl, q _ fun _ => .int _⟩
    · cases e; exact iop_sub pins s σ H _ _ v u Q I rx ry ⟨a, b, rfl, rfl, q _ fun _ => .int _⟩
    · simp only [bop] at e
      split at e
      · rename_i h
        cases e
        obtain ⟨t, rfl⟩ := rx
        obtain ⟨t', rfl⟩ := ry
        exact imul_int ⟨.int _, H, I.tok _, ⟨_, rfl⟩, q _ fun _ => .int _⟩ (CMulW.ok h)
      · cases e
    · simp only [bop] at e
      split at e
      · rename_i h
        cases e
        exact iop_mod pins s σ H _ _ v u Q I rx ry ⟨a, b, rfl, rfl, h, q _ fun _ => .int _⟩
      · cases e
  · cases hx
    cases hy
    rcases hop with rfl | rfl | rfl | rfl
    · simp only [bop] at e
      split at e
      · rename_i h
        cases e
        exact iop_add_str pins s σ H _ _ v u Q I rx ry ⟨a, b, rfl, rfl, by rw [← LIM_eq]; exact h, q _ fun _ => .str _⟩
      · cases e
    · cases e
    · cases e
    · cases e
theorem pd_aug {i : Nat} {x : Str} {px : Pos} {op : BOp} (hop : op = .add ∨ op = .sub ∨ op = .mul ∨ op = .mod) (hN : X.N.Nodup) (hi : X.N[i]? = some x) (hx : Loc X.env.scope x) (hf : X.fn x = true ∨ X.env.scope.names.lookup x = some .local) (ha : PE X a (tE X.K Γ con ca)) :
    PS X (.AugAssign (.Name x px) (pyBin op) a pos) (tS X.K Γ con F (.aug i op ca)) :=
  (ps_aug hN hi hx ha (iop_bop op hop) hf).impD fun Dn σ H ⟨as, env, s, fl, env', s', er, sr, e, q⟩ => by
    simp only [evS] at e
    split at e
    · rename_i d0 hd0
      obtain ⟨⟨d1, s1⟩, e1, e⟩ := Res.bind_ok e
      obtain ⟨v0, g1, g2⟩ := er.get i d0 hd0
      refine ⟨v0, g1, as, env, s, d1, s1, er, sr, e1, fun v H1 as1 st1 sr1 hv => ?_⟩
      simp only at e
      split at e
      · rename_i A B _
        obtain ⟨d, e3, e⟩ := Res.bind_ok e
        cases e
        cases g2
        cases hv
        refine ⟨.int A, .int B, d, fun _ => .int A, fun _ => .int B, .inl ⟨_, _, rfl, rfl⟩, e3, fun w hw => q _ H1 as1 st1 sr1 ((er.step st1).set (hw as1).toV)⟩
      · rename_i A B _
        obtain ⟨d, e3, e⟩ := Res.bind_ok e
        cases e
        cases g2
        cases hv
        refine ⟨.str A, .str B, d, fun _ => .str A, fun _ => .str B, .inr ⟨_, _, rfl, rfl⟩, e3, fun w hw => q _ H1 as1 st1 sr1 ((er.step st1).set (hw as1).toV)⟩
      · cases e
    · cases e
end
end En

set_option Elab.async false
set_option linter.all false
set_option maxRecDepth 100000
set_option maxHeartbeats 1000000
namespace En
open PySem PySem.Spec PyProof.Rows L2
section
variable {X : Cx} {Γ : Fns} {con : Nat → Option D} {F : Nat} {pos : Pos}
def rSetD : V → V → V → Hp → (Hp → Prop) → Prop := fun o i v H Q => ∃ a H', o = .ref a ∧ DPut H a i v H' ∧ Q H'
theorem set_dict (hu : X.A.units + 1 < cLine) : PSet X rSetD := by
  intro pins s σ H o i v ov iv u Q I ro ri rv ⟨a, H', eo, g, q⟩
  subst eo
  obtain rfl : ov = Value.ref a := ro
  exact d_setItem hu I g ri rv fun s' I' => ⟨H', I', q⟩
theorem set_or {r r' : V → V → V → Hp → (Hp → Prop) → Prop} (h : PSet X r) (h' : PSet X r') : PSet X (fun o i v H Q => r o i v H Q ∨ r' o i v H Q) := by
  intro pins s σ H o i v ov iv u Q I ro ri rv z
  rcases z with z | z
  · exact h pins s σ H o i v ov iv u Q I ro ri rv z
  · exact h' pins s σ H o i v ov iv u Q I ro ri rv z
theorem pd_setix {o i a : Expr} {co ci ca : CE} {tpos : Pos} (hu : X.A.units + 1 < cLine) (ho : PE X o (tE X.K Γ con co)) (hi : PE X i (tE X.K Γ con ci)) (ha : PE X a (tE X.K Γ con ca))
    (has : ∀ v, assign (.Subscript o i tpos) X.env v = (do
      let ov ← holding [v] (eval o X.env)
      let iv ← holding [v, ov] (eval i X.env)
      standAt tpos
      holding [v, ov, iv] (setItem ov iv v)
      release [v, ov, iv] [])) (hs : swapsWithSole [.Subscript o i tpos] a pos.line X.env = pure false) (hw : swappedStores [.Subscript o i tpos] a X.env = pure none) (h1 : (assignEach [.Subscript o i tpos] X.env).map (·.2) = [assign (.Subscript o i tpos) X.env]) :
    PS X (.Assign [.Subscript o i tpos] a pos) (tS X.K Γ con F (.setix co ci ca)) :=
  (ps_asg ha (pg_sub ho hi (set_or set_list (set_dict hu)) has) hs hw h1).impD fun Dn σ H ⟨as, env, s, fl, env', s', er, sr, e, q⟩ => by
    simp only [evS] at e
    obtain ⟨⟨y, s1⟩, e1, e⟩ := Res.bind_ok e
    obtain ⟨⟨x, s2⟩, e2, e⟩ := Res.bind_ok e
    obtain ⟨⟨z, s3⟩, e3, e⟩ := Res.bind_ok e
    simp only at e
    split at e
    · cases e
    · rename_i hr
      refine ⟨as, env, s, y, s1, er, sr, e1, fun v H1 as1 st1 sr1 hv => ⟨as1, env, s1, x, s2, er.step st1, sr1, e2, fun w H2 as2 st2 sr2 hw => ⟨as2, env, s2, z, s3, (er.step st1).step st2, sr2, e3, fun u H3 as3 st3 sr3 hu => ?_⟩⟩⟩
      have hv3 := VRep.dr ((hv.step st2).step st3)
      have hyc : y.clean = true := by simpa using hr
      have hw3 := hw.step st3
      have stp := (st1.trans st2).trans st3
      cases x with
      | mref j =>
        simp only at e
        cases hd : s3[j]? with
        | none => rw [hd] at e; cases z <;> cases e
        | some o =>
          rw [hd] at e
          cases o with
          | lst ds =>
            cases z with
            | int k =>
              simp only at e
              split at e
              · rename_i hk
                cases e
                obtain ⟨a0, vs, k1, k2, k3, k4⟩ := sr3.lst hd
                have ew := hw3.2 a0 k1
                subst ew
                cases hu
                left
                have hl : k.toNat < vs.length := by rw [k4.length]; exact hk.2
                refine ⟨a0, vs, k, k.toNat, rfl, rfl, k2, ?_, ?_⟩
                · unfold ixN
                  rw [if_pos hk.1, if_pos (by omega)]
                · obtain ⟨s4, sr4⟩ := sr3.write (i := j) (o := .lst (ds.set k.toNat y)) (u := .lst (vs.set k.toNat v)) (cleans_set (sr3.cl j _ hd) hyc) k1 fun s0 => ⟨_, upd_same, by simpa using k3, DReps.step s0 _ _ (k4.set hv3 _)⟩
                  exact q σ _ as3 (stp.trans s4) sr4 ((er.step stp).step s4)
              · cases e
            | _ => cases e
          | dic kvs =>
            have e' : (match keyOf z with
              | some k => if kvs.length < LIM then Res.ok (Fl.next, env, s3.set j (.dic (dput kvs k y))) else .bad
              | none => .bad) = .ok (fl, env', s') := by cases z <;> exact e
            cases hk : keyOf z with
            | none => rw [hk] at e'; cases e'
            | some k =>
              rw [hk] at e'
              simp only at e'
              split at e'
              · rename_i hl
                cases e'
                obtain ⟨a0, vs, k1, k2, k3, k4⟩ := sr3.dic hd
                have ew := hw3.2 a0 k1
                subst ew
                have eu : u = kV k := by
                  cases z with
                  | int i => exact DRep.key hu hk
                  | str i => exact DRep.key hu hk
                  | _ => cases hk
                subst eu
                right
                have hlv : vs.length < sizeLine := by rw [k4.length, ← LIM_eq]; exact hl
                refine ⟨a0, _, rfl, DPut.k k2 hlv, ?_⟩
                obtain ⟨s4, sr4⟩ := sr3.write (i := j) (o := .dic (dput kvs k y)) (u := .dK (putK vs k v)) (cleanK_put (sr3.cl j _ hd) hyc) k1 fun s0 => ⟨_, upd_same, by have := len_put vs k v; omega, KReps.step s0 _ _ (k4.put hv3)⟩
                exact q σ _ as3 (stp.trans s4) sr4 ((er.step stp).step s4)
              · cases e'
          | dead => cases z <;> cases e
      | _ => cases e
/-- for target in ..: body -/
theorem pd_for {tg iter : Expr} {body : List Stmt} {t : Tg} {ci : CI} {cb : List CS} (hp : PassesOwn (model X.prog X.w) X.A X.env X.xe) (hc : X.calm = true) (hi : PI X tg iter (tI X.K Γ con ci)) (hg : PG X tg (tG X.K t)) (hb : PSs X body (tSs X.K Γ con F cb))
    (hs : ∀ x, foldedSetIterable iter X.env x = pure x) : PS X (.For tg iter body [] pos) (tS X.K Γ con F (.for_ t ci cb)) :=
  (ps_for hp hc hi hg hb hs).impD fun Dn σ H ⟨as, env, s, fl, env', s', er, sr, e, q⟩ => by
    simp only [evS] at e
    obtain ⟨⟨ds, s1⟩, e1, e⟩ := Res.bind_ok e
    refine ⟨as, env, s, ds, s1, er, sr, e1, fun J H1 as1 st1 sr1 wk hlen => ?_⟩
    refine ⟨fun i m σ H => m + i = ds.length ∧ ∃ as' st' env1, Step as1 as' H1 H ∧ SRel X.K as' st' H ∧ ERep X.K as' H σ env1 ∧ forGo (asgT t) (fun e s => evSs Γ con F cb e s) (ds.drop i) env1 st' = .ok (fl, env', s'),
      ⟨ds.length, by omega, as1, s1, env, Step.refl _ _, sr1, er.step st1, by simpa using e⟩, ?_⟩
    rintro i m σ2 H2 ⟨hm, as2, sto2, env2, st2, sr2, er2, ego⟩
    by_cases hi : i < ds.length
    · right
      refine ⟨wk.go as2 H2 i st2.tr hi, fun σ' H' => ∃ as' st' env1, Step as1 as' H1 H' ∧ SRel X.K as' st' H' ∧ ERep X.K as' H' σ' env1 ∧ forGo (asgT t) (fun e s => evSs Γ con F cb e s) (ds.drop (i + 1)) env1 st' = .ok (fl, env', s'),
        fun σ' H' hN => ⟨m - 1, by omega, by omega, hN⟩, fun x H' hy => ?_⟩
      obtain ⟨sm, hx⟩ := wk.yld as2 sto2 H2 i x H' ds[i] st2.tr sr2 hy (List.getElem?_eq_getElem hi)
      rw [List.drop_eq_getElem_cons hi] at ego
      simp only [forGo] at ego
      obtain ⟨env3, g3, ego⟩ := Res.bind_ok ego
      obtain ⟨⟨fl4, env4, s4⟩, g4, ego⟩ := Res.bind_ok ego
      have g3' : asgT t ds[i] env2 = some env3 := by
        cases hq : asgT t ds[i] env2 with
        | none => rw [hq] at g3; cases g3
        | some z => rw [hq] at g3; cases g3; rfl
      refine ⟨as2, env2, ds[i], env3, er2.step (Step.same sm), hx.toV, g3', fun σ3 er3 _ => ⟨as2, env3, sto2, fl4, env4, s4, er3, sr2.same sm, g4, fun σ5 H5 as5 st5 sr5 er5 => ?_⟩⟩
      have stp : Step as1 as5 H1 H5 := (st2.trans (Step.same sm)).trans st5
      cases fl4 with
      | next => exact ⟨as5, s4, env4, stp, sr5, er5, ego⟩
      | cont => exact ⟨as5, s4, env4, stp, sr5, er5, ego⟩
      | brk => cases ego; exact q σ5 H5 as5 (st1.trans stp) sr5 er5
      | ret d => cases ego; exact q σ5 H5 as5 (st1.trans stp) sr5 er5
    · left
      have hdrop : ds.drop i = [] := List.drop_eq_nil_of_le (by omega)
      rw [hdrop] at ego
      simp only [forGo] at ego
      cases ego
      exact ⟨wk.stop as2 H2 i st2.tr (by omega), q σ2 H2 as2 (st1.trans st2) sr2 er2⟩
theorem pd_while {c : Expr} {body : List Stmt} {cc : CE} {cb : List CS} (hp : PassesOwn (model X.prog X.w) X.A X.env X.xe) (hc : PT X c (tTest' X.K Γ con cc)) (hb : PSs X body (tSs X.K Γ con F cb)) : PS X (.While c body [] pos) (tS X.K Γ con F (.while_ cc cb)) :=
  (ps_while hp hc hb).impD fun Dn σ H ⟨as, env, s, fl, env', s', er, sr, e, q⟩ => by
    simp only [evS] at e
    refine ⟨fun m σ H2 => ∃ as' st' env1, Step as as' H H2 ∧ SRel X.K as' st' H2 ∧ ERep X.K as' H2 σ env1 ∧ whileGo (evE Γ con cc) (fun e s => evSs Γ con F cb e s) m env1 st' = .ok (fl, env', s'),
      ⟨F, as, s, env, Step.refl _ _, sr, er, e⟩, ?_⟩
    rintro m σ2 H2 ⟨as2, sto2, env2, st2, sr2, er2, ego⟩
    cases m with
    | zero => simp only [whileGo] at ego; cases ego
    | succ m =>
      simp only [whileGo] at ego
      obtain ⟨⟨d, s3⟩, g1, ego⟩ := Res.bind_ok ego
      obtain ⟨b, g2, ego⟩ := Res.bind_ok ego
      cases asBool_ok g2
      refine ⟨as2, env2, sto2, b, s3, er2, sr2, g1, fun H3 as3 st3 sr3 => ?_⟩
      cases b with
      | false =>
        cases ego
        exact iteF (q σ2 H3 as3 (st2.trans st3) sr3 (er2.step st3))
      | true =>
        simp only [if_true] at ego
        obtain ⟨⟨fl4, env4, s4⟩, g4, ego⟩ := Res.bind_ok ego
        refine iteT ⟨fun σ' H' => ∃ as' st' env1, Step as as' H H' ∧ SRel X.K as' st' H' ∧ ERep X.K as' H' σ' env1 ∧ whileGo (evE Γ con cc) (fun e s => evSs Γ con F cb e s) m env1 st' = .ok (fl, env', s'),
          fun σ' H' hN => ⟨m, Nat.lt_succ_self _, hN⟩, as3, env2, s3, fl4, env4, s4, er2.step st3, sr3, g4, fun σ5 H5 as5 st5 sr5 er5 => ?_⟩
        have stp : Step as as5 H H5 := (st2.trans st3).trans st5
        cases fl4 with
        | next => exact ⟨as5, s4, env4, stp, sr5, er5, ego⟩
        | cont => exact ⟨as5, s4, env4, stp, sr5, er5, ego⟩
        | brk => cases ego; exact q σ5 H5 as5 stp sr5 er5
        | ret d => cases ego; exact q σ5 H5 as5 stp sr5 er5
end
end En

set_option Elab.async false
set_option linter.all false
set_option maxRecDepth 100000
set_option maxHeartbeats 1000000
namespace En
open PySem PySem.Spec PyProof.Rows L2
abbrev SpD := List V → Hp → VK → Prop
/-- the def at f keeps the promise, where no repr is under way -/
structure FnG (P : Program) (w : World) (K : PySem.W.Frag) (mg : Str → Option Value) (base : Heap) (k : Nat) (f : Addr) (fd : FuncData) (ps : List Str) (sp : SpD) : Prop where
  len : ∀ vs H Q, sp vs H Q → vs.length = ps.length
  run : ∀ (A : Around) (outer : List PySem.Env) (s : Shared) (H : Hp) (args : Args) (us : List Value) (vs : List V) (Q : VK), A.guards = some [] → Room k A → Env0 P w K mg base A outer s H → BindsTo s fd args (ps.zip us) → Vals vs us → sp vs H Q →
    codeAny (model P w) A (.call (.ref f) args) (CR CX0 outer P w H s Q E0) s
def spF (K : PySem.W.Frag) (np : Nat) (g : List D → Sto → Res (D × Sto)) : SpD := fun vs H Q => ∃ as st ds d st', SRel K as st H ∧ VReps K as H vs ds ∧ ds.length = np ∧ g ds st = .ok (d, st') ∧ ∀ v H' as', Step as as' H H' → SRel K as' st' H' → VRep K as' H' v d → Q v H'
theorem evEs_length {Γ : Fns} {con : Nat → Option D} : ∀ {cs : List CE} {env : Env} {st : Sto} {ds : List D} {st1 : Sto}, evEs Γ con cs env st = .ok (ds, st1) → ds.length = cs.length := by
  intro cs
  induction cs with
  | nil => intro env st ds st1 h; simp only [evEs] at h; cases h; rfl
  | cons c cs ih =>
    intro env st ds st1 h
    simp only [evEs] at h
    obtain ⟨⟨x, s1⟩, h1, h⟩ := Res.bind_ok h
    obtain ⟨⟨xs, s2⟩, h2, h⟩ := Res.bind_ok h
    cases h
    simp [ih h2]
theorem DReps.toVs {K : PySem.W.Frag} {as : Ads} {H : Hp} : ∀ {ds : List D} {vs : List V}, DReps K as H vs ds → VReps K as H vs ds := by
  intro ds
  induction ds with
  | nil => intro vs h; cases h; exact .nil
  | cons d ds ih => intro vs h; cases h with | cons h r => exact .cons h.toV (ih r)
section
variable {X : Cx} {Γ : Fns} {con : Nat → Option D} {k : Nat} {f : Addr} {fd : FuncData} {ps : List Str} {sp : SpD} {dvs : List V} {dsv : List Value}
theorem run_fnG {pins : List (Addr × Obj)} {σ : L2.St} {H : Hp} {s : Shared} {Q : VK} {us : List Value} {vs : List V} (G : FnG X.prog X.w X.K X.mg X.base k f fd ps sp) (hg : X.A.guards = some []) (hr : Room k X.A) (hb : Binds X.K fd ps dsv) (hd : Vals dvs dsv)
    (I : Inv X pins σ H s) (r : Vals vs us) (h : sp (vs ++ dvs) H Q) : wpAny (model X.prog X.w) X.A (PySem.call (.ref f) us) (EP X pins σ Q) X.xe s := by
  have rr : Vals (vs ++ dvs) (us ++ dsv) := r.append hd
  have hlen : (us ++ dsv).length = ps.length := by rw [← rr.length]; exact G.len _ _ _ h
  refine wpAny_call (codeAny_mono (G.run X.A X.stack s H ⟨us, []⟩ (us ++ dsv) (vs ++ dvs) Q hg hr I.env0 (hb s us I.kIn hlen) rr h) fun res s' hq => ?_)
  cases res with
  | error e => exact False.elim hq
  | ok fl =>
    cases fl with
    | ret u => exact I.after hq
    | next => exact False.elim hq
    | brk => exact False.elim hq
    | cont => exact False.elim hq
/-- f(..) -/
theorem pd_call {x : Str} {p pos : Pos} {es : List Expr} {cs : List CE} {fi F : Nat} {fn : Fn} {Γ' : Fns} (G : FnG X.prog X.w X.K X.mg X.base k f fd ps (spF X.K fn.np (runBody Γ' con F fn))) (hΓ : Γ fi = runFn Γ' con F fn) (hg : X.A.guards = some []) (hr : Room k X.A)
    (hgl : Gl X x) (hm : X.mg x = some (.ref f)) (hk : PySem.W.keepIn X.K (.ref f) = true) (hb : Binds X.K fd ps dsv) (hd : Vals dvs dsv) (hdr : ∀ as H, DReps X.K as H dvs (fn.defs.drop (cs.length + fn.defs.length - fn.np)))
    (ha : PA X es (tAs X.K Γ con cs)) (hdb : (x == ("__debug__" : Str)) = false) (hcs : es = [] → cs = [])
    (hst : ∀ e es', es = e :: es' → starEach (e :: es') X.env = (false, eval e X.env) :: starEach es' X.env ∧ (backTo pos (starEach es' X.env)).any (·.1) = false) :
    PE X (.Call (.Name x p) es [] pos) (tE X.K Γ con (.call fi cs)) := by
  refine ⟨fun pins s σ H Q I ⟨as, env, st, d, st', er, sr, e, q⟩ => ?_⟩
  simp only [evE] at e
  obtain ⟨⟨ds, st1⟩, e1, e⟩ := Res.bind_ok e
  simp only [hΓ, runFn] at e
  split at e
  · rename_i hlen
    have hl : ds.length = cs.length := evEs_length e1
    have red : tAs X.K Γ con cs σ H fun vs H1 => spF X.K fn.np (runBody Γ' con F fn) (vs ++ dvs) H1 Q :=
      ⟨as, env, st, ds, st1, er, sr, e1, fun vs H1 as1 s1 sr1 hv => ⟨as1, st1, fillD fn ds, d, st', sr1, by
        unfold fillD
        rw [hl]
        exact hv.append (hdr as1 H1).toVs, hlen, e, fun v H2 as2 s2 sr2 hv2 => q v H2 as2 (s1.trans s2) sr2 hv2⟩⟩
    refine wpAny_Call_Name_kw (ld_glob I hgl hm ?_ hdb)
    cases es with
    | nil =>
      obtain rfl := hcs rfl
      have hs : spF X.K fn.np (runBody Γ' con F fn) ([] ++ dvs) H Q := by
        obtain ⟨as0, env0, st0, ds0, st10, er0, sr0, e10, q0⟩ := red
        simp only [evEs] at e10
        cases e10
        exact q0 [] H as0 (Step.refl _ _) sr0 .nil
      exact PySem.W.callWith_K0 I.kIn hk (run_fnG (us := []) G hg hr hb hd I .nil hs)
    | cons e0 es0 =>
      obtain ⟨h1, h2⟩ := hst e0 es0 rfl
      refine PySem.W.callWith_K (h₀ := X.base) I.ok.mod.kin hk (thn (ha.run pos pins s σ H _ I red) fun us s1 ⟨vs, H1, I1, r, q1⟩ => ⟨I1.kIn, ?_⟩) h1 h2
      exact run_fnG G hg hr hb hd I1 r q1
  · cases e
end
section
variable {K : PySem.W.Frag} {as as1 : Ads} {st st1 : Sto} {H H1 : Hp}
theorem LsA.cut {as2 : Ads} {a : Addr} {xs : List V} (t : ∀ a, ¬ as1.Has a → ¬ as2.Has a) (h : LsA K as1 H1 a xs) : LsA K as2 H1 a xs := by
  rcases h with ⟨h, n⟩ | h
  · exact .inl ⟨h, t a n⟩
  · exact .inr h
mutual
theorem DRep.cut {as2 : Ads} (t : ∀ a, ¬ as1.Has a → ¬ as2.Has a) : ∀ (d : D) (v : V), DRep K as1 H1 v d → d.clean = true → DRep K as2 H1 v d
  | .non, _, h, _ => by cases h; exact .non
  | .bl b, _, h, _ => by cases h; exact .bl b
  | .int b, _, h, _ => by cases h; exact .int b
  | .str b, _, h, _ => by cases h; exact .str b
  | .tup ds, _, h, c => by
    cases h with
    | tup h z r => exact .tup h z (DReps.cut t ds _ r (by simpa [D.clean] using c))
  | .lst ds, _, h, c => by
    cases h with
    | lst h n z r => exact .lst h (t _ n) z (DReps.cut t ds _ r (by simpa [D.clean] using c))
  | .ro ds, _, h, c => by
    cases h with
    | ro h z r => exact .ro (h.cut t) z (DReps.cut t ds _ r (by simpa [D.clean] using c))
  | .dic ds, _, h, c => by
    cases h with
    | dic h n z r => exact .dic h (t _ n) z (KReps.cut t ds _ r (by simpa [D.clean] using c))
  | .err x d, _, h, c => by
    cases h with
    | err h1 h2 n1 h3 n2 r => exact .err h1 h2 (t _ n1) h3 (t _ n2) (DRep.cut t d _ r (by simpa [D.clean] using c))
  | .mref i, _, h, c => by simp [D.clean] at c
theorem DReps.cut {as2 : Ads} (t : ∀ a, ¬ as1.Has a → ¬ as2.Has a) : ∀ (ds : List D) (vs : List V), DReps K as1 H1 vs ds → D.cleans ds = true → DReps K as2 H1 vs ds
  | [], _, h, _ => by cases h; exact .nil
  | d :: ds, _, h, c => by
    simp only [D.cleans, Bool.and_eq_true] at c
    cases h with
    | cons h r => exact .cons (DRep.cut t d _ h c.1) (DReps.cut t ds _ r c.2)
theorem KReps.cut {as2 : Ads} (t : ∀ a, ¬ as1.Has a → ¬ as2.Has a) : ∀ (ds : List (Key × D)) (vs : List (Key × V)), KReps K as1 H1 vs ds → D.cleanK ds = true → KReps K as2 H1 vs ds
  | [], _, h, _ => by cases h; exact .nil
  | (k, d) :: ds, _, h, c => by
    simp only [D.cleanK, Bool.and_eq_true] at c
    cases h with
    | cons h r => exact .cons (DRep.cut t d _ h c.1) (KReps.cut t ds _ r c.2)
end
theorem SRel.pick (r : SRel K as1 st1 H1) {c : List (Option Addr)} {s : Sto} (φ : Nat → Nat) (inj : ∀ i k, i < c.length → k < c.length → φ i = φ k → i = k) (hl : c.length = s.length)
    (h1 : ∀ i x, c[i]? = some x → as1.c[φ i]? = some x) (h2 : ∀ i o, s[i]? = some o → st1[φ i]? = some o) : SRel K ⟨c, as1.p⟩ s H1 ∧ ∀ a, ¬ as1.Has a → ¬ (⟨c, as1.p⟩ : Ads).Has a := by
  have sub : ∀ a, some a ∈ c → some a ∈ as1.c := fun a m => by
    obtain ⟨i, e⟩ := List.mem_iff_getElem?.mp m
    exact List.mem_of_getElem? (h1 i _ e)
  have hn : ∀ a, ¬ as1.Has a → ¬ (⟨c, as1.p⟩ : Ads).Has a := fun a n m => n (m.elim (fun m => .inl (sub a m)) .inr)
  have lt : ∀ {i : Nat} {x : Option Addr}, c[i]? = some x → i < c.length := fun {i x} e => by
    by_cases q : i < c.length
    · exact q
    · rw [List.getElem?_eq_none (by simpa using q)] at e; cases e
  refine ⟨⟨hl, fun i j a e1 e2 => inj i j (lt e1) (lt e2) (r.nd _ _ a (h1 _ _ e1) (h1 _ _ e2)), fun i o e => ?_, r.pr, fun a ha m => r.dj a ha (sub a m), fun i o e => r.cl _ o (h2 i o e)⟩, hn⟩
  obtain ⟨x, e1, q⟩ := r.rep _ o (h2 i o e)
  have hi : i < c.length := by
    rw [hl]
    by_cases q : i < s.length
    · exact q
    · rw [List.getElem?_eq_none (by simpa using q)] at e; cases e
  have e2 := h1 i c[i] (by simp [hi])
  rw [e1] at e2
  refine ⟨x, by rw [Option.some.inj e2]; simp [hi], ?_⟩
  cases x with
  | none => cases o <;> exact q
  | some b =>
    cases o with
    | lst ds => obtain ⟨vs, e2, z, p⟩ := q; exact ⟨vs, e2, z, DReps.cut hn _ _ p (r.cl _ _ (h2 i _ e))⟩
    | dic ds => obtain ⟨vs, e2, z, p⟩ := q; exact ⟨vs, e2, z, KReps.cut hn _ _ p (r.cl _ _ (h2 i _ e))⟩
    | dead => exact q
theorem Step.cut (s : Step as as1 H H1) {c : List (Option Addr)} {n : Nat} (hn : as.c.length = n) (h1 : ∀ i, i < n → c[i]? = as1.c[i]?) (hl : n ≤ c.length) (sub : ∀ a, some a ∈ c → some a ∈ as1.c) : Step as ⟨c, as1.p⟩ H H1 where
  len := by show as.c.length ≤ c.length; omega
  old := fun j a e => by
    have hj : j < n := by
      by_cases q : j < n
      · exact q
      · rw [List.getElem?_eq_none (by omega)] at e; cases e
    show c[j]? = _ ∨ c[j]? = _
    rw [h1 j hj]
    exact s.old j a e
  dead := fun j e => by
    have hj : j < n := by
      by_cases q : j < n
      · exact q
      · rw [List.getElem?_eq_none (by omega)] at e; cases e
    show c[j]? = _
    rw [h1 j hj]
    exact s.dead j e
  new := fun a m => s.new a (sub a m)
  ext := s.ext
  tup := s.tup
  prot := s.prot
theorem finish_rel {keep : Bool} {v : V} {d d' : D} {st' : Sto} (s : Step as as1 H H1) (r0 : as.c.length = st.length) (r : SRel K as1 st1 H1) (hv : VRep K as1 H1 v d) (e : finish keep st.length d st1 = .ok (d', st')) :
    ∃ as', Step as as' H H1 ∧ SRel K as' st' H1 ∧ VRep K as' H1 v d' := by
  have hle : st.length ≤ as1.c.length := by have := s.len; omega
  have hle2 : st.length ≤ st1.length := by have := r.len; omega
  have cut : Step as ⟨as1.c.take st.length, as1.p⟩ H H1 ∧ SRel K ⟨as1.c.take st.length, as1.p⟩ (st1.take st.length) H1 ∧ ∀ a, ¬ as1.Has a → ¬ (⟨as1.c.take st.length, as1.p⟩ : Ads).Has a := by
    obtain ⟨a, b⟩ := r.pick (c := as1.c.take st.length) (s := st1.take st.length) (fun i => i) (fun i k _ _ e => e) (by simp [r.len]) (fun i x e => by
      rw [List.getElem?_take] at e
      split at e
      · exact e
      · cases e) fun i x e => by
      rw [List.getElem?_take] at e
      split at e
      · exact e
      · cases e
    exact ⟨s.cut r0 (fun i hi => by rw [List.getElem?_take, if_pos hi]) (by simp; omega) (fun a m => List.mem_of_mem_take m), a, b⟩
  obtain ⟨c1, c2, c3⟩ := cut
  have dn : ∀ {d : D}, d.clean = true → DRep K as1 H1 v d → VRep K ⟨as1.c.take st.length, as1.p⟩ H1 v d := fun c h => (DRep.cut c3 _ _ h c).toV
  have keepIt : ∀ {j : Nat} {o : O}, st1[j]? = some o → st.length ≤ j → (∀ a, as1.c[j]? = some (some a) → v = .ref a) →
      ∃ as', Step as as' H H1 ∧ SRel K as' (st1.take st.length ++ [o]) H1 ∧ VRep K as' H1 v (.mref st.length) := fun {j o} ho hj hv => by
    obtain ⟨x, ex, _⟩ := r.rep j o ho
    have hlt : (as1.c.take st.length).length = st.length := by simp; omega
    have hlt2 : (st1.take st.length).length = st.length := by simp; omega
    have at1 : ∀ i y, (as1.c.take st.length ++ [x])[i]? = some y → as1.c[if i = st.length then j else i]? = some y := fun i y e => by
      by_cases hi : i < st.length
      · rw [List.getElem?_append_left (by omega), List.getElem?_take, if_pos hi] at e
        rw [if_neg (by omega)]
        exact e
      · rw [List.getElem?_append_right (by omega), hlt] at e
        have : i - st.length = 0 := by
          cases q : i - st.length with
          | zero => rfl
          | succ m => rw [q] at e; simp at e
        rw [this] at e
        rw [if_pos (by omega), ex]
        simpa using e
    have at2 : ∀ i y, (st1.take st.length ++ [o])[i]? = some y → st1[if i = st.length then j else i]? = some y := fun i y e => by
      by_cases hi : i < st.length
      · rw [List.getElem?_append_left (by omega), List.getElem?_take, if_pos hi] at e
        rw [if_neg (by omega)]
        exact e
      · rw [List.getElem?_append_right (by omega), hlt2] at e
        have : i - st.length = 0 := by
          cases q : i - st.length with
          | zero => rfl
          | succ m => rw [q] at e; simp at e
        rw [this] at e
        rw [if_pos (by omega), ho]
        simpa using e
    have ll : (as1.c.take st.length ++ [x]).length = st.length + 1 := by simp; omega
    obtain ⟨a, b⟩ := r.pick (c := as1.c.take st.length ++ [x]) (s := st1.take st.length ++ [o]) (fun i => if i = st.length then j else i) (fun i k h1 h2 e => by
      rw [ll] at h1 h2
      split at e <;> split at e <;> omega) (by simp; omega) at1 at2
    refine ⟨_, s.cut r0 (fun i hi => ?_) (by rw [ll]; omega) (fun a m => ?_), a, ⟨by show _ < (as1.c.take st.length ++ [x]).length; rw [ll]; omega, fun a e => ?_⟩⟩
    · rw [List.getElem?_append_left (by omega), List.getElem?_take, if_pos hi]
    · obtain ⟨i, e⟩ := List.mem_iff_getElem?.mp m
      exact List.mem_of_getElem? (at1 i _ e)
    · have := at1 st.length _ e
      rw [if_pos rfl] at this
      exact hv a this
  cases d with
  | mref j =>
    obtain ⟨hl, hv⟩ := hv
    simp only [finish] at e
    split at e
    · rename_i hj
      cases e
      refine ⟨_, c1, c2, by show j < (as1.c.take st.length).length; simp; omega, fun a ea => ?_⟩
      have ea' : (as1.c.take st.length)[j]? = some (some a) := ea
      rw [List.getElem?_take, if_pos hj] at ea'
      exact hv a ea'
    · rename_i hj
      split at e
      · rename_i ds ho
        split at e
        · cases e
          exact keepIt ho (by omega) hv
        · cases e
          obtain ⟨a, vs, k1, k2, k3, k4⟩ := r.lst ho
          obtain rfl := hv a k1
          refine ⟨_, c1, c2, (DRep.lst k2 (fun m => ?_) k3 (DReps.cut c3 _ _ k4 (r.cl _ _ ho)) : DRep _ _ _ _ _)⟩
          rcases m with m | m
          · obtain ⟨i, e⟩ := List.mem_iff_getElem?.mp m
            have e' : (as1.c.take st.length)[i]? = some (some a) := e
            rw [List.getElem?_take] at e'
            split at e'
            · have := r.nd _ _ _ k1 e'; omega
            · cases e'
          · exact r.dj a m (List.mem_of_getElem? k1)
      · rename_i ds ho
        split at e
        · cases e
          exact keepIt ho (by omega) hv
        · cases e
          obtain ⟨a, vs, k1, k2, k3, k4⟩ := r.dic ho
          obtain rfl := hv a k1
          refine ⟨_, c1, c2, (DRep.dic (.inl k2) (fun m => ?_) k3 (KReps.cut c3 _ _ k4 (r.cl _ _ ho)) : DRep _ _ _ _ _)⟩
          rcases m with m | m
          · obtain ⟨i, e⟩ := List.mem_iff_getElem?.mp m
            have e' : (as1.c.take st.length)[i]? = some (some a) := e
            rw [List.getElem?_take] at e'
            split at e'
            · have := r.nd _ _ _ k1 e'; omega
            · cases e'
          · exact r.dj a m (List.mem_of_getElem? k1)
      · cases e
  | _ =>
    simp only [finish] at e
    split at e
    · rename_i hcl
      cases e
      exact ⟨_, c1, c2, dn hcl hv⟩
    · cases e
theorem VReps.at {d : D} : ∀ {ds : List D} {vs : List V} {i : Nat}, VReps K as H vs ds → ds[i]? = some d → ∃ v, vs[i]? = some v ∧ VRep K as H v d := by
  intro ds
  induction ds with
  | nil => intro vs i h e; simp at e
  | cons d ds ih =>
    intro vs i h e
    cases h with
    | cons h r =>
      cases i with
      | zero => simp at e; subst e; exact ⟨_, rfl, h⟩
      | succ i => simpa using ih r (by simpa using e)
theorem ERep.start {N : List Str} {vs : List V} {ds : List D} (h : VReps K as H vs ds) (hl : ds.length ≤ N.length) : ERep K as H (L2.start N vs) (ds.map some ++ List.replicate (N.length - ds.length) none) := by
  refine ⟨by simp [L2.start, h.length], fun i d e => ?_⟩
  by_cases hi : i < ds.length
  · rw [List.getElem?_append_left (by simpa using hi), List.getElem?_map] at e
    cases q : ds[i]? with
    | none => rw [q] at e; cases e
    | some d' =>
      rw [q] at e
      cases e
      obtain ⟨v, e1, r⟩ := h.at q
      refine ⟨v, ?_, r⟩
      unfold L2.start
      rw [List.getElem?_append_left (by simpa [h.length] using hi), List.getElem?_map, e1]
      rfl
  · rw [List.getElem?_append_right (by simpa using hi), List.getElem?_replicate] at e
    split at e <;> cases e
end
theorem fn_ofG {P : Program} {w : World} {K : PySem.W.Frag} {mg : Str → Option Value} {base : Heap} {k : Nat} {f : Addr} {name qual : Str} {params : Arguments} {body : List Stmt} {scope : Scope} {dV kV doc pm cdv ct oc : Value} {an od : Option Addr}
    {osl : Array (Option Value)} {N ps : List Str} {fn : Fn} {Γ : Fns} {con : Nat → Option D} {F : Nat} (lk : K.lookup f = some ⟨oc, od, .func (PySem.W.fnOf name qual params body scope dV kV doc pm an cdv ct), osl⟩) (hcd : PySem.W.codeIn K cdv qual = true) (S : FnScope N ps scope)
    (hnp : fn.np = ps.length) (hns : fn.ns = N.length)
    (hbody : ∀ (A : Around) (outer : List PySem.Env) (s : Shared) (H : Hp), A.guards = some [] → Room k (A.deeper (envOfC qual scope s.heap.objs.size f cdv)) →
      PSs (cxOf CX0 P w K mg base N qual scope f cdv A outer s H E0).nox body (tSs K Γ con F fn.body)) :
    FnG P w K mg base (k + 1) f (PySem.W.fnOf name qual params body scope dV kV doc pm an cdv ct) ps (spF K fn.np (runBody Γ con F fn)) := by
  have hle : ps.length ≤ N.length := by have := congrArg List.length S.pre; rw [List.length_take] at this; omega
  have len : ∀ vs H Q, spF K fn.np (runBody Γ con F fn) vs H Q → vs.length = ps.length := fun vs H Q ⟨as, st, ds, d, st', sr, hv, hl, _, _⟩ => by rw [hv.length, hl, hnp]
  refine ⟨len, fun A outer s H args us vs Q hg hr e0 hb r hsp => ?_⟩
  have hl := len _ _ _ hsp
  have kin : K.In s.heap := e0.mod.kin.keeps fun b o e => (e0.bs b o e).1
  have nolim : s.heap.NoLimit := e0.mod.nolimit.keeps fun b o e => (e0.bs b o e).1
  have kinds : ∀ y ∈ ps.zip us, scope.names.lookup y.1 = some .local ∨ (scope.names.lookup y.1 = some .cell ∧ ((cellsFrom (s.heap.objs.size + 1) scope.names []).lookup y.1).isSome = true) := fun ⟨n, v⟩ hy => by
    rcases S.par n (List.of_mem_zip hy).1 with z | z
    · exact .inl z
    · exact .inr ⟨z, PySem.W.cellsFrom_some _ _ _ (.inl z)⟩
  refine codeAny_call_function hr.depth (kin _ _ lk) rfl S.co S.gen rfl (PySem.W.codeRec_of kin hcd) (hb _ _ _ _ ?_)
  refine wpAny_newFunctionEnv_cells S.kind kinds fun env henv s1 x => ?_
  subst henv
  refine ⟨nolim.keeps x.toInCall.keep, codeAny_func ?_⟩
  have ht := (hbody A outer s H hg (hr.deeper _)).nox
  have I : Inv (cxOf CX0 P w K mg base N qual scope f cdv A outer s H E0) [] (L2.start N vs) H s1 := inv_start S hr.hd e0 hl r x
  obtain ⟨as, st, ds, d, st', sr, hv, hdl, hrun, hQ⟩ := hsp
  unfold runBody at hrun
  obtain ⟨⟨fl, env', st1⟩, h1, hrun⟩ := Res.bind_ok hrun
  have hq : tSs K Γ con F fn.body { nx := fun _ H' => Q .non H', rt := Q } (L2.start N vs) H := by
    refine ⟨as, _, st, fl, env', st1, ?_, sr, h1, fun σ' H' as' s' sr' er' => ?_⟩
    · rw [hns]
      exact ERep.start hv (by omega)
    · cases fl with
      | next =>
        obtain ⟨as2, a, b, c⟩ := finish_rel s' sr.len sr' (v := .non) (d := .non) DRep.non hrun
        exact hQ _ _ as2 a b c
      | ret d0 =>
        intro v hv
        obtain ⟨as2, a, b, c⟩ := finish_rel s' sr.len sr' hv hrun
        exact hQ _ _ as2 a b c
      | brk => cases hrun
      | cont => cases hrun
  refine wpAny_mono (ht.run [] s1 (L2.start N vs) H _ I hq) (fun fl s' hs => ?_) fun e s' hs => hs
  have fin : ∀ {σ' : L2.St} {H' : Hp} {v : V} {u : Value}, Inv (cxOf CX0 P w K mg base N qual scope f cdv A outer s H E0) [] σ' H' s' → RelV v u → Q v H' → L2.CE outer P w H s Q u s' :=
    fun {σ' H' v u} J rv q => ⟨v, H', J.os, J.bare, J.base, J.hok, rv, q⟩
  cases fl with
  | ret u => obtain ⟨v, σ', H', J, rv, q⟩ := hs; exact fin J rv q
  | next => obtain ⟨σ', H', J, q⟩ := hs; exact fin (v := V.non) (u := Value.none) J rfl q
  | brk => obtain ⟨_, _, _, q⟩ := hs; exact q.elim
  | cont => obtain ⟨_, _, _, q⟩ := hs; exact q.elim
end En

set_option Elab.async false
set_option linter.all false
set_option maxRecDepth 100000
set_option maxHeartbeats 1000000
namespace En
open PySem PySem.Spec PyProof.Rows L2
theorem ro_reps {K : PySem.W.Frag} {as : Ads} {H : Hp} : ∀ (zs : List Int), DReps K as H (zs.map V.int) (zs.map D.int)
  | [] => .nil
  | z :: zs => .cons (.int z) (ro_reps zs)
/-- the script is all that is tracked: the law's def at it -/
theorem sp_script {K : PySem.W.Frag} {H : Hp} {a : Addr} {zs : List Int} {g : List D → Sto → Res (D × Sto)} {st' : Sto} (hz : zs.length ≤ sizeLine) (hS : SqL K H a (zs.map V.int)) (h : g [.ro (zs.map D.int)] [] = .ok (.bl true, st')) :
    spF K 1 g [.ref a] H (fun v _ => v = .bl true) := by
  refine ⟨⟨[], []⟩, [], [.ro (zs.map D.int)], .bl true, st', ⟨rfl, fun i j b e => by simp at e, fun i o e => by simp at e, fun b m => absurd m (by simp), fun b m => absurd m (by simp), fun i o e => by simp at e⟩, .cons (DRep.ro (hS.imp (fun r => ⟨r, fun m => ?_⟩) id) (by simpa using hz) (ro_reps zs)).toV .nil, rfl, h, fun v H' as' _ _ hv => ?_⟩
  · rcases m with m | m
    · exact absurd m (by simp)
    · exact absurd m (by simp)
  · cases hv; rfl
theorem lawG_call {P : Program} {w : World} {K : PySem.W.Frag} {mg mb : Str → Option Value} {k : Nat} {fa a : Addr} {fd : FuncData} {x : Str} {g : List D → Sto → Res (D × Sto)} {st' : Sto} {t : Shared} {us : List Value} {zs : List Int}
    (hK : K.In t.heap) (hm : t.heap.Ns mainGlobals mg) (hbn : t.heap.Ns builtinsNs mb) (hbt : ∀ y : Str, y ≠ "__name__" → mb y = bootBuiltins y) (hnl : t.heap.NoLimit) (hgn : t.gens = #[])
    (hat : t.heap.get? a = some { cls := .type "list", data := .seq us.toArray }) (hin : IntsAre us zs) (hsz : zs.length ≤ sizeLine) (room : Room k callerA)
    (G : ∀ base : Heap, K.In base → base.Ns mainGlobals mg → FnG P w K mg base k fa fd [x] (spF K 1 g)) (hbd : ∀ (s : Shared) (u : Value), K.In s.heap → BindsTo s fd ⟨[u], []⟩ [(x, u)])
    (hgo : g [.ro (zs.map D.int)] [] = .ok (.bl true, st')) :
    codeAny (model P w) callerA (.call (.ref fa) ⟨[.ref a], []⟩) (fun r s' => r = .ok (.ret (.bool true)) ∧ OldK t.heap s'.heap ∧ s'.os = t.os ∧ AllBare s'.gens) t := by
  have rel := vals_ints hin
  have leq := hin.length
  have main : ∀ H : Hp, Only H → SqL K H a (zs.map V.int) → HOk P w H t.heap → (∀ b, H b ≠ none → b = a) → (H a ≠ none → K.lookup a = none) →
      codeAny (model P w) callerA (.call (.ref fa) ⟨[.ref a], []⟩) (fun r s' => r = .ok (.ret (.bool true)) ∧ OldK t.heap s'.heap ∧ s'.os = t.os ∧ AllBare s'.gens) t := by
    intro H only sq ok own apart
    have isA : ∀ {b : Addr} {u : HO}, H b = some u → b = a := fun {b u} q => own b (by rw [q]; simp)
    have toB : ∀ {b : Addr} {o : Obj}, t.heap.get? b = some o → H b = none → (hidT t.heap H).get? b = some o := fun h1 h2 => hidT_get h1 h2
    have nsB : ∀ {b : Addr} {m : Str → Option Value}, t.heap.Ns b m → (hidT t.heap H).Ns b m := by
      rintro b m ⟨o, es, ep, h1, h2, h3⟩
      refine ⟨o, es, ep, toB h1 ?_, h2, h3⟩
      cases q : H b with
      | none => rfl
      | some u =>
        obtain rfl := isA q
        rw [hat] at h1
        cases h1
        exact absurd (show Data.seq us.toArray _ = Data.dict es ep from h2) (by simp)
    have kB : K.In (hidT t.heap H) := by
      intro b o h1
      refine toB (hK b o h1) ?_
      cases q : H b with
      | none => rfl
      | some u =>
        obtain rfl := isA q
        rw [apart (by rw [q]; simp)] at h1
        cases h1
    have md : Mod K mg (hidT t.heap H) := by
      obtain ⟨mc, n1, n2⟩ := hnl
      exact ⟨kB, nsB hm, ⟨mb, nsB hbn, hbt⟩, mc, nsB n1, n2⟩
    have env0 : Env0 P w K mg (hidT t.heap H) callerA [] t H := ⟨rfl, md, fun b o e => of_hidT e, Nat.le_of_eq (hidT_size _ _), trivial, fun b hb => absurd (show b ∈ ([] : List Addr) from hb) (by simp), ok, .of_eq hgn⟩
    refine codeAny_mono ((G _ kB (nsB hm)).run callerA [] t H ⟨[.ref a], []⟩ [.ref a] [.ref a] _ rfl room env0 (hbd t (.ref a) hK) (.cons rfl .nil) (sp_script hsz sq hgo)) fun r s' h => ?_
    rcases r with e | fl
    · exact h.elim
    · cases fl with
      | next => exact h.elim
      | brk => exact h.elim
      | cont => exact h.elim
      | ret u =>
        obtain ⟨v, H', os, bare, un, ok', rv, q⟩ := h
        obtain rfl : v = .bl true := q
        obtain rfl : u = Value.bool true := rv
        refine ⟨rfl, OldK.of_keep fun b o e => ?_, os, bare⟩
        cases q : H b with
        | none => exact un.keep b o e q (fun z => absurd (show b ∈ ([] : List Addr) from z) (by simp)) (by simp)
        | some u =>
          rcases only b with z | ⟨ob, xs, z⟩
          · rw [q] at z; cases z
          · have later := (ok' b _ (un.frzs b ob _ z)).1
            have now := (ok b _ z).1
            rw [e] at now
            cases now
            exact later
  cases hk : K.lookup a with
  | some o =>
    have same := hK a o hk
    rw [hat] at same
    cases same
    exact main (fun _ => none) (fun _ => .inl rfl) (.inr ⟨_, us.toArray, _, hk, rfl, rfl, rfl, by rw [List.size_toArray, leq]; exact hsz, by simpa using rel⟩) (fun b u z => by have y : (none : Option HO) = some u := z; cases y) (fun b z => absurd rfl z) fun z => absurd rfl z
  | none =>
    refine main (fun b => if b = a then some (.frz { cls := .type "list", data := .seq us.toArray } (.lst (zs.map V.int))) else none) (fun b => ?_) (.inl (.inr ⟨{ cls := .type "list", data := .seq us.toArray }, if_pos rfl⟩)) (fun b u z => ?_) (fun b z => ?_) fun _ => hk
    · by_cases hb : b = a
      · exact .inr ⟨_, _, if_pos hb⟩
      · exact .inl (if_neg hb)
    · by_cases hb : b = a
      · have y := (if_pos hb).symm.trans z
        cases y
        subst hb
        exact ⟨hat, by rw [List.length_map]; exact hsz, us, _, rel, hat⟩
      · have y := (if_neg hb).symm.trans z
        cases y
    · by_cases hb : b = a
      · exact hb
      · exact absurd (if_neg hb) z
/-- what the head leaves, from the law's def in code: it answers True of every script -/
theorem walkG {l : PySem.W.OpenLaw} {n k : Nat} {q : Program} {loose : List Str} {XP : (Str → Option Value) → Heap → Prop} {YP : World → Heap → Prop} {d : DefRec} {K : Params → PySem.W.Frag} {x : Str} {g : List D → Sto → Res (D × Sto)}
    (hn : l.most = some n) (hn2 : n ≤ sizeLine) (hdf : d.params.defaults = []) (room : Room k callerA) (hY : ∀ (w : World) (h : Heap), YP w h → (K w.params).In h)
    (F : ∀ (w : World) (mg : Str → Option Value) (fa : Addr) (h : Heap), (K w.params).In h → h.Ns mainGlobals mg → mg d.name = some (.ref fa) →
      ∃ fd : FuncData, (∀ (s : Shared) (u : Value), (K w.params).In s.heap → BindsTo s fd ⟨[u], []⟩ [(x, u)]) ∧ ∀ base : Heap, (K w.params).In base → base.Ns mainGlobals mg → FnG l.prog w (K w.params) mg base k fa fd [x] (spF (K w.params) 1 g))
    (hg : ∀ zs : List Int, zs.length ≤ n → (∀ z ∈ zs, Builtin.Int.intBits z ≤ 1048576) → ∃ st', g [.ro (zs.map D.int)] [] = .ok (.bl true, st')) :
    PySem.W.WalkO q loose XP YP l.row.toRowW d [] (fun f vs => PySem.call f vs) := by
  refine Att.attach_callB hn hdf fun w s₀ s₁ mg mb fa o pm cd doc a us zs G Y ho hd hcd hmg hobj hints hlen hbits hgn => ?_
  have kin := hY w _ Y
  obtain ⟨fd, hb, hF⟩ := F w mg fa _ kin G.T.g hmg
  obtain ⟨st', hst⟩ := hg zs hlen hbits
  exact lawG_call kin G.T.g G.T.b G.T.builtins G.T.nolimit hgn hobj hints (Nat.le_trans hlen hn2) room hF hb hst
end En

set_option Elab.async false
set_option linter.all false
set_option maxRecDepth 100000
set_option maxHeartbeats 1000000
namespace En
open PySem PySem.Spec PyProof.Rows L2
section
variable {X : Cx} {Γ : Fns} {con : Nat → Option D} {a b : Expr} {ca cb : CE} {p pos p2 pos2 : Pos} {F : Nat}
theorem rngD_reps {K : PySem.W.Frag} {as : Ads} {H : Hp} : ∀ (n : Nat) (a : Int), DReps K as H ((List.range n).map fun i => V.int (a + (i : Nat))) (rngD a n)
  | 0, _ => .nil
  | n + 1, a => by
    rw [List.range_succ_eq_map, List.map_cons, List.map_map]
    have e : ((fun i : Nat => V.int (a + (i : Nat))) ∘ Nat.succ) = fun i : Nat => V.int (a + 1 + (i : Nat)) := by
      funext i
      show V.int _ = V.int _
      congr 1
      simp only [Nat.succ_eq_add_one]
      omega
    rw [e]
    refine .cons ?_ (rngD_reps n (a + 1))
    have : V.int (a + ((0 : Nat) : Int)) = V.int a := by simp
    rw [this]
    exact .int a
theorem rgV_reps {K : PySem.W.Frag} {as : Ads} {H : Hp} (i j : Int) : DReps K as H (rgV i j) (rngD i (j - i).toNat) := rngD_reps _ _
theorem pd_rng1 {t : Bool} (hc : X.calm = true) (hgl : Gl X (if t then "tuple" else "list")) (hml : X.mg (if t then "tuple" else "list") = none) (hg : Gl X "range") (hm : X.mg "range" = none) (ha : PE X a (tE X.K Γ con ca)) (hs : starEach [a] X.env = (false, eval a X.env) :: starEach [] X.env) :
    PE X (.Call (.Name (if t then "tuple" else "list") p) [.Call (.Name "range" p2) [a] [] pos2] [] pos) (tE X.K Γ con (.rng1 t ca)) := by
  have rd : ∀ (σ : L2.St) (H : Hp) (Q : VK), tE X.K Γ con (.rng1 t ca) σ H Q → tRg1 (tE X.K Γ con ca) σ H fun i j H1 => RgOk i j ∧ ∀ q, H1 q = none → Q (.ref q) (upd H1 q (if t then .tup (rgV i j) else .lst (rgV i j))) := fun σ H Q ⟨as, env, st, d, st', er, sr, e, q⟩ => by
    simp only [evE] at e
    obtain ⟨⟨x, st1⟩, e1, e⟩ := Res.bind_ok e
    cases x with
    | int j =>
      simp only at e
      split at e
      · rename_i h
        cases e
        refine ⟨as, env, st, _, _, er, sr, e1, fun v H1 as1 s1 sr1 hv => ?_⟩
        cases hv
        refine ⟨j, rfl, ⟨by omega, by omega, by omega, by omega, by omega⟩, fun r hr => ?_⟩
        have hz : (rgV 0 j).length ≤ sizeLine := by rw [rgV_length, sizeLine_eq]; omega
        have e0 : rngD 0 j.toNat = rngD 0 (j - 0).toNat := by simp
        cases t with
        | true => exact q _ _ as1 (s1.trans (Step.same (same_new hr))) (sr1.same (same_new hr)) (by rw [e0]; exact (new_tup hr hz (rgV_reps 0 j)).toV)
        | false => exact q _ _ as1 (s1.trans (Step.same (same_new hr))) (sr1.same (same_new hr)) (by rw [e0]; exact (new_lst sr1 hr hz (rgV_reps 0 j)).toV)
      · cases e
    | _ => cases e
  cases t with
  | true => exact (pe_tupRg hc hgl hml (prg_1 hg hm ha hs) rfl).impD rd
  | false => exact (pe_listRg hc hgl hml (prg_1 hg hm ha hs) rfl).impD rd
theorem pd_rng2 {t : Bool} (hc : X.calm = true) (hgl : Gl X (if t then "tuple" else "list")) (hml : X.mg (if t then "tuple" else "list") = none) (hg : Gl X "range") (hm : X.mg "range" = none) (ha : PE X a (tE X.K Γ con ca)) (hb : PE X b (tE X.K Γ con cb))
    (hs : starEach [a, b] X.env = (false, eval a X.env) :: starEach [b] X.env) (hs2 : starEach [b] X.env = (false, eval b X.env) :: starEach [] X.env) :
    PE X (.Call (.Name (if t then "tuple" else "list") p) [.Call (.Name "range" p2) [a, b] [] pos2] [] pos) (tE X.K Γ con (.rng2 t ca cb)) := by
  have rd : ∀ (σ : L2.St) (H : Hp) (Q : VK), tE X.K Γ con (.rng2 t ca cb) σ H Q → tRg2 (tE X.K Γ con ca) (tE X.K Γ con cb) σ H fun i j H1 => RgOk i j ∧ ∀ q, H1 q = none → Q (.ref q) (upd H1 q (if t then .tup (rgV i j) else .lst (rgV i j))) := fun σ H Q ⟨as, env, st, d, st', er, sr, e, q⟩ => by
    simp only [evE] at e
    obtain ⟨⟨x, st1⟩, e1, e⟩ := Res.bind_ok e
    obtain ⟨⟨y, st2⟩, e2, e⟩ := Res.bind_ok e
    simp only at e
    split at e
    · rename_i i j _
      split at e
      · rename_i h
        cases e
        refine ⟨as, env, st, _, _, er, sr, e1, fun v H1 as1 s1 sr1 hv => ⟨as1, env, st1, _, _, er.step s1, sr1, e2, fun u H2 as2 s2 sr2 hu => ?_⟩⟩
        cases hv
        cases hu
        refine ⟨i, j, rfl, rfl, ⟨h.1.1, h.1.2, h.2.1.1, h.2.1.2, by omega⟩, fun r hr => ?_⟩
        have hz : (rgV i j).length ≤ sizeLine := by rw [rgV_length, sizeLine_eq]; omega
        cases t with
        | true => exact q _ _ as2 ((s1.trans s2).trans (Step.same (same_new hr))) (sr2.same (same_new hr)) (new_tup hr hz (rgV_reps i j)).toV
        | false => exact q _ _ as2 ((s1.trans s2).trans (Step.same (same_new hr))) (sr2.same (same_new hr)) (new_lst sr2 hr hz (rgV_reps i j)).toV
      · cases e
    · cases e
  have hp : (backTo pos2 (starEach [b] X.env)).any (·.1) = false := by rw [hs2]; rfl
  cases t with
  | true => exact (pe_tupRg hc hgl hml (prg_2 hg hm ha hb hs hs2 hp) rfl).impD rd
  | false => exact (pe_listRg hc hgl hml (prg_2 hg hm ha hb hs hs2 hp) rfl).impD rd
theorem frz_env {K : PySem.W.Frag} {as as' : Ads} {H : Hp} {σ : L2.St} {env : Env} {i : Nat} {d d' : D} {v : V} (s : Step as as' H H) (er : ERep K as H σ env) (hi : env[i]? = some (some d)) (hv : σ[i]? = some (some v)) (hd : VRep K as' H v d') : ERep K as' H σ (env.set i (some d')) := by
  refine ⟨by rw [List.length_set]; exact er.len, fun j x e => ?_⟩
  by_cases hj : i = j
  · subst hj
    have hl : i < env.length := by
      by_cases q : i < env.length
      · exact q
      · rw [List.getElem?_eq_none (by simpa using q)] at hi; cases hi
    rw [List.getElem?_set_self hl] at e
    cases e
    exact ⟨v, hv, hd⟩
  · rw [List.getElem?_set_ne hj] at e
    obtain ⟨u, e1, q⟩ := er.get j x e
    exact ⟨u, e1, q.step s⟩
theorem pds_frz {i : Nat} {sts : List Stmt} {cs : List CS} (h : PSs X sts (tSs X.K Γ con F cs)) : PSs X sts (tSs X.K Γ con F (.frzV i :: cs)) := h.impD fun Dn σ H ⟨as, env, s, fl, env', s', er, sr, e, q⟩ => by
  simp only [evSs] at e
  obtain ⟨⟨fl1, env1, s1⟩, e1, e⟩ := Res.bind_ok e
  simp only [evS] at e1
  split at e1
  · rename_i j hi
    obtain ⟨v, hv, hl, hr⟩ := er.get i _ hi
    split at e1
    · rename_i ds ho
      cases e1
      obtain ⟨a, vs, k1, k2, k3, k4⟩ := sr.lst ho
      obtain rfl := hr a k1
      obtain ⟨s2, sr2, n2⟩ := sr.freeze k1
      have hd : DRep X.K _ H (.ref a) (.lst ds) := DRep.lst k2 n2 k3 (DReps.step s2 _ _ k4)
      exact ⟨_, _, _, fl, env', s', frz_env s2 er hi hv hd.toV, sr2, e, fun σ' H' as' s3 sr3 er3 => q σ' H' as' (s2.trans s3) sr3 er3⟩
    · rename_i ds ho
      cases e1
      obtain ⟨a, vs, k1, k2, k3, k4⟩ := sr.dic ho
      obtain rfl := hr a k1
      obtain ⟨s2, sr2, n2⟩ := sr.freeze k1
      have hd : DRep X.K _ H (.ref a) (.dic ds) := DRep.dic (.inl k2) n2 k3 (KReps.step s2 _ _ k4)
      exact ⟨_, _, _, fl, env', s', frz_env s2 er hi hv hd.toV, sr2, e, fun σ' H' as' s3 sr3 er3 => q σ' H' as' (s2.trans s3) sr3 er3⟩
    · cases e1
  · cases e1
end
end En

set_option Elab.async false
set_option linter.all false
set_option maxRecDepth 100000
set_option maxHeartbeats 2000000
namespace En
open PySem PySem.Spec PyProof.Rows L2 PySem.Calls

/-- the body of __init__ -/
def iniBody (p0 p1 p2 p3 p4 p5 p6 p7 p8 p9 : Pos) : List Stmt :=
  [.Expr (.Call (.Attribute (.Call (.Name "super" p0) [] [] p1) "__init__" p2) [.Name "value" p3] [] p4) p5, .Assign [.Attribute (.Name "self" p6) "value" p7] (.Name "value" p8) p9]
structure IniS (scope : Scope) : Prop where
  kind : scope.kind = .function
  co : scope.isCoroutine = false
  gen : scope.isGenerator = false
  nc : ∀ x ∈ scope.names, x.2 ≠ .cell
  self : scope.names.lookup ("self" : Str) = some .local
  value : scope.names.lookup ("value" : Str) = some .local
  super : scope.names.lookup ("super" : Str) = some .globalImplicit
  cls : scope.names.lookup ("__class__" : Str) = some .free
section
variable {P : Program} {w : World} {A : Around} {K : PySem.W.Frag} {mg : Str → Option Value} {base : Heap} {R : Result → Shared → Prop}
theorem init_run {s : Shared} (md : Mod K mg base) (bk : ∀ b o, base.get? b = some o → s.heap.get? b = some o) {fI cc cda D C a t0 : Addr} {u : Value} {qual : Str} {params : Arguments} {ar : Arg} {p0 p1 p2 p3 p4 p5 p6 p7 p8 p9 : Pos} {scope : Scope}
    {dV kV doc pm ct oc ccl cl : Value} {an od cdd cld : Option Addr} {osl ccs csl : Array (Option Value)} {vs : Array Value} {file : Str} {tf : Tok} {cdD : ClassData}
    {pl : PySem.Env → Sem Bool} (hcall : ∀ env, eval (.Call (.Attribute (.Call (.Name "super" p0) [] [] p1) "__init__" p2) [.Name "value" p3] [] p4) env = (do
      let ov ← attributeBase (.Call (.Name "super" p0) [] [] p1) "__init__" env (eval (.Call (.Name "super" p0) [] [] p1) env)
      standAt p2.atName
      let (f, first) ← holding [ov] (getMethod ov "__init__" (pl env))
      callWith p4 f first (backTo p4 (starEach [.Name "value" p3] env)) []))
    (hroom : A.depth < recursionLimit) (hsuper : mg "super" = none)
    (lk : K.lookup fI = some ⟨oc, od, .func (PySem.W.ksFn "__init__" qual params (iniBody p0 p1 p2 p3 p4 p5 p6 p7 p8 p9) scope dV kV doc pm an (.ref cda) ct cc), osl⟩) (hcd : PySem.W.codeIn K (.ref cda) qual = true)
    (hb : Binds K (PySem.W.ksFn "__init__" qual params (iniBody p0 p1 p2 p3 p4 p5 p6 p7 p8 p9) scope dV kV doc pm an (.ref cda) ct cc) ["self", "value"] []) (hpar : (params.posonlyargs ++ params.args).head? = some ar) (har : ar.arg = "self")
    (Sc : IniS scope) (hcode : K.lookup cda = some ⟨ccl, cdd, .fields vs, ccs⟩) (hvs : vs[2]? = some (.str file tf)) (hfile : ((P.main.file : Str) == file) = true) (htop : (P.main.scope.names.lookup ("super" : Str)).isSome = false)
    (hcell : K.lookup cc = some ⟨cl, cld, .cell (some (.ref D)), csl⟩) (hD : PySem.W.clsIn K D = some cdD) (T : OexC K C) (hsub : PySem.W.mroIn K C (.ref D) = some true) (hVE : PySem.W.subIn K (.ref C) (.type "ValueError") = some true)
    (hsi : PySem.W.ks_superIn K C D "__init__" = some (some (.builtin "ValueError.__init__"))) (hop : PySem.W.nsIn K cStatics "thirdparty.any" = some none) (hno : PySem.W.findIn K (.ref C) "value" = some none)
    (ha : s.heap.get? a = some (PySem.HandSPX.excO C t0)) (hna : base.get? a = none)
    (q : ∀ (h' : Heap) (tk' dx t1 : Nat), (∀ b o, b ≠ a → s.heap.get? b = some o → h'.get? b = some o) → s.heap.objs.size ≤ dx → dx ≠ a → h'.get? a = some ({ cls := .ref C, dict := some dx, data := .fields #[.ref t1, .none, .none, .none, .bool false, .none] } : Obj) →
      (h'.Ns1 dx fun y => if y = ("value" : Str) then some u else none) → R (.ok (.ret .none)) { s with heap := h', toks := tk' }) :
    codeAny (model P w) A (.call (.ref fI) ⟨[.ref a, u], []⟩) R s := by
  have KX : K.In s.heap := md.kin.keeps bk
  refine ks_codeAny_call_defAt hroom (KX _ _ lk) rfl (md.nolimit.keeps bk) (PySem.W.codeRec_of KX hcd) rfl (hb s [.ref a, u] KX rfl) Sc.nc (fun x hx => ?_) (fun h₀ hns k₀ => ?_) Sc.co Sc.gen Sc.kind
  · have hx' : x = (("self" : Str), Value.ref a) ∨ x = (("value" : Str), u) := by simpa using hx
    rcases hx' with rfl | rfl
    · exact Sc.self
    · exact Sc.value
  obtain ⟨nm, qn, N, bs, bm, sn, sub, ab, col, dd, k0, k1, k2, k3, k5, hC, hbm⟩ := T.cls
  have hcl : PySem.W.clsIn K C = some { name := nm, bases := bs, mro := .ref C :: bm, ns := N, qualname := qn, hasDict := true, slotNames := sn, subclasses := sub, abstract := ab, collection := col, hasDel := false } := by unfold PySem.W.clsIn; rw [hC] <;> rfl
  generalize hfd : PySem.W.ksFn "__init__" qual params (iniBody p0 p1 p2 p3 p4 p5 p6 p7 p8 p9) scope dV kV doc pm an (.ref cda) ct cc = fd at *
  have e1 : fd.scope = scope := by rw [← hfd]
  have e2 : fd.params = params := by rw [← hfd]
  have e3 : fd.closure = [(("__class__" : Str), cc)] := by rw [← hfd]
  have e4 : fd.code = .ref cda := by rw [← hfd]
  have e5 : fd.globals = mainGlobals := by rw [← hfd]
  have e6 : fd.builtins = builtinsNs := by rw [← hfd]
  generalize henv : callEnv fd s.heap.objs.size fI = env
  have v1 : env.scope = scope := by rw [← henv]; exact e1
  have v2 : env.locals = s.heap.objs.size := by rw [← henv]; rfl
  have v3 : env.cells = [(("__class__" : Str), cc)] := by rw [← henv]; exact e3
  have v4 : env.code = .ref cda := by rw [← henv]; exact e4
  have v5 : env.globals = mainGlobals := by rw [← henv]; exact e5
  have v6 : env.builtins = builtinsNs := by rw [← henv]; exact e6
  have v7 : env.func = some fI := by rw [← henv]; rfl
  have kk : env.scope.kind = .function := by rw [v1]; exact Sc.kind
  have v8 : interactive env = false := by unfold interactive; rw [kk]; rfl
  have v9 : swapsWith (.Call (.Attribute (.Call (.Name "super" p0) [] [] p1) "__init__" p2) [.Name "value" p3] [] p4) none p5.line env = pure false := by first | rfl | (rw [← henv]; rfl)
  have v10 : swapsWith (.Name "value" p8) (some (.Attribute (.Name "self" p6) "value" p7)) p9.line env = pure false := by first | rfl | (rw [← henv]; rfl)
  have k9 : env.kindOf "self" = some .local := by show env.scope.names.lookup _ = _; rw [v1]; exact Sc.self
  have k8 : env.kindOf "value" = some .local := by show env.scope.names.lookup _ = _; rw [v1]; exact Sc.value
  have k7 : env.kindOf "super" = some .globalImplicit := by show env.scope.names.lookup _ = _; rw [v1]; exact Sc.super
  have k6 : env.kindOf "__class__" = some .free := by show env.scope.names.lookup _ = _; rw [v1]; exact Sc.cls
  obtain ⟨oD, hD1, hD2⟩ : ∃ oD, K.lookup D = some oD ∧ oD.data = .cls cdD := by
    unfold PySem.W.clsIn at hD
    split at hD
    · rename_i c d cd' sl ho
      cases hD
      exact ⟨_, ho, rfl⟩
    · cases hD
  have hLa : a ≠ s.heap.objs.size := fun z => absurd (Heap.lt_size ha) (by rw [z]; exact Nat.lt_irrefl _)
  unfold iniBody
  obtain ⟨hp, g, d, t, os⟩ := s
  -- super()
  refine ks_wpAt_execs_cons (ks_wpAt_Expr_any (ks_wpAt_MethodCall (ks_wpAt_super_base k7 k6 (by decide) v7 (k₀ _ _ (KX _ _ lk)) rfl (by rw [e2]; exact hpar) v4 (k₀ _ _ (KX _ _ hcode)) rfl hvs hfile htop ?_) (hcall env)) v8 v9)
  obtain ⟨mb, b1, b2⟩ := md.blt
  refine PySem.W.ks_loadName_global kk k7 (Calls.loadGlobal_builtin (by rw [v5]; exact (md.glob.keeps bk).keeps k₀) hsuper (by rw [v6]; exact (b1.keeps bk).keeps k₀) ((b2 "super" (by decide)).trans (by kernel_rfl)) ⟨rfl, ?_⟩)
  refine wpAny_loadName_free kk k6 (by rw [v3]; rfl) ⟨_, k₀ _ _ (KX _ _ hcell), rfl⟩ ?_
  rw [har]
  refine wpAny_loadName_local (v := .ref a) kk k9 (by rw [v2]; exact hns) rfl ?_
  refine ks_wpAny_isType_cls (k₀ _ _ (KX _ _ hD1)) hD2 ⟨rfl, ?_⟩
  have KX0 : K.In h₀ := KX.keeps k₀
  refine ks_wpAny_call_super (k₀ _ _ (KX _ _ hD1)) hD2 (k₀ _ _ ha) rfl (fun c e => by cases e) (PySem.W.looks_mroIn KX0 hsub) fun h1 hso ks => ?_
  have KX1 : K.In h1 := KX0.keeps ks
  have ha1 : h1.get? a = some (PySem.HandSPX.excO C t0) := ks _ _ (k₀ _ _ ha)
  have IA : PySem.W.InstAt h1 a (PySem.HandSPX.excO C t0) C none := ⟨ha1, rfl, rfl, trivial⟩
  have hal : PySem.W.alongIn K "__init__" (((Value.ref C :: bm).dropWhile (· != .ref D)).drop 1) = some (some (.builtin "ValueError.__init__")) := by
    unfold PySem.W.ks_superIn at hsi
    rw [hcl] at hsi
    exact hsi
  refine PySem.W.kxs_getMethod PySem.W.kxs_ValueError (l₀ := .ref C :: bm) hso (PySem.W.looks_opaque KX1 hop) ?_ rfl KX1 hal (IA.type.andThen (PySem.W.looks_subIn KX1 hVE)) (PySem.W.ks_ne KX1 IA hcl) (by decide) ?_
  · exact fun A Q E s k q => wpAny_bind ((PySem.W.looks_clsIn KX1 hcl) A _ E s k (wpAny_pure q))
  have kp : ∀ b o, h1.get? b = some o → (h1.push (PySem.W.kxs_mw "ValueError.__init__" a)).get? b = some o := fun b o e => Heap.get?_push_of_some _ e
  have hu : (h1.push (PySem.W.kxs_mw "ValueError.__init__" a)).get? h1.objs.size = some (PySem.W.kxs_mw "ValueError.__init__" a) := Heap.get?_push_at rfl rfl
  generalize h1.push (PySem.W.kxs_mw "ValueError.__init__" a) = h2 at *
  refine PySem.W.kxs_callWith (i := "ValueError.__init__") (x := a) rfl (Calls.evalArgs_plain (Calls.spliced_cons ?_))
  have ns2 : h2.Ns env.locals (fun x => (([("self" : Str), "value"].zip ([Value.ref a, u] ++ [])).reverse).lookup x) := by rw [v2]; exact (hns.keeps ks).keeps kp
  refine PySem.ESX.ldL (v := u) ns2 rfl ?_ kk k8
  refine Calls.spliced_nil ⟨hu, ?_⟩
  have KX2 : K.In h2 := KX1.keeps kp
  refine wpAny_call (codeAny_of_tree ?_)
  show wpAny _ _ (callAny (.ref h1.objs.size) ⟨[u], []⟩) _ _ _
  simp only [callAny]
  refine wpAny_bind (wpAny_load hu ?_)
  simp only [PySem.W.kxs_mw, show (Value.type "method-wrapper" == Value.type "method" || Value.type "method-wrapper" == Value.type "builtin_function_or_method" || Value.type "method-wrapper" == Value.type "method-wrapper") = true by decide, if_true]
  refine PySem.W.KFB.if_so (by decide) ?_
  refine wpAny_bind (PySem.W.check_bound_init PySem.F.excBase_ValueError.toExcCallFacts (KX2 _ _ hC) (kp _ _ ha1) rfl ?_)
  refine wpAny_bind (wpAny_pure (wpAny_pure ?_))
  refine ⟨plainId_quiet PySem.F.excBase_ValueError.init.plain _, codeAny_builtin PySem.F.excBase_ValueError.initEntry ?_⟩
  refine PySem.W.exc_init_tree (cls := .ref C) (t0 := t0) (dv := none) (c2 := .none) (c3 := .none) (b4 := .bool false) (kp _ _ ha1) (by rw [sizeLine_eq]; simp) fun h3 k3 ha3 _ => ?_
  show PySem.wpAt _ _ _ (execs _ env) _ _ _
  have kAll : ∀ b o, b ≠ a → hp.get? b = some o → h3.get? b = some o := fun b o hb e => k3 b o hb (kp _ _ (ks _ _ (k₀ _ _ e)))
  have KX3 : K.In h3 := fun b o e => k3 b o (fun z => by
    have z2 := md.kin _ _ e
    rw [z, hna] at z2
    cases z2) (KX2 b o e)
  have ns3 : h3.Ns env.locals (fun x => (([("self" : Str), "value"].zip ([Value.ref a, u] ++ [])).reverse).lookup x) := by
    obtain ⟨oL, es, ep, hL, r⟩ := ns2
    exact ⟨oL, es, ep, k3 _ _ (by rw [v2]; exact Ne.symm hLa) hL, r⟩
  refine ks_wpAt_execs_cons (ks_wpAt_Assign_Attr (wpAt_of_wpAny ?_) v10)
  refine PySem.ESX.ldL (v := u) ns3 rfl ?_ kk k8
  refine PySem.ESX.ldL (v := .ref a) ns3 rfl ?_ kk k9
  refine PySem.W.set_plain KX3 (ox := { cls := .ref C, dict := none, data := .fields #[.ref h2.objs.size, .none, .none, .none, .bool false, .none] }) (od := none) ⟨ha3, rfl, rfl, trivial⟩ T.sa ?_
  refine PySem.HandSPX.exc_osa KX3 ha3 hcl (show PySem.HandSPX.refsVE (.ref C :: bm) = true from hbm) rfl hno (fun h' tk' dx k4 dn dne hx hn => ?_)
  show PySem.wpAt _ _ _ (execs [] env) _ _ _
  refine wpAt_of_wpAny ?_
  refine wpAny_execs_nil ?_
  have sz3 : hp.objs.size ≤ h3.objs.size := by
    obtain ⟨oL, es, ep, hL, r⟩ := ns3
    rw [v2] at hL
    exact Nat.le_of_lt (Heap.lt_size hL)
  exact q h' tk' dx _ (fun b o hb e => k4 b o hb (kAll b o hb e)) (Nat.le_trans sz3 dn) dne hx hn
end
end En

set_option Elab.async false
set_option linter.all false
set_option maxRecDepth 100000
set_option maxHeartbeats 2000000
namespace En
open PySem PySem.Spec PyProof.Rows L2 PySem.Calls

/-- the __init__ at fI, of the class at D -/
structure IniF (P : Program) (K : PySem.W.Frag) (fI D : Addr) : Prop where
  ex : ∃ (cc cda : Addr) (qual : Str) (params : Arguments) (ar : Arg) (p0 p1 p2 p3 p4 p5 p6 p7 p8 p9 : Pos) (scope : Scope) (dV kV doc pm ct oc ccl cl : Value) (an od cdd cld : Option Addr) (osl ccs csl : Array (Option Value)) (vs : Array Value) (file : Str) (tf : Tok) (cdD : ClassData) (pl : PySem.Env → Sem Bool),
    (∀ env, eval (.Call (.Attribute (.Call (.Name "super" p0) [] [] p1) "__init__" p2) [.Name "value" p3] [] p4) env = (do
      let ov ← attributeBase (.Call (.Name "super" p0) [] [] p1) "__init__" env (eval (.Call (.Name "super" p0) [] [] p1) env)
      standAt p2.atName
      let (f, first) ← holding [ov] (getMethod ov "__init__" (pl env))
      callWith p4 f first (backTo p4 (starEach [.Name "value" p3] env)) [])) ∧
    K.lookup fI = some ⟨oc, od, .func (PySem.W.ksFn "__init__" qual params (iniBody p0 p1 p2 p3 p4 p5 p6 p7 p8 p9) scope dV kV doc pm an (.ref cda) ct cc), osl⟩ ∧ PySem.W.codeIn K (.ref cda) qual = true ∧
    Binds K (PySem.W.ksFn "__init__" qual params (iniBody p0 p1 p2 p3 p4 p5 p6 p7 p8 p9) scope dV kV doc pm an (.ref cda) ct cc) ["self", "value"] [] ∧ (params.posonlyargs ++ params.args).head? = some ar ∧ ar.arg = "self" ∧
    IniS scope ∧ K.lookup cda = some ⟨ccl, cdd, .fields vs, ccs⟩ ∧ vs[2]? = some (.str file tf) ∧ ((P.main.file : Str) == file) = true ∧
    K.lookup cc = some ⟨cl, cld, .cell (some (.ref D)), csl⟩ ∧ PySem.W.clsIn K D = some cdD
  top : (P.main.scope.names.lookup ("super" : Str)).isSome = false
  ty : PySem.W.typeIn K (.ref fI) = some (.type "function")
  op : PySem.W.nsIn K cStatics "thirdparty.any" = some none
/-- a class of such errors -/
structure ErrC (K : PySem.W.Frag) (fI D C : Addr) : Prop where
  ox : OexC K C
  sub : PySem.W.mroIn K C (.ref D) = some true
  ve : PySem.W.subIn K (.ref C) (.type "ValueError") = some true
  si : PySem.W.ks_superIn K C D "__init__" = some (some (.builtin "ValueError.__init__"))
  no : PySem.W.findIn K (.ref C) "value" = some none
  ini : PySem.W.findIn K (.ref C) "__init__" = some (some (.ref fI))
theorem ero_ok {P : Program} {w : World} {H : Hp} {h : Heap} {a C dx : Addr} {vs : Array Value} (he : h.get? a = some ({ cls := .ref C, dict := some dx, data := .fields vs } : Obj)) : ObjOk P w H h a (ero a C dx) :=
  ⟨⟨_, vs, he, ⟨rfl, rfl⟩, rfl⟩, ⟨_, he⟩, fun _ _ ⟨o, v, q, r⟩ k => ⟨o, v, k o q, r⟩⟩
section
variable {X : Cx} {pins : List (Addr × Obj)} {σ : L2.St} {H : Hp} {s : Shared} {a C dx fI D : Addr} {y : V} {u : Value} {A : Around}
theorem inv_store {f : Str} {h' : Heap} {t' : Nat} {t1 : Addr} (I : Inv X pins σ H s) (e : H a = some (exo a C none)) (k : ∀ b o, b ≠ a → s.heap.get? b = some o → h'.get? b = some o) (dn : s.heap.objs.size ≤ dx) (dne : dx ≠ a)
    (hx : h'.get? a = some ({ cls := .ref C, dict := some dx, data := .fields #[.ref t1, .none, .none, .none, .bool false, .none] } : Obj)) (hn : h'.Ns1 dx fun y => if y = f then some u else none) (ry : RelV y u) :
    Inv X pins σ (upd (upd H dx (exd dx [(f, y)])) a (ero a C dx)) { s with heap := h', toks := t' } := by
  have hnd : H dx = none := I.hok.fresh dn
  have nd : ∀ {b : Addr} {o : Obj}, s.heap.get? b = some o → b ≠ dx := fun {b o} q => Nat.ne_of_lt (Nat.lt_of_lt_of_le (Heap.lt_size q) dn)
  have na : ∀ {b : Addr}, H b = none → b ≠ a := fun {b} n z => by
    rw [z, e] at n
    cases n
  have Un1 : Un X.fs [] H (upd (upd H dx (exd dx [(f, y)])) a (ero a C dx)) s.heap h' := {
    keep := fun b o q n _ _ => k b o (na n) q
    slot := fun b o q n _ _ => ⟨o.slots, k b o (na n) q⟩
    free := fun b o q n _ => by rw [upd_ne (na n), upd_ne (nd q)]; exact n
    there := fun b o q _ => by
      by_cases hb : b = a
      · exact ⟨_, by rw [hb]; exact hx⟩
      · exact ⟨o, k b o hb q⟩
    tups := fun b xs q => by rw [upd_ne (at_ne e q exo_tup), upd_ne (ne_of_none q hnd)]; exact q
    frzs := fun b o v q => by rw [upd_ne (at_ne e q exo_frz), upd_ne (ne_of_none q hnd)]; exact q
    tbls := fun b ps q => ⟨#[], by rw [upd_ne (at_ne e q exo_tbl), upd_ne (ne_of_none q hnd), q]; simp⟩ }
  refine I.un (t' := t') Un1 fun b o q => ?_
  by_cases hb : b = a
  · subst hb
    rw [upd_same] at q
    cases q
    exact ero_ok hx
  · rw [upd_ne hb] at q
    by_cases hd : b = dx
    · subst hd
      rw [upd_same] at q
      cases q
      exact exd_ok hn (relO_put (fs := []) ry fun g => True.intro)
    · rw [upd_ne hd] at q
      exact (I.hok b o q).stay (fun c v hc z => k c v (by
          rcases hc with hc | hc
          · rw [hc]
            exact hb
          · exact at_ne e hc exo_own) z)
        (fun c hc => by rw [upd_ne (at_ne e hc exo_own), upd_ne (ne_of_none hc hnd)]; exact hc) (fun c xs hc => by rw [upd_ne (at_ne e hc exo_tup), upd_ne (ne_of_none hc hnd)]; exact hc)
theorem err_call {E : Value → Shared → Prop} {Q : Value → Shared → Prop} (I : Inv X pins σ H s) (F : IniF X.prog X.K fI D) (T : ErrC X.K fI D C) (hsuper : X.mg "super" = none) (hr : X.A.depth + 1 < recursionLimit) (ry : RelV y u)
    (h : ∀ a dx s', H a = none → H dx = none → dx ≠ a → Inv X pins σ (upd (upd H dx (exd dx [("value", y)])) a (ero a C dx)) s' → Q (.ref a) s') : wpAny (model X.prog X.w) X.A (call (.ref C) [u]) Q E s := by
  obtain ⟨nm, q, N, bs, bm, sn, sub, ab, col, dd, k0, k1, k2, k3, k5, hC, hbm⟩ := T.ox.cls
  obtain ⟨cc, cda, qual, params, ar, p0, p1, p2, p3, p4, p5, p6, p7, p8, p9, scope, dV, kV, doc, pm, ct, oc, ccl, cl, an, od, cdd, cld, osl, ccs, csl, vs, file, tf, cdD, pl, f1, f2, f3, f4, f5, f6, f7, f8, f9, f10, f11, f12⟩ := F.ex
  obtain ⟨hp, g, dr, tk, os⟩ := s
  have hsz : hp.objs.size ≤ hp.objs.size + 1 := Nat.le_succ _
  have hn : H (hp.objs.size + 1) = none := I.hok.fresh hsz
  have kk : ∀ b o, hp.get? b = some o → ((hp.push (PySem.W.kdv_tup [u])).push (PySem.HandSPX.excO C hp.objs.size)).get? b = some o := fun b o e => Heap.get?_push_of_some _ (Heap.get?_push_of_some _ e)
  have hget : ((hp.push (PySem.W.kdv_tup [u])).push (PySem.HandSPX.excO C hp.objs.size)).get? (hp.objs.size + 1) = some (PySem.HandSPX.excO C hp.objs.size) := by heap_get
  have hs2 : hp.objs.size + 2 ≤ ((hp.push (PySem.W.kdv_tup [u])).push (PySem.HandSPX.excO C hp.objs.size)).objs.size := Heap.lt_size hget
  have I2 : Inv X pins σ (upd H (hp.objs.size + 1) (exo (hp.objs.size + 1) C none)) ⟨(hp.push (PySem.W.kdv_tup [u])).push (PySem.HandSPX.excO C hp.objs.size), g, dr, tk, os⟩ :=
    I.laid (t' := tk) (a := hp.objs.size + 1) (o := exo (hp.objs.size + 1) C none) (h' := (hp.push (PySem.W.kdv_tup [u])).push (PySem.HandSPX.excO C hp.objs.size)) kk hsz (exo_ok hget)
  have hna : X.base.get? (hp.objs.size + 1) = none := by
    cases z : X.base.get? (hp.objs.size + 1) with
    | none => rfl
    | some o => exact absurd (Heap.lt_size (I.bk _ _ z)) (by simp)
  have hroom : (X.A.under (Code.builtin "type.__call__" { pos := [Value.ref C, u], kw := [] })).depth < recursionLimit := by rw [make_depth]; exact hr
  refine wpAny_call (PySem.HandSPX.call_own PySem.F.excBase_ValueError (fun Y => PySem.HandSPX.refsVE_contains Y bm hbm) (I.kIn _ _ hC) (PySem.W.looks_findIn I.kIn T.ini) (fun self => PySem.W.bind_fn I.kIn self F.ty) (by rw [sizeLine_eq]; simp)
    (init_run I2.mod I2.bk f1 hroom hsuper f2 f3 f4 f5 f6 f7 f8 f9 f10 F.top f11 f12 T.ox T.sub T.ve T.si F.op T.no hget hna fun h' tk' dx t1 k dn dne hx hns => ?_))
  refine ⟨rfl, ?_⟩
  have J := inv_store (f := "value") (t' := tk') I2 upd_same k dn dne hx hns ry
  have hd0 : H dx = none := by
    have := I2.hok.fresh dn
    rw [upd_ne dne] at this
    exact this
  have eq : upd (upd (upd H (hp.objs.size + 1) (exo (hp.objs.size + 1) C none)) dx (exd dx [("value", y)])) (hp.objs.size + 1) (ero (hp.objs.size + 1) C dx) = upd (upd H dx (exd dx [("value", y)])) (hp.objs.size + 1) (ero (hp.objs.size + 1) C dx) := by
    funext b
    by_cases hb : b = hp.objs.size + 1
    · rw [hb, upd_same, upd_same]
    · rw [upd_ne hb, upd_ne hb]
      by_cases hb2 : b = dx
      · rw [hb2, upd_same, upd_same]
      · rw [upd_ne hb2, upd_ne hb2, upd_ne hb]
  rw [eq] at J
  exact h _ dx _ hn hd0 dne J
/-- C(e), C a class of such errors -/
def tErr (C : Addr) (t : TA) : TE := fun σ H Q => t σ H fun vs H1 => ∃ v, vs = [v] ∧ ∀ a dx, H1 a = none → H1 dx = none → dx ≠ a → Q (.ref a) (upd (upd H1 dx (exd dx [("value", v)])) a (ero a C dx))
theorem pe_err {x : Str} {e : Expr} {t : TA} {p pos : Pos} (F : IniF X.prog X.K fI D) (T : ErrC X.K fI D C) (hsuper : X.mg "super" = none) (hr : X.A.depth + 1 < recursionLimit) (hg : Gl X x) (hm : X.mg x = some (.ref C)) (ha : PA X [e] t)
    (hdb : (x == ("__debug__" : Str)) = false := by decide) (he : starEach [e] X.env = (false, eval e X.env) :: starEach [] X.env := by rfl) : PE X (.Call (.Name x p) [e] [] pos) (tErr C t) := by
  refine ⟨fun pins s σ H Q I h => ?_⟩
  refine wpAny_Call_Name_kw (ld_glob I hg hm ?_ hdb)
  refine PySem.W.callWith_K (h₀ := X.base) I.ok.mod.kin T.ox.kC (thn (ha.run pos pins s σ H _ I h) fun us s1 ⟨vs, H1, I1, r1, v, ev, q1⟩ => ⟨I1.kIn, ?_⟩) he rfl
  subst ev
  cases r1 with
  | cons r r' =>
    cases r'
    exact err_call I1 F T hsuper hr r fun a dx s' n1 n2 n3 J => ⟨.ref a, _, J, rfl, q1 a dx n1 n2 n3⟩
end
end En

set_option Elab.async false
set_option linter.all false
set_option maxRecDepth 100000
set_option maxHeartbeats 2000000
namespace PySem.W
open PySem PySem.Spec PySem.Calls PyProof.Rows
section
variable {prog : Program} {w : World} {A : Around} {E : Value → Shared → Prop} {s : Shared} {K : Frag} {x D : Addr} {ox : Obj}
theorem findObj_dataE {od : Option Obj} {C : Addr} {name : Str} {a g : Value} (hc : (clsIn K C).isSome = true) (ha : findIn K (.ref C) name = some (some a)) (hg : specialIn K a "__get__" = some (some g)) (ht : takesIn K a = some true) : findObj K C od name = some (.bind g a) := by
  obtain ⟨cd, hc⟩ := Option.isSome_iff_exists.mp hc
  unfold findObj
  rw [hc, Option.bind_some, ha, Option.bind_some]
  simp [hg, ht]
theorem kin_classD {od : Option Obj} {Q : Option Value → Shared → Prop} (hga : findIn K (.ref D) "__getattribute__" = some (some (.builtin "BaseException.__getattribute__"))) (hgt : findIn K (.ref D) "__getattr__" = some none) (hsub : subIn K (.ref D) (.type "BaseException") = some true)
    (hdct : hasDictIn K D = true) (ha : findIn K (.ref D) "__class__" = some (some (.builtin "object.__class__")))
    (hn : specialIn K (.builtin "object.__class__") "__get__" = some (some (.builtin "getset_descriptor.__get__"))) (htk : takesIn K (.builtin "object.__class__") = some true) (hm : mroIn K D (.type "object") = some true)
    (X : K.In s.heap) (I : InstAt s.heap x ox D od) (h : Q (some (.ref D)) { s with toks := s.toks + 1 }) : wpAny (model prog w) A (getAttr? (.ref x) "__class__") Q E s := by
  have hf : findObj K D od "__class__" = some (.bind (.builtin "getset_descriptor.__get__") (.builtin "object.__class__")) := findObj_dataE (by obtain ⟨cd, hc, _⟩ := any_some hdct; rw [hc]; rfl) ha hn htk
  obtain ⟨hp, g, d, t, os⟩ := s
  have L0 := I.type (M := model prog w)
  have L1 := looks_findIn (M := model prog w) X hga
  have L2 := looks_findIn (M := model prog w) X hgt
  have L3 := looks_find (M := model prog w) X I hf
  have sub : Looks (model prog w) hp (isInstance (.ref x) (.type "BaseException")) true := L0.andThen (looks_subIn X hsub)
  have hx0 : (false && onTheHeap (Value.builtin "BaseException.__getattribute__")) = false := rfl
  have hx2 : (Value.builtin "BaseException.__getattribute__" == Value.builtin "object.__getattribute__") = false := by decide +kernel
  have hx1 : (onTheHeap (Value.ref D) && Value.builtin "BaseException.__getattribute__" == Value.builtin "object.__getattribute__") = false := by rw [hx2]; rfl
  unfold getAttr? getAttrBy? getAttrBy
  refine wpAny_bind (wpAny_mkText (wpAny_bind (wpAny_attempt (wpAny_holding (wpAny_bind (L0.at (wpAny_bind (L1.at ?_))))))))
  show wpAny _ _ (if (onTheHeap (Value.ref D) && Value.builtin "BaseException.__getattribute__" == Value.builtin "object.__getattribute__") = true then _ else _) _ _ _
  rw [hx1, if_neg Bool.false_ne_true]
  unfold getAttrByItsOwn hookBefore
  refine wpAny_bind ?_
  rw [if_pos (show onTheHeap (Value.ref D) = true from rfl)]
  refine L2.at ?_
  refine wpAny_bind (wpAny_attempt (wpAny_holding ?_))
  unfold callGetattribute
  rw [hx0, if_neg Bool.false_ne_true]
  unfold boundAndCalled
  rw [PySem.F.excAttr_ValueError.ga.bind (.ref x)]
  refine wpAny_bind (wpAny_pure ?_)
  show wpAny _ _ (call (.builtin "BaseException.__getattribute__") [.ref x, .str "__class__" t]) _ _ _
  refine wpAny_call (codeAny_call_builtin PySem.F.excAttr_ValueError.ga.plain PySem.F.entry_bexc_ga ?_)
  refine @check_slot (model prog w) _ _ ⟨hp, g, d, t + 1, os⟩ "BaseException.__getattribute__" "BaseException" "__getattribute__" (.ref x) [.str "__class__" t] [] _ (by decide +kernel) (by decide +kernel) sub (PySem.F.args_bexc_ga (.ref x) (.str "__class__" t)) ?_
  unfold Builtin.«object.__getattribute__»
  refine wpAny_bind (wpAny_of_eq (a := ((Value.ref x : Value), [Value.str "__class__" t])) (by first | rfl | (simp only [slotArgs]; rfl)) ?_)
  refine wpAny_bind (wpAny_pure (wpAny_bind (L0.at (wpAny_bind (L3.at ?_)))))
  show wpAny _ _ (holding [Value.builtin "object.__class__"] (call (.builtin "getset_descriptor.__get__") [.builtin "object.__class__", .ref x, .ref D]) >>= ret) _ _ _
  refine wpAny_bind (wpAny_holding (wpAny_call (class_get (s := ⟨hp, g, d, t + 1, os⟩) (ox := ox) (od := od) X I hm ?_)))
  refine wpAny_pure ?_
  show wpAny _ _ (handedOut (.ref D)) _ _ _
  rw [handedOut_of (v := .ref D) rfl]
  first
    | exact wpAny_pure (wpAny_pure h)
    | exact wpAny_pure h
    | exact wpAny_pure (wpAny_bind (wpAny_pure (wpAny_pure h)))
theorem kitx_excD (hga : findIn K (.ref D) "__getattribute__" = some (some (.builtin "BaseException.__getattribute__"))) (hgt : findIn K (.ref D) "__getattr__" = some none) (hsub : subIn K (.ref D) (.type "BaseException") = some true) (hdct : hasDictIn K D = true) (ha : findIn K (.ref D) "__class__" = some (some (.builtin "object.__class__")))
    (hn : specialIn K (.builtin "object.__class__") "__get__" = some (some (.builtin "getset_descriptor.__get__"))) (htk : takesIn K (.builtin "object.__class__") = some true) (hm : mroIn K D (.type "object") = some true) :
    KitX K (.ref x) (.ref D) (fun h => ∃ ox od, InstAt h x ox D od) where
  ty := fun _ _ _ ⟨_, _, I⟩ => I.type
  it := fun _ _ X _ => by
    obtain ⟨cdD, hcD, _⟩ := any_some hdct
    unfold clsIn at hcD
    split at hcD
    · rename_i c' d' cd' sl' ho
      intro A' Q' E' s' k q
      unfold isType loadHead
      exact wpAny_bind (wpAny_loadPart (k _ _ (X _ _ ho)) (wpAny_pure q))
    · cases hcD
  ne := fun h tp dd its n sl X htp => by
    obtain ⟨cdD, hcD, _⟩ := any_some hdct
    refine Bool.eq_false_iff.mpr fun q => ?_
    have e : D = tp := Value.ref.inj (beq_iff_eq.mp q)
    subst e
    unfold clsIn at hcD
    split at hcD
    · rename_i c' d' cd' sl' ho
      have z := (X _ _ ho).symm.trans htp
      cases z
    · cases hcD
  ca := fun X ⟨_, _, I⟩ k => kin_classD hga hgt hsub hdct ha hn htk hm X I k
end
end PySem.W
namespace En
open PySem PySem.Spec PyProof.Rows L2 PySem.Calls
section
variable {K : PySem.W.Frag} {x y : Str} {C C' : Addr}
theorem ErrK.sub (h : ErrK K y C) (h' : ErrK K x C') (hx : x ≠ "ValueError") : PySem.W.subIn K (.ref C) (.ref C') = some (errSub y x) := by
  obtain ⟨cd, cdH, CH, c1, c2, c3, c4, c5, c6⟩ := h.cls
  obtain ⟨cd', cdH', CH', d1, d2, d3, d4, d5, d6⟩ := h'.cls
  have e : CH' = CH := by rw [c3] at d3; cases d3; rfl
  subst e
  have hm : PySem.W.subIn K (.ref C) (.ref C') = some (decide (C' = C) || decide (C' = CH')) := by
    show PySem.W.mroIn K C (.ref C') = _
    unfold PySem.W.mroIn
    rw [c1, Option.bind_some, c6]
    by_cases e : C = CH'
    · rw [if_pos e]
      subst e
      simp [PySem.HandSPX.veTail, List.contains_cons]
    · rw [if_neg e]
      simp [PySem.HandSPX.veTail, List.contains_cons]
  rw [hm]
  congr 1
  unfold errSub
  by_cases e1 : C' = C
  · subst e1
    rw [c1] at d1
    cases d1
    rw [← c2, ← d2]
    simp
  · by_cases e2 : C' = CH'
    · subst e2
      rw [d1] at c4
      cases c4
      rw [← d2, c5]
      simp
    · have n1 : y ≠ x := fun z => by
        subst z
        have := h.ns.symm.trans h'.ns
        cases this
        exact e1 rfl
      have n2 : x ≠ "HandError" := fun z => by
        subst z
        have := h'.ns.symm.trans c3
        cases this
        exact e2 rfl
      simp [e1, e2, n1, n2, hx]
theorem ErrK.kit (h : ErrK K y C) (h' : ErrK K x C') (hx : x ≠ "ValueError") : PySem.W.kitOne K (.ref C) (.ref C') = some (errSub y x) := by
  have hs := h.sub h' hx
  obtain ⟨cd', cdH', CH', d1, d2, d3, d4, d5, d6⟩ := h'.cls
  unfold PySem.W.kitOne
  by_cases e : C = C'
  · subst e
    have : y = x := by
      obtain ⟨cd, cdH, CH, c1, c2, _⟩ := h.cls
      rw [c1] at d1
      cases d1
      rw [← c2, ← d2]
    subst this
    simp [errSub]
  · have e' : (Value.ref C == Value.ref C') = false := by simp [e]
    rw [e', if_neg Bool.false_ne_true]
    show (if ((PySem.W.clsIn K C').isSome && PySem.W.typeIn K (Value.ref C') == some (Value.type "type")) = true then PySem.W.subIn K (Value.ref C) (Value.ref C') else none) = _
    rw [d1, h'.ty, hs]
    simp
theorem ErrK.kitV (h : ErrK K y C) : PySem.W.kitOne K (.ref C) (.type "ValueError") = some (errSub y "ValueError") := by
  obtain ⟨cd, cdH, CH, c1, c2, c3, c4, c5, c6⟩ := h.cls
  have hm : PySem.W.subIn K (.ref C) (.type "ValueError") = some true := by
    show PySem.W.mroIn K C (.type "ValueError") = _
    unfold PySem.W.mroIn
    rw [c1, Option.bind_some, c6]
    by_cases e : C = CH
    · rw [if_pos e]
      simp [PySem.HandSPX.veTail, List.contains_cons]
    · rw [if_neg e]
      simp [PySem.HandSPX.veTail, List.contains_cons]
  unfold PySem.W.kitOne
  rw [show (Value.ref C == Value.type "ValueError") = false from rfl, if_neg Bool.false_ne_true]
  show (if PySem.W.kitMeta "ValueError" = true then PySem.W.subIn K (Value.ref C) (.type "ValueError") else none) = _
  rw [if_pos (by decide +kernel), hm]
  simp [errSub]
end
section
variable {X : Cx}
theorem inst_err {P : Program} {w : World} {H : Hp} {h : Heap} {a C dx : Addr} {v : V} (hok : HOk P w H h) (ha : H a = some (ero a C dx)) (hd : ErD H dx v) : ∃ ox od, PySem.W.InstAt h a ox C (some od) ∧ ∃ u, RelV v u ∧ PySem.W.lookIn "value" od = some (some u) := by
  obtain ⟨⟨oe, vs, e1, ⟨e2, e3⟩, e4⟩, _⟩ := hok a _ ha
  obtain ⟨mA, hns, hr⟩ : ∃ mA, h.Ns1 dx mA ∧ ∀ f, RelO (([(("value" : Str), v)] : List (Str × V)).lookup f) (mA f) := by
    rcases hd with hd | hd
    · exact exd_at hok hd
    · exact hok dx _ hd
  obtain ⟨od, ho, hl⟩ := lookIn_ns hns
  obtain ⟨u, hu, ru⟩ := RelO.some_of (v := v) (o := mA "value") (hr "value")
  exact ⟨oe, od, ⟨e1, e2, by unfold PySem.W.notCls; rw [e4] <;> rfl, by rw [e3]; exact ho⟩, u, ru, by rw [hl, hu]⟩
end
end En

set_option Elab.async false
set_option linter.all false
set_option maxRecDepth 100000
set_option maxHeartbeats 2000000
namespace En
open PySem PySem.Spec PyProof.Rows L2 PySem.Calls
section
variable {X : Cx} {Γ : Fns} {con : Nat → Option D} {a : Expr} {ca : CE} {pos : Pos} {x : Str} {C fI Dc : Addr}
theorem pd_mkErr {p : Pos} (F : IniF X.prog X.K fI Dc) (T : ErrC X.K fI Dc C) (EK : ErrK X.K x C) (hsuper : X.mg "super" = none) (hr : X.A.depth + 1 < recursionLimit) (hg : Gl X x) (hm : X.mg x = some (.ref C)) (hdb : (x == ("__debug__" : Str)) = false)
    (ha : PE X a (tE X.K Γ con ca)) (hs : starEach [a] X.env = (false, eval a X.env) :: starEach [] X.env) : PE X (.Call (.Name x p) [a] [] pos) (tE X.K Γ con (.mkErr x ca)) :=
  (pe_err F T hsuper hr hg hm (pa_cons ha pa_nil hs) hdb hs).impD fun σ H Q ⟨as, env, st, d, st', er, sr, e, q⟩ => by
    simp only [evE] at e
    obtain ⟨⟨d0, st1⟩, e1, e⟩ := Res.bind_ok e
    simp only at e
    split at e
    · rename_i hc
      cases e
      refine ⟨as, env, st, d0, _, er, sr, e1, fun v H1 as1 s1 sr1 hv => ⟨v, rfl, fun a' dx n1 n2 n3 => ?_⟩⟩
      have sm : Same H1 (upd (upd H1 dx (exd dx [("value", v)])) a' (ero a' C dx)) := fun b o eb => by
        rw [upd_ne (ne_of_none eb n1), upd_ne (ne_of_none eb n2)]
        exact eb
      have hd : DRep X.K as1 (upd (upd H1 dx (exd dx [("value", v)])) a' (ero a' C dx)) (.ref a') (.err x d0) := .err EK upd_same (sr1.fresh n1) (.inl (by rw [upd_ne n3, upd_same])) (sr1.fresh n2) (DRep.step (Step.same sm) _ _ hv.dr)
      exact q _ _ as1 (s1.trans (Step.same sm)) (sr1.same sm) hd.toV
    · cases e
/-- isinstance(e, c), e an error or None, c a class of errors or ValueError -/
def rIsR (K : PySem.W.Frag) (cv : V) (x : Str) : List V → Hp → VK → Prop := fun xs H Q => ∃ v, xs = [v, cv] ∧ ((v = .non ∧ Q (.bl false) H) ∨ ∃ a C dx y w, v = .ref a ∧ ErrK K y C ∧ H a = some (ero a C dx) ∧ ErD H dx w ∧ Q (.bl (errSub y x)) H)
theorem call_isR {cv : V} {u0 : Value} (hcl : ClsV cv u0) (hk : ∀ y C, ErrK X.K y C → PySem.W.kitOne X.K (.ref C) u0 = some (errSub y x)) (hn : PySem.W.kitOne X.K (.type "NoneType") u0 = some false) : CallR X (.builtin "isinstance") (rIsR X.K cv x) := by
  intro pins s σ H xs us Q I r ⟨v, ev, h⟩
  subst ev
  rcases h with ⟨rfl, q⟩ | ⟨a, C, dx, y, w, rfl, EK, ha, hd, q⟩
  · exact call_isi pins s σ H _ us Q I r ⟨.non, cv, _, _, false, rfl, hcl, .base .non, hn, q⟩
  · obtain ⟨u1, u2, rfl, r1, r2⟩ := vals2 r
    obtain rfl : u1 = Value.ref a := r1
    have e2 : u2 = u0 := hcl.eq r2
    subst e2
    obtain ⟨ox, od, J, _⟩ := inst_err I.hok ha hd
    exact PySem.W.kia_one (PySem.W.kitx_excD EK.ex.hg EK.ex.hk EK.ex.hs EK.ex.hd EK.ex.ha EK.ex.hn EK.ex.ht EK.ex.hm) I.kIn ⟨ox, _, J⟩ (hk y C EK) (fun z => nomatch z) fun tk => ⟨.bl _, H, I.kept (t' := tk) fun _ _ z => z, rfl, q⟩
theorem isR_imp {cv : V} {tc : TE} (hc : ∀ σ H (Q : VK), Q cv H → tc σ H Q) : ∀ σ H Q, tE X.K Γ con (.isErr x ca) σ H Q → (tCons (tE X.K Γ con ca) (tCons tc tNil)) σ H (fun vs H1 => rIsR X.K cv x vs H1 Q) := fun σ H Q ⟨as, env, st, d, st', er, sr, e, q⟩ => by
  simp only [evE] at e
  obtain ⟨⟨d0, st1⟩, e1, e⟩ := Res.bind_ok e
  refine ⟨as, env, st, d0, _, er, sr, e1, fun v H1 as1 s1 sr1 hv => hc _ _ _ ⟨v, rfl, ?_⟩⟩
  cases d0 with
  | err y d1 =>
    simp only at e
    cases e
    obtain ⟨a, C, dx, w, rfl, EK, h2, n1, h3, n2, r⟩ := hv.err sr1 rfl
    exact .inr ⟨a, C, dx, y, w, rfl, EK, h2, h3, q _ _ as1 s1 sr1 (DRep.bl _).toV⟩
  | non =>
    simp only at e
    cases e
    have := hv.non sr1 rfl
    subst this
    exact .inl ⟨rfl, q _ _ as1 s1 sr1 (DRep.bl _).toV⟩
  | _ => cases e
/-- e.value -/
theorem pd_errVal {p : Pos} (ha : PE X a (tE X.K Γ con ca)) (hb : attributeBase a "value" X.env (eval a X.env) = eval a X.env) : PE X (.Attribute a "value" p) (tE X.K Γ con (.errVal ca)) := by
  refine ⟨fun pins s σ H Q I ⟨as, env, st, d, st', er, sr, e, q⟩ => ?_⟩
  simp only [evE] at e
  obtain ⟨⟨d0, st1⟩, e1, e⟩ := Res.bind_ok e
  refine attr_of hb (thn (ha.run pins s σ H (fun v H1 => ∃ as1, Step as as1 H H1 ∧ SRel X.K as1 st1 H1 ∧ VRep X.K as1 H1 v d0) I ⟨as, env, st, d0, _, er, sr, e1, fun v H1 as1 s1 sr1 hv => ⟨as1, s1, sr1, hv⟩⟩) fun u s1 hh => ?_)
  obtain ⟨v, H1, I1, rv, as1, st1', sr1, hv⟩ := hh
  cases d0 with
  | err y d1 =>
    simp only at e
    cases e
    obtain ⟨a', C, dx, w, rfl, EK, h2, n1, h3, n2, r⟩ := hv.err sr1 rfl
    obtain rfl : u = Value.ref a' := rv
    obtain ⟨ox, od, J, u', ru, hl⟩ := inst_err I1.hok h2 h3
    exact PySem.HandSPX.exc_get I1.kIn J EK.ex.hg EK.ex.hk EK.ex.hs (PySem.W.findObj_own EK.ex.hd EK.no rfl hl) (handed_of ru) ⟨w, H1, I1.tok _, ru, q _ _ as1 st1' sr1 r.toV⟩
  | _ => cases e
theorem pd_dlit0 : PE X (.Dict [] [] pos) (tE X.K Γ con (.dlit [])) :=
  pe_dnewK.impD fun σ H Q ⟨as, env, st, d, st', er, sr, e, q⟩ p hp => by
    simp only [evE, intKvs] at e
    cases e
    exact q _ _ as (Step.same (same_new hp)) (sr.same (same_new hp)) (new_dic sr hp (Nat.zero_le _) .nil).toV
theorem pd_dlit1 {y : Str} {i : Int} {j1 j2 : Nat} {p1 p2 : Pos} : PE X (.Dict [some (.Constant (.str y) j1 p1)] [.Constant (.int i) j2 p2] pos) (tE X.K Γ con (.dlit [(.inr y, .int i)])) :=
  (pe_disp (pps_cons pe_str pe_int pps_nil) rfl rfl (by simp) (by simp)).impD fun σ H Q ⟨as, env, st, d, st', er, sr, e, q⟩ p hp => by
    simp only [evE, intKvs, Option.map_some] at e
    cases e
    refine ⟨upd_same, [(.inr y, .int i)], rfl, by simp, ?_⟩
    have eu : upd (upd H p (.dK [])) p (.dK (mergeK [] [(Sum.inr y, V.int i)])) = upd H p (.dK [(Sum.inr y, V.int i)]) := by
      funext b
      by_cases hb : b = p
      · rw [hb, upd_same, upd_same]; rfl
      · rw [upd_ne hb, upd_ne hb, upd_ne hb]
    rw [eu]
    exact q _ _ as (Step.same (same_new hp)) (sr.same (same_new hp)) (new_dic sr hp (by rw [sizeLine_eq]; simp) (.cons (.int i) .nil)).toV
theorem none_sub {K0 : PySem.W.Frag} (u0 : Value) (h : (match u0 with | .ref _ => true | _ => u0 == Value.type "ValueError") = true) : PySem.W.subIn K0 (.type "NoneType") u0 = some false := by
  show Option.map (fun x => x.contains u0) (fastBuiltinMro "NoneType") = some false
  rw [show fastBuiltinMro "NoneType" = some [.type "NoneType", .type "object"] by kernel_rfl]
  cases u0 with
  | ref C => rfl
  | type T =>
    have : T = "ValueError" := by simpa using h
    subst this
    decide +kernel
  | _ => simp at h
theorem pd_isErrO {p pt : Pos} {C' : Addr} (EK : ErrK X.K x C') (hx : x ≠ "ValueError") (hg : Gl X "isinstance") (hm : X.mg "isinstance" = none) (hgt : Gl X x) (hmt : X.mg x = some (.ref C')) (hdt : (x == ("__debug__" : Str)) = false)
    (ha : PE X a (tE X.K Γ con ca)) (hs : starEach [a, .Name x pt] X.env = (false, eval a X.env) :: starEach [.Name x pt] X.env) :
    PE X (.Call (.Name "isinstance" p) [a, .Name x pt] [] pos) (tE X.K Γ con (.isErr x ca)) := by
  refine (pe_callB (call_isR (x := x) (cv := .ref C') (u0 := .ref C') (.own _) (fun y C h => h.kit EK hx) ?_) hg hm (by decide +kernel) (pa_cons ha (pa_cons (pe_glob (v := .ref C') hgt hmt rfl hdt) pa_nil) hs) (by decide) (by decide) hs).impD (isR_imp fun _ _ _ q => q)
  obtain ⟨cd', cdH', CH', d1, d2, d3, d4, d5, d6⟩ := EK.cls
  show (if ((PySem.W.clsIn X.K C').isSome && PySem.W.typeIn X.K (Value.ref C') == some (Value.type "type")) = true then PySem.W.subIn X.K (.type "NoneType") (Value.ref C') else none) = _
  rw [d1, EK.ty, none_sub _ rfl]
  simp
theorem pd_isErrV {p pt : Pos} (hg : Gl X "isinstance") (hm : X.mg "isinstance" = none) (hgt : Gl X "ValueError") (hmt : X.mg "ValueError" = none)
    (ha : PE X a (tE X.K Γ con ca)) (hs : starEach [a, .Name "ValueError" pt] X.env = (false, eval a X.env) :: starEach [.Name "ValueError" pt] X.env) :
    PE X (.Call (.Name "isinstance" p) [a, .Name "ValueError" pt] [] pos) (tE X.K Γ con (.isErr "ValueError" ca)) := by
  refine (pe_callB (call_isR (x := "ValueError") (cv := .ty "ValueError") (u0 := .type "ValueError") (.ty _) (fun y C h => h.kitV) ?_) hg hm (by decide +kernel) (pa_cons ha (pa_cons (pe_bltn (v := .ty "ValueError") hgt hmt (by decide +kernel) rfl (by decide +kernel) (by decide +kernel)) pa_nil) hs) (by decide) (by decide) hs).impD (isR_imp fun _ _ _ q => q)
  show (if PySem.W.kitMeta "ValueError" = true then PySem.W.subIn X.K (.type "NoneType") (.type "ValueError") else none) = _
  rw [if_pos (by decide +kernel), none_sub _ (by decide +kernel)]
end
end En

set_option Elab.async false
set_option linter.all false
set_option maxRecDepth 100000
set_option maxHeartbeats 1000000
namespace En
open PySem
inductive GK where
  | con (i : Nat)
  | err
  | fn (i np nd : Nat)
/-- what the turning knows: slots, kinds of the names, names that a comprehension may fill, the module's names, names whose lists are changed, freezings by line -/
structure TC where
  N : List Str
  nm : List (Str × NameKind)
  fnl : Option (List (Str × NameKind))
  G : List (Str × GK)
  M : List Str
  keep : Bool
  fz : List (Nat × Nat)
def slotAt : List Str → Str → Option Nat
  | [], _ => none
  | y :: r, x => if y = x then some 0 else (slotAt r x).map (· + 1)
def okN (x : Str) : Bool := !(x == ("__debug__" : Str)) && !(x == ("__classdict__" : Str)) && !(x == ("__name__" : Str))
def TC.vis (c : TC) (x : Str) : Bool := match c.nm.lookup x with
  | some .local => true
  | some .cell => true
  | some .free => true
  | _ => false
def TC.loc (c : TC) (x : Str) : Bool := match c.nm.lookup x with
  | some .local => true
  | some .cell => match c.fnl with
    | none => true
    | some l => match l.lookup x with
      | some .cell => true
      | _ => false
  | _ => false
def TC.isLocal (c : TC) (x : Str) : Bool := match c.nm.lookup x with
  | some .local => true
  | _ => false
def TC.glb (c : TC) (x : Str) : Bool := match c.nm.lookup x with
  | some .globalImplicit => okN x
  | _ => false
def notStar : Expr → Bool
  | .Starred _ _ => false
  | _ => true
def notSet : Expr → Bool
  | .Set _ _ _ => false
  | _ => true
def notLc : Expr → Bool
  | .ListComp _ _ _ _ => false
  | .SetComp _ _ _ _ => false
  | .DictComp _ _ _ _ _ => false
  | _ => true
def notCall : Expr → Bool
  | .Call _ _ _ _ => false
  | _ => true
def notSlice : Expr → Bool
  | .Slice _ _ _ _ => false
  | _ => true
def notTup : Expr → Bool
  | .Tuple _ _ _ => false
  | _ => true
def binOf : Operator → Option BOp
  | .Add => some .add
  | .Sub => some .sub
  | .Mult => some .mul
  | .FloorDiv => some .fdiv
  | .Mod => some .mod
  | .Pow => some .pow
  | _ => none
def cmpOf : CmpOp → COp
  | .Lt => .lt
  | .LtE => .le
  | .Gt => .gt
  | .GtE => .ge
  | .Eq => .eq
  | .NotEq => .ne
  | .In => .isin
  | .NotIn => .notin
  | .Is => .isNone
  | .IsNot => .notNone
def bltNames : List Str := ["len", "abs", "int", "tuple", "list", "all", "any", "sum", "max", "min", "sorted", "repr", "dict", "isinstance", "range", "zip", "enumerate", "bool", "str", "set", "ValueError", "super"]
/-- a builtin by its name and the number of its arguments -/
def biOf (x : Str) (n : Nat) : Option B :=
  if n = 1 then
    if x = "len" then some .len else if x = "abs" then some .abs else if x = "int" then some .int else if x = "tuple" then some .tuple else if x = "list" then some .list
    else if x = "all" then some .all else if x = "any" then some .any else if x = "sum" then some .sum else if x = "max" then some .max1 else if x = "min" then some .min1
    else if x = "sorted" then some .sorted else if x = "repr" then some .repr else if x = "dict" then some .dict else none
  else if n = 2 then if x = "max" then some .max2 else if x = "min" then some .min2 else none
  else none
def isiOf (x : Str) : Option B :=
  if x = "int" then some .isInt else if x = "bool" then some .isBool else if x = "str" then some .isStr else if x = "tuple" then some .isTuple else if x = "list" then some .isList else none
def ownOf (N : List Str) : List (Str × NameKind) → List (Str × Nat)
  | [] => []
  | (x, .local) :: r => match slotAt N x with
    | some i => (x, i) :: ownOf N r
    | none => ownOf N r
  | (x, .cell) :: r => match slotAt N x with
    | some i => (x, i) :: ownOf N r
    | none => ownOf N r
  | _ :: r => ownOf N r
def relNm (c : TC) (names : List (Str × NameKind)) : List (Str × NameKind) :=
  names.map fun (n, k) => if (k == .free && ScopeKind.function == .function && c.nm.lookup n == some .cell) then (n, .cell) else (n, k)
def TC.inner (c : TC) (sc : Scope) : TC := { c with nm := relNm c sc.names, fnl := some sc.names }
def dumSc (c : TC) : Scope := { kind := .function, names := c.nm, isGenerator := false, isCoroutine := false }
mutual
def trG : Nat → TC → Expr → Option Tg
  | 0, _, _ => none
  | n + 1, c, e => match e with
    | .Name x _ => if c.loc x then (slotAt c.N x).map .name else none
    | .Tuple es _ _ => (trGs n c es).map .tup
    | _ => none
def trGs : Nat → TC → List Expr → Option (List Tg)
  | 0, _, _ => none
  | n + 1, c, es => match es with
    | [] => some []
    | e :: r => if notStar e then (trG n c e).bind fun t => (trGs n c r).map (t :: ·) else none
end
def isName (l : List Str) : Expr → Bool
  | .Name x _ => l.contains x
  | _ => false
def frzIf (b : Bool) (ce : CE) : CE := if b then .frz ce else ce
/-- a method of a list or a dict -/
def metC (tr : Expr → Option CE) (M : List Str) (co : CE) (m : Str) (es : List Expr) : Option CE :=
  if m = "append" then match es with
    | [a] => (tr a).map fun ca => .append co (frzIf (isName M a) ca)
    | _ => none
  else if m = "extend" then match es with
    | [a] => (tr a).map fun ca => .extend co ca
    | _ => none
  else if m = "pop" then match es with
    | [] => some (.pop co)
    | [a] => (tr a).map fun ca => .popAt co ca
    | _ => none
  else if m = "get" then match es with
    | [a] => (tr a).map fun ca => .dget co ca none
    | [a, b] => (tr a).bind fun ca => (tr b).map fun cb => .dget co ca (some cb)
    | _ => none
  else none
def isErrG : Option GK → Bool
  | some .err => true
  | _ => false
def isiC (c : TC) (t : Str) (o : Option CE) : Option CE :=
  if isErrG (c.G.lookup t) = true ∧ t ≠ "ValueError" then o.map (.isErr t)
  else if t = "ValueError" then o.map (.isErr t)
  else (isiOf t).bind fun b => o.map fun ca => .bi b [ca]
def mkC (f : Str) (tr : Expr → Option CE) : List Expr → Option CE
  | [a] => (tr a).map (.mkErr f)
  | _ => none
def dC : List (Option Expr) → List Expr → Option CE
  | [], [] => some .dnew
  | [some (.Constant (.str x) _ _)], [.Constant (.int i) _ _] => some (.dlit [(.inr x, .int i)])
  | _, _ => none
def isD0 : Expr → Bool
  | .Dict [] [] _ => true
  | _ => false
mutual
def trE : Nat → TC → Expr → Option CE
  | 0, _, _ => none
  | n + 1, c, e => match e with
    | .Constant (.int i) _ _ => some (.lit (.int i))
    | .Constant (.bool b) _ _ => some (.lit (.bl b))
    | .Constant .none _ _ => some (.lit .non)
    | .Constant (.str x) _ _ => some (.lit (.str x))
    | .Name x _ =>
      if okN x then
        if c.vis x then (slotAt c.N x).map .var
        else if c.glb x then match c.G.lookup x with
          | some (.con i) => some (.glob i)
          | _ => none
        else none
      else none
    | .BinOp a op b _ => (binOf op).bind fun o => (trE n c a).bind fun ca => (trE n c b).map fun cb => .bin o ca cb
    | .UnaryOp .USub a _ => (trE n c a).map .neg
    | .UnaryOp .Not a _ => (trE n c a).map .not
    | .Compare a [op] [b] _ => if behindInMarks op b then none else (trE n c a).bind fun ca => (trE n c b).map fun cb => .cmp (cmpOf op) ca cb
    | .Compare a [op, op'] [b, b'] _ => if lastMarks [op, op'] [b, b'] then none else (trE n c a).bind fun ca => (trE n c b).bind fun cb => (trE n c b').map fun cb' => .chain (cmpOf op) (cmpOf op') ca cb cb'
    | .BoolOp .And (a :: es) _ => (trEs n c false (a :: es)).map .and
    | .BoolOp .Or (a :: es) _ => (trEs n c false (a :: es)).map .or
    | .IfExp t a b _ => (trE n c t).bind fun ct => (trE n c a).bind fun ca => (trE n c b).map fun cb => .ite ct ca cb
    | .Tuple es _ _ => if es.all notStar then (trEs n c true es).map .tup else none
    | .List es _ => if es.all notStar then (trEs n c true es).map .lst else none
    | .Dict ks vs _ => dC ks vs
    | .Attribute o m _ => if notCall o = true ∧ m = "value" then (trE n c o).map .errVal else none
    | .Subscript a s _ => match s with
      | .Slice none none (some (.UnaryOp .USub (.Constant (.int 1) _ _) _)) _ => (trE n c a).map .rev
      | .Slice lo hi none _ => (trE n c a).bind fun ca => (trO n c lo).bind fun cl => (trO n c hi).map fun ch => .slc ca cl ch
      | b => if notSlice b then (trE n c a).bind fun ca => (trE n c b).map fun cb => .idx ca cb else none
    | .Call (.Name f _) es [] _ =>
      if c.glb f && es.all notStar then match c.G.lookup f with
        | some (.fn i np nd) => if es.length ≤ np ∧ np ≤ es.length + nd then (trEs n c false es).map (.call i) else none
        | some .err => mkC f (trE n c) es
        | some _ => none
        | none => match es with
          | [.Call (.Name g _) es2 [] _] =>
            if (f = "list" ∨ f = "tuple") ∧ g = "range" ∧ c.glb g = true then
              if es2.all notStar then (trEs n c false es2).bind fun cs => match cs with
                | [a] => some (.rng1 (decide (f = "tuple")) a)
                | [a, b] => some (.rng2 (decide (f = "tuple")) a b)
                | _ => none else none
            else if f = "sorted" ∧ g = "set" ∧ c.glb g = true then match es2 with
              | [a] => if notStar a then (trE n c a).map fun ca => .bi .sortset [ca] else none
              | _ => none
            else (biOf f 1).bind fun b => (trEs n c false es).map (.bi b)
          | [a, .Name t _] => if f = "isinstance" ∧ c.glb t = true then isiC c t (trE n c a) else (biOf f 2).bind fun b => (trEs n c false es).map (.bi b)
          | es => (biOf f es.length).bind fun b => (trEs n c false es).map (.bi b)
      else none
    | .Call (.Attribute o m apos) es [] pos =>
      if notCall o && es.all notStar && (apos.endLine == pos.line) then (trE n c o).bind fun co =>
        metC (trE n c) c.M co m es
      else none
    | .ListComp elt [⟨tg, iter, ifs, as⟩] sc _ => if as = 0 then match trIt c tg iter with
      | some j => (trL n c elt tg ifs sc).map fun (t, test, ce, own) => .comp t (.items (.var j)) test ce (own.map (·.2))
      | none => (trI n c tg iter).bind fun ci => (trL n c elt tg ifs sc).map fun (t, test, ce, own) => .comp t ci test ce (own.map (·.2)) else none
    | .DictComp k v [⟨tg, iter, ifs, as⟩] sc _ => if as = 0 then (trI n c tg iter).bind fun ci => (trL n c k tg ifs sc).bind fun (t, test, ck, own) => (trE n (c.inner sc) v).map fun cv => .dcomp t ci test ck (frzIf (isName c.M v) cv) (own.map (·.2)) else none
    | _ => none
def trEs : Nat → TC → Bool → List Expr → Option (List CE)
  | 0, _, _, _ => none
  | n + 1, c, z, es => match es with
    | [] => some []
    | e :: r => (if z && isD0 e then some (.dlit []) else trE n c e).bind fun ce => (trEs n c z r).map fun cs => frzIf (z && isName c.M e) ce :: cs
def trO : Nat → TC → Option Expr → Option (Option CE)
  | 0, _, _ => none
  | _ + 1, _, none => some none
  | n + 1, c, some e => (trE n c e).map some
/-- d.items(), d a name -/
def trIt : TC → Expr → Expr → Option Nat
  | c, .Tuple _ _ _, .Call (.Attribute (.Name x _) m apos) [] [] cpos => if m = "items" ∧ (apos.endLine == cpos.line) = true ∧ c.vis x = true ∧ okN x = true then slotAt c.N x else none
  | _, _, _ => none
def trI : Nat → TC → Expr → Expr → Option CI
  | 0, _, _, _ => none
  | n + 1, c, tg, e => if notSet e then match e with
    | .Call (.Name f _) es [] _ =>
      if f = "range" then
        if c.glb f && es.all notStar then (trEs n c false es).bind fun cs => match cs with
          | [a] => some (.range1 a)
          | [a, b] => some (.range2 a b)
          | _ => none
        else none
      else if f = "zip" then
        if c.glb f && es.all notStar && !notTup tg then (trEs n c false es).bind fun cs => match cs with
          | [a, b] => some (.zip a b)
          | _ => none
        else none
      else if f = "enumerate" then
        if c.glb f && es.all notStar && !notTup tg then (trEs n c false es).bind fun cs => match cs with
          | [a] => some (.enum a)
          | _ => none
        else none
      else (trE n c e).map .seq
    | .Tuple es k p => (trE n { c with M := [] } (.Tuple es k p)).map .seq
    | e => (trE n c e).map .seq
    else none
/-- a comprehension's parts -/
def trL : Nat → TC → Expr → Expr → List Expr → Scope → Option (Tg × Option CE × CE × List (Str × Nat))
  | 0, _, _, _, _, _ => none
  | n + 1, c, elt, tg, ifs, sc =>
    if L2.blkC c.N (dumSc c) sc (ownOf c.N sc.names) then (trG n (c.inner sc) tg).bind fun t =>
      if (slotsT t).all (fun i => ((ownOf c.N sc.names).map (·.2)).contains i) then (trT1 n (c.inner sc) ifs).bind fun test => (trE n (c.inner sc) elt).map fun ce => (t, test, frzIf (isName c.M elt) ce, ownOf c.N sc.names)
      else none
    else none
def trT1 : Nat → TC → List Expr → Option (Option CE)
  | 0, _, _ => none
  | _ + 1, _, [] => some none
  | n + 1, c, [e] => (trE n c e).map some
  | _ + 1, _, _ => none
end
end En

set_option Elab.async false
set_option linter.all false
set_option maxRecDepth 100000
set_option maxHeartbeats 2000000
namespace En
open PySem PySem.Spec PyProof.Rows L2
theorem ob {α β : Type} {o : Option α} {f : α → Option β} {r : β} (h : o.bind f = some r) : ∃ a, o = some a ∧ f a = some r := by
  cases o with
  | none => cases h
  | some a => exact ⟨a, rfl, h⟩
theorem om {α β : Type} {o : Option α} {f : α → β} {r : β} (h : o.map f = some r) : ∃ a, o = some a ∧ f a = r := by
  cases o with
  | none => cases h
  | some a => exact ⟨a, rfl, Option.some.inj h⟩
theorem oi {α : Type} {p : Prop} [Decidable p] {o : Option α} {r : α} (h : (if p then o else none) = some r) : p ∧ o = some r := by
  split at h
  · rename_i q; exact ⟨q, h⟩
  · cases h
theorem slotAt_ok : ∀ {N : List Str} {x : Str} {i : Nat}, slotAt N x = some i → N[i]? = some x
  | [], _, _, h => by cases h
  | y :: r, x, i, h => by
    unfold slotAt at h
    split at h
    · rename_i e; cases h; subst e; rfl
    · obtain ⟨j, e, rfl⟩ := om h
      simpa using slotAt_ok e
theorem okN_d {x : Str} (h : okN x = true) : (x == ("__debug__" : Str)) = false := by unfold okN at h; revert h; cases (x == ("__debug__" : Str)) <;> simp
theorem okN_c {x : Str} (h : okN x = true) : (x == ("__classdict__" : Str)) = false := by unfold okN at h; revert h; cases (x == ("__classdict__" : Str)) <;> simp
theorem okN_n {x : Str} (h : okN x = true) : x ≠ "__name__" := fun e => by subst e; revert h; decide +kernel
theorem binOf_ok {op : Operator} {o : BOp} (h : binOf op = some o) : op = pyBin o := by cases op <;> simp [binOf] at h <;> subst h <;> rfl
theorem cmpOf_ok (op : CmpOp) : op = pyCmp (cmpOf op) := by cases op <;> rfl
theorem star1 {a : Expr} {es : List Expr} {env : PySem.Env} (h : notStar a = true) : starEach (a :: es) env = (false, eval a env) :: starEach es env := by
  cases a <;> first | rfl | cases h
theorem stars {env : PySem.Env} {pos : Pos} : ∀ {es : List Expr}, es.all notStar = true → (backTo pos (starEach es env)).any (·.1) = false
  | [], _ => rfl
  | a :: es, h => by
    simp only [List.all_cons, Bool.and_eq_true] at h
    rw [star1 h.1]
    show (false || (backTo pos (starEach es env)).any (·.1)) = false
    rw [stars h.2]; rfl
theorem folded1 {e : Expr} {env : PySem.Env} (h : notSet e = true) : ∀ x, foldedSetIterable e env x = pure x := fun x => by
  cases e <;> first | rfl | cases h
theorem base1 {o : Expr} {m : Str} {env : PySem.Env} {w : Sem Value} (h : notCall o = true) : attributeBase o m env w = w := by
  cases o <;> first | rfl | cases h
theorem plain1 {b : Expr} (h : notSlice b = true) : PlainIx b := fun o i => by
  cases b <;> first | rfl | cases h
/-- what the module holds of a def -/
structure Callee (Γ : Fns) (con : Nat → Option D) (X : Cx) (x : Str) (i np nd : Nat) : Prop where
  ex : ∃ (k : Nat) (f : Addr) (fd : FuncData) (ps : List Str) (fn : Fn) (Γ' : Fns) (F : Nat), Room k X.A ∧ X.mg x = some (.ref f) ∧ PySem.W.keepIn X.K (.ref f) = true ∧ Γ i = runFn Γ' con F fn ∧
    FnG X.prog X.w X.K X.mg X.base k f fd ps (spF X.K fn.np (runBody Γ' con F fn)) ∧ fn.np = np ∧ fn.defs.length = nd ∧
    ∀ m, m ≤ np → np ≤ m + nd → ∃ dvs dsv, Vals dvs dsv ∧ Binds X.K fd ps dsv ∧ ∀ as H, DReps X.K as H dvs (fn.defs.drop (m + fn.defs.length - fn.np))
/-- what the module holds of a class of errors -/
structure ErrG (X : Cx) (x : Str) : Prop where
  ex : ∃ fI Dc C, IniF X.prog X.K fI Dc ∧ ErrC X.K fI Dc C ∧ ErrK X.K x C ∧ X.mg x = some (.ref C)
structure CxOk (Γ : Fns) (con : Nat → Option D) (X : Cx) (c : TC) : Prop where
  nd : c.N.Nodup
  N : X.N = c.N
  nm : X.env.scope.names = c.nm
  kind : X.env.scope.kind = .function
  fn : ∀ x, (match c.fnl with | none => true | some l => match l.lookup x with | some .cell => true | _ => false) = true → X.fn x = true
  calm : X.calm = true
  gd : X.A.guards = some []
  un : X.A.units + 200 < cLine
  pass : PassesOwn (model X.prog X.w) X.A X.env X.xe
  blt : ∀ x ∈ bltNames, X.mg x = none
  cons : ∀ x i, c.G.lookup x = some (.con i) → ∃ u v d, X.mg x = some u ∧ RelV v u ∧ con i = some d ∧ ∀ as H, DRep X.K as H v d
  fns : ∀ x i np nd, c.G.lookup x = some (.fn i np nd) → (∀ ds st r, Γ i ds st ≠ .ok r) ∨ Callee Γ con X x i np nd
  errs : ∀ x, c.G.lookup x = some .err → ErrG X x
  room : X.A.depth + 1 < recursionLimit
section
variable {Γ : Fns} {con : Nat → Option D} {X : Cx} {c : TC} {x : Str} {a b : Expr} {ca cb cc : CE} {pos : Pos}
theorem CxOk.noM (ok : CxOk Γ con X c) : CxOk Γ con X { c with M := [] } := ⟨ok.nd, ok.N, ok.nm, ok.kind, ok.fn, ok.calm, ok.gd, ok.un, ok.pass, ok.blt, ok.cons, ok.fns, ok.errs, ok.room⟩
theorem CxOk.vis (ok : CxOk Γ con X c) (h : c.vis x = true) : Vis X.env.scope x := by
  unfold TC.vis at h
  unfold Vis
  rw [ok.nm]
  split at h <;> first | exact .inl (by assumption) | exact .inr (.inl (by assumption)) | exact .inr (.inr (by assumption)) | cases h
theorem CxOk.loc (ok : CxOk Γ con X c) (h : c.loc x = true) : L2.Loc X.env.scope x ∧ (X.fn x = true ∨ X.env.scope.names.lookup x = some .local) := by
  unfold TC.loc at h
  unfold L2.Loc
  rw [ok.nm]
  split at h
  · rename_i e; exact ⟨.inl e, .inr e⟩
  · rename_i e; exact ⟨.inr e, .inl (ok.fn x h)⟩
  · cases h
theorem CxOk.glb (ok : CxOk Γ con X c) (h : c.glb x = true) : Gl X x ∧ okN x = true := by
  unfold TC.glb at h
  split at h
  · rename_i e; exact ⟨by unfold Gl Env.kindOf; rw [ok.nm]; exact e, h⟩
  · cases h
theorem lookup_dum (ok : CxOk Γ con X c) {sc : Scope} {own : List (Str × Nat)} (h : blkC c.N (dumSc c) sc own = true) : BlkOk X.N X.env.scope sc own := by
  have q := blkOk_by h
  rw [ok.N]
  exact ⟨q.kind, q.uniq, q.ix, fun y hy e => by rw [ok.nm]; exact q.free y hy e, q.own⟩
theorem CxOk.inner (ok : CxOk Γ con X c) {sc : Scope} (hk : sc.kind = .function) (s : Shared) (H : Hp) (C : Addr) (cl : List (Str × Addr)) (fp : List Addr) : CxOk Γ con (X.blk s H sc (compEnvC sc cl C X.env) fp) (c.inner sc) where
  nd := ok.nd
  N := ok.N
  nm := by
    show (relabel sc X.env).names = relNm c sc.names
    unfold relabel relNm Env.kindOf
    simp only [ok.nm, ok.kind]
  kind := hk
  fn := fun x h => by
    show (sc.names.lookup x == some .cell) = true
    have h' : (match sc.names.lookup x with | some .cell => true | _ => false) = true := h
    split at h'
    · rename_i e; rw [e]; rfl
    · cases h'
  calm := ok.calm
  gd := ok.gd
  un := ok.un
  pass := PassesOwn.never
  blt := ok.blt
  cons := ok.cons
  fns := fun y i np nd h => (ok.fns y i np nd h).imp id fun ⟨z⟩ => ⟨z⟩
  errs := fun y h => ⟨(ok.errs y h).ex⟩
  room := ok.room
theorem pdt_ite (hc : PT X x' (tTest' X.K Γ con cc)) (ha : PT X a (tTest' X.K Γ con ca)) (hb : PT X b (tTest' X.K Γ con cb)) : PT X (.IfExp x' a b pos) (tTest' X.K Γ con (.ite cc ca cb)) := by
  refine ⟨fun pins s σ H Q I ⟨as, env, st, d, st', er, sr, e, q⟩ => ?_⟩
  simp only [evE] at e
  obtain ⟨⟨y, st1⟩, e1, e⟩ := Res.bind_ok e
  obtain ⟨r, e2, e⟩ := Res.bind_ok e
  cases asBool_ok e2
  show wpAny _ _ (isTrue x' X.env (eval x' X.env) >>= fun r => if r = true then isTrue a X.env (eval a X.env) else isTrue b X.env (eval b X.env)) _ _ _
  refine wpAny_bind (thn (hc.run pins s σ H (fun b' H1 => b' = r ∧ ∃ as1, Step as as1 H H1 ∧ SRel X.K as1 st1 H1) I ⟨as, env, st, r, st1, er, sr, e1, fun H1 as1 s1 sr1 => ⟨rfl, as1, s1, sr1⟩⟩) fun d1 s1 ⟨H1, I1, ed, as1, st2, sr1⟩ => ?_)
  subst ed
  cases d1 with
  | true => exact ha.run pins s1 σ H1 Q I1 ⟨as1, env, st1, d, st', er.step st2, sr1, e, fun H2 as2 s3 sr2 => q H2 as2 (st2.trans s3) sr2⟩
  | false => exact hb.run pins s1 σ H1 Q I1 ⟨as1, env, st1, d, st', er.step st2, sr1, e, fun H2 as2 s3 sr2 => q H2 as2 (st2.trans s3) sr2⟩
variable (Γ con X) in
/-- expressions by their codes -/
inductive PEl : List Expr → List CE → Prop
  | nil : PEl [] []
  | cons {e : Expr} {ce : CE} {es : List Expr} {cs : List CE} : PE X e (tE X.K Γ con ce) → PEl es cs → PEl (e :: es) (ce :: cs)
variable (Γ con X) in
inductive PTl : List Expr → List CE → Prop
  | nil : PTl [] []
  | cons {e : Expr} {ce : CE} {es : List Expr} {cs : List CE} : PT X e (tTest' X.K Γ con ce) → PTl es cs → PTl (e :: es) (ce :: cs)
theorem PEl.pa : ∀ {es : List Expr} {cs : List CE}, PEl Γ con X es cs → es.all notStar = true → PA X es (tAs X.K Γ con cs) := by
  intro es cs h
  induction h with
  | nil => intro _; exact pda_nil
  | cons h _ ih =>
    intro q
    simp only [List.all_cons, Bool.and_eq_true] at q
    exact pda_cons h (ih q.2) (star1 q.1)
theorem PEl.and : ∀ {es : List Expr} {cs : List CE} {e : Expr} {ce : CE}, PE X e (tE X.K Γ con ce) → PEl Γ con X es cs → PE X (.BoolOp .And (e :: es) pos) (tE X.K Γ con (.and (ce :: cs))) := by
  intro es cs e ce h r
  induction r generalizing e ce with
  | nil => exact pd_and1 h
  | cons h' _ ih => exact pd_and h (ih h')
theorem PEl.or : ∀ {es : List Expr} {cs : List CE} {e : Expr} {ce : CE}, PE X e (tE X.K Γ con ce) → PEl Γ con X es cs → PE X (.BoolOp .Or (e :: es) pos) (tE X.K Γ con (.or (ce :: cs))) := by
  intro es cs e ce h r
  induction r generalizing e ce with
  | nil => exact pd_or1 h
  | cons h' _ ih => exact pd_or h (ih h')
theorem PTl.and : ∀ {es : List Expr} {cs : List CE} {e : Expr} {ce : CE}, PT X e (tTest' X.K Γ con ce) → PTl Γ con X es cs → PW X (.BoolOp .And (e :: es) pos) (tTest' X.K Γ con (.and (ce :: cs))) := by
  intro es cs e ce h r
  induction r generalizing e ce with
  | nil => exact pdw_and1 h
  | cons h' _ ih => exact pdw_and h (ih h')
theorem PTl.or : ∀ {es : List Expr} {cs : List CE} {e : Expr} {ce : CE}, PT X e (tTest' X.K Γ con ce) → PTl Γ con X es cs → PW X (.BoolOp .Or (e :: es) pos) (tTest' X.K Γ con (.or (ce :: cs))) := by
  intro es cs e ce h r
  induction r generalizing e ce with
  | nil => exact pdw_or1 h
  | cons h' _ ih => exact pdw_or h (ih h')
theorem pd_frzIf {z : Bool} (h : PE X a (tE X.K Γ con ca)) : PE X a (tE X.K Γ con (frzIf z ca)) := by
  cases z with
  | true => exact pd_frz h
  | false => exact h
theorem trG_ok : ∀ (n : Nat), (∀ (e : Expr) (t : Tg), trG n c e = some t → CxOk Γ con X c → PG X e (tG X.K t)) ∧
    (∀ (es : List Expr) (ts : List Tg), trGs n c es = some ts → CxOk Γ con X c → PGs X es (tGs X.K ts) ∧ (assignEach es X.env).length = ts.length ∧ (assignEach es X.env).findIdx? (·.1) = none)
  | 0 => by
    refine ⟨fun e t h => ?_, fun e t h => ?_⟩ <;> cases h
  | n + 1 => by
    obtain ⟨ih1, ih2⟩ := trG_ok n
    refine ⟨fun e t h ok => ?_, fun es ts h ok => ?_⟩
    · cases e with
      | Name x p =>
        obtain ⟨h1, h⟩ := oi (show (if c.loc x then (slotAt c.N x).map Tg.name else none) = some t from h)
        obtain ⟨i, h2, rfl⟩ := om h
        obtain ⟨l1, l2⟩ := ok.loc h1
        exact pdg_name (by rw [ok.N]; exact ok.nd) (by rw [ok.N]; exact slotAt_ok h2) l1 l2
      | Tuple es k p =>
        obtain ⟨ts, h1, rfl⟩ := om (show (trGs n c es).map Tg.tup = some t from h)
        obtain ⟨g1, g2, g3⟩ := ih2 es ts h1 ok
        exact pdg_tup ok.calm g1 g2 rfl g3
      | _ => cases h
    · cases es with
      | nil =>
        have h' : some ([] : List Tg) = some ts := h
        cases h'
        exact ⟨pdg_nil, rfl, rfl⟩
      | cons e r =>
        obtain ⟨h1, h⟩ := oi (show (if notStar e then (trG n c e).bind fun t => (trGs n c r).map (t :: ·) else none) = some ts from h)
        obtain ⟨t, h2, h⟩ := ob h
        obtain ⟨ts', h3, rfl⟩ := om h
        obtain ⟨g1, g2, g3⟩ := ih2 r ts' h3 ok
        have ha : assignEach (e :: r) X.env = (false, assign e X.env) :: assignEach r X.env := by cases e <;> first | rfl | cases h1
        refine ⟨pdg_cons (ih1 e t h2 ok) g1 (by rw [ha]; rfl), by rw [ha]; simp [g2], by rw [ha, List.findIdx?_cons]; simp [g3]⟩
end
end En

set_option Elab.async false
set_option linter.all false
set_option maxRecDepth 100000
set_option maxHeartbeats 4000000
namespace En
open PySem PySem.Spec PyProof.Rows L2
section
variable {Γ : Fns} {con : Nat → Option D} {X : Cx} {c : TC} {x : Str} {a b : Expr} {ca cb cc : CE} {pos : Pos}
theorem ite1 {α : Type} {p : Prop} [Decidable p] {b r : α} {o : Option α} (h : (if p then some b else o) = some r) : (p ∧ b = r) ∨ o = some r := by
  by_cases q : p
  · rw [if_pos q] at h; exact .inl ⟨q, Option.some.inj h⟩
  · rw [if_neg q] at h; exact .inr h
theorem ite2 {α : Type} {p : Prop} [Decidable p] {o o' : Option α} {r : α} (h : (if p then o else o') = some r) : (p ∧ o = some r) ∨ (¬ p ∧ o' = some r) := by
  by_cases q : p
  · rw [if_pos q] at h; exact .inl ⟨q, h⟩
  · rw [if_neg q] at h; exact .inr ⟨q, h⟩
theorem pd_bis (ok : CxOk Γ con X c) {bb : B} {es : List Expr} {cs : List CE} {p : Pos} {n : Nat} (h : biOf x n = some bb) (hg : Gl X x) (hA : PA X (a :: es) (tAs X.K Γ con cs)) (hs : (a :: es).all notStar = true) :
    PE X (.Call (.Name x p) (a :: es) [] pos) (tE X.K Γ con (.bi bb cs)) := by
  have hs' := hs
  simp only [List.all_cons, Bool.and_eq_true] at hs'
  have s1 : starEach (a :: es) X.env = (false, eval a X.env) :: starEach es X.env := star1 hs'.1
  have s2 : (backTo pos (starEach es X.env)).any (·.1) = false := stars hs'.2
  have un := ok.un
  unfold biOf at h
  rcases ite2 h with ⟨_, h⟩ | ⟨_, h⟩
  · rcases ite1 h with ⟨hx, rfl⟩ | h
    · subst x; exact pd_bi c_len hg (ok.blt _ (by decide +kernel)) (by decide +kernel) hA (by decide +kernel) (by decide +kernel) s1 s2
    · rcases ite1 h with ⟨hx, rfl⟩ | h
      · subst x; exact pd_bi c_abs hg (ok.blt _ (by decide +kernel)) (by decide +kernel) hA (by decide +kernel) (by decide +kernel) s1 s2
      · rcases ite1 h with ⟨hx, rfl⟩ | h
        · subst x; exact pd_biTy c_int hg (ok.blt _ (by decide +kernel)) (by decide +kernel) hA (by decide +kernel) (by decide +kernel) s1 s2
        · rcases ite1 h with ⟨hx, rfl⟩ | h
          · subst x; exact pd_biTy c_tuple hg (ok.blt _ (by decide +kernel)) (by decide +kernel) hA (by decide +kernel) (by decide +kernel) s1 s2
          · rcases ite1 h with ⟨hx, rfl⟩ | h
            · subst x; exact pd_biTy c_list hg (ok.blt _ (by decide +kernel)) (by decide +kernel) hA (by decide +kernel) (by decide +kernel) s1 s2
            · rcases ite1 h with ⟨hx, rfl⟩ | h
              · subst x; exact pd_bi (c_all ok.calm) hg (ok.blt _ (by decide +kernel)) (by decide +kernel) hA (by decide +kernel) (by decide +kernel) s1 s2
              · rcases ite1 h with ⟨hx, rfl⟩ | h
                · subst x; exact pd_bi (c_any ok.calm) hg (ok.blt _ (by decide +kernel)) (by decide +kernel) hA (by decide +kernel) (by decide +kernel) s1 s2
                · rcases ite1 h with ⟨hx, rfl⟩ | h
                  · subst x; exact pd_bi (c_sum ok.calm) hg (ok.blt _ (by decide +kernel)) (by decide +kernel) hA (by decide +kernel) (by decide +kernel) s1 s2
                  · rcases ite1 h with ⟨hx, rfl⟩ | h
                    · subst x; exact pd_bi (c_max1 ok.calm) hg (ok.blt _ (by decide +kernel)) (by decide +kernel) hA (by decide +kernel) (by decide +kernel) s1 s2
                    · rcases ite1 h with ⟨hx, rfl⟩ | h
                      · subst x; exact pd_bi (c_min1 ok.calm) hg (ok.blt _ (by decide +kernel)) (by decide +kernel) hA (by decide +kernel) (by decide +kernel) s1 s2
                      · rcases ite1 h with ⟨hx, rfl⟩ | h
                        · subst x; exact pd_bi (c_sorted ok.calm) hg (ok.blt _ (by decide +kernel)) (by decide +kernel) hA (by decide +kernel) (by decide +kernel) s1 s2
                        · rcases ite1 h with ⟨hx, rfl⟩ | h
                          · subst x; exact pd_bi (c_repr ok.gd (by omega)) hg (ok.blt _ (by decide +kernel)) (by decide +kernel) hA (by decide +kernel) (by decide +kernel) s1 s2
                          · rcases ite1 h with ⟨hx, rfl⟩ | h
                            · subst x; exact pd_biTy (c_dict ok.calm) hg (ok.blt _ (by decide +kernel)) (by decide +kernel) hA (by decide +kernel) (by decide +kernel) s1 s2
                            · cases h
  · rcases ite2 h with ⟨_, h⟩ | ⟨_, h⟩
    · rcases ite1 h with ⟨hx, rfl⟩ | h
      · subst x; exact pd_bi (c_max2 ok.calm) hg (ok.blt _ (by decide +kernel)) (by decide +kernel) hA (by decide +kernel) (by decide +kernel) s1 s2
      · rcases ite1 h with ⟨hx, rfl⟩ | h
        · subst x; exact pd_bi (c_min2 ok.calm) hg (ok.blt _ (by decide +kernel)) (by decide +kernel) hA (by decide +kernel) (by decide +kernel) s1 s2
        · cases h
    · cases h
theorem pd_isis (ok : CxOk Γ con X c) {bb : B} {t : Str} {p pt : Pos} (h : isiOf t = some bb) (hg : Gl X "isinstance") (hgt : Gl X t) (ha : PE X a (tE X.K Γ con ca)) (hs : notStar a = true) :
    PE X (.Call (.Name "isinstance" p) [a, .Name t pt] [] pos) (tE X.K Γ con (.bi bb [ca])) := by
  have s1 : starEach [a, .Name t pt] X.env = (false, eval a X.env) :: starEach [.Name t pt] X.env := star1 hs
  have mi : X.mg "isinstance" = none := ok.blt _ (by decide +kernel)
  unfold isiOf at h
  rcases ite1 h with ⟨hx, rfl⟩ | h
  · subst t; exact pd_isi rfl hg mi hgt (ok.blt _ (by decide +kernel)) (by decide +kernel) (by decide +kernel) (by decide +kernel) ha s1
  · rcases ite1 h with ⟨hx, rfl⟩ | h
    · subst t; exact pd_isi rfl hg mi hgt (ok.blt _ (by decide +kernel)) (by decide +kernel) (by decide +kernel) (by decide +kernel) ha s1
    · rcases ite1 h with ⟨hx, rfl⟩ | h
      · subst t; exact pd_isi rfl hg mi hgt (ok.blt _ (by decide +kernel)) (by decide +kernel) (by decide +kernel) (by decide +kernel) ha s1
      · rcases ite1 h with ⟨hx, rfl⟩ | h
        · subst t; exact pd_isi rfl hg mi hgt (ok.blt _ (by decide +kernel)) (by decide +kernel) (by decide +kernel) (by decide +kernel) ha s1
        · rcases ite1 h with ⟨hx, rfl⟩ | h
          · subst t; exact pd_isi rfl hg mi hgt (ok.blt _ (by decide +kernel)) (by decide +kernel) (by decide +kernel) (by decide +kernel) ha s1
          · cases h
theorem pd_calls (ok : CxOk Γ con X c) {i np nd : Nat} {es : List Expr} {cs : List CE} {p : Pos} (hl : c.G.lookup x = some (.fn i np nd)) (hg : Gl X x) (hn : okN x = true) (he : PEl Γ con X es cs) (hs : es.all notStar = true) (h1 : es.length ≤ np) (h2 : np ≤ es.length + nd) :
    PE X (.Call (.Name x p) es [] pos) (tE X.K Γ con (.call i cs)) := by
  have hlen : cs.length = es.length := by
    clear hs h1 h2
    induction he with
    | nil => rfl
    | cons _ _ ih => simp [ih]
  rcases ok.fns x i np nd hl with no | ⟨k, f, fd, ps, fn, Γ', F, hr, hm, hk, hΓ, G, e1, e2, hd⟩
  · refine ⟨fun pins s σ H Q I ⟨as, env, st, d, st', er, sr, e, q⟩ => ?_⟩
    simp only [evE] at e
    obtain ⟨⟨ds, st1⟩, _, e⟩ := Res.bind_ok e
    exact absurd e (no _ _ _)
  · obtain ⟨dvs, dsv, v1, v2, v3⟩ := hd es.length h1 h2
    refine pd_call G hΓ ok.gd hr hg hm hk v2 v1 (fun as H => by rw [hlen]; exact v3 as H) (he.pa hs) (okN_d hn) (fun e => ?_) fun e es' ee => ?_
    · subst e; cases he; rfl
    · subst ee
      simp only [List.all_cons, Bool.and_eq_true] at hs
      exact ⟨star1 hs.1, stars hs.2⟩
/-- range(..) by its arguments -/
theorem PEl.one {es : List Expr} (h : PEl Γ con X es [ca]) : ∃ a, es = [a] ∧ PE X a (tE X.K Γ con ca) := by
  cases h with
  | cons h r => cases r; exact ⟨_, rfl, h⟩
theorem PEl.two {es : List Expr} (h : PEl Γ con X es [ca, cb]) : ∃ a b, es = [a, b] ∧ PE X a (tE X.K Γ con ca) ∧ PE X b (tE X.K Γ con cb) := by
  cases h with
  | cons h r => cases r with | cons h' r => cases r; exact ⟨_, _, rfl, h, h'⟩
theorem pd_methods (ok : CxOk Γ con X c) {o : Expr} {co : CE} {m : Str} {apos : Pos} {es : List Expr} {ce : CE} (hoc : notCall o = true) (hs : es.all notStar = true) (hl : (apos.endLine == pos.line) = true) (ho : PE X o (tE X.K Γ con co))
    (tr : Expr → Option CE) (htr : ∀ e d, e ∈ es → tr e = some d → PE X e (tE X.K Γ con d))
    (h : metC tr c.M co m es = some ce) : PE X (.Call (.Attribute o m apos) es [] pos) (tE X.K Γ con ce) := by
  have un := ok.un
  unfold metC at h
  rcases es with _ | ⟨a, _ | ⟨b, _ | ⟨d, es⟩⟩⟩
  · rcases ite2 h with ⟨_, h⟩ | ⟨_, h⟩
    · cases h
    · rcases ite2 h with ⟨_, h⟩ | ⟨_, h⟩
      · cases h
      · rcases ite2 h with ⟨hm, h⟩ | ⟨_, h⟩
        · subst m; cases h; exact pd_pop ho (base1 hoc) hl
        · obtain ⟨_, h⟩ := oi h; cases h
  · simp only [List.all_cons, Bool.and_eq_true] at hs
    have s1 : starEach [a] X.env = (false, eval a X.env) :: starEach [] X.env := star1 hs.1
    rcases ite2 h with ⟨hm, h⟩ | ⟨_, h⟩
    · subst m
      obtain ⟨ca, h1, rfl⟩ := om h
      exact pd_append ho (pd_frzIf (htr a ca (by simp) h1)) (base1 hoc) hl s1
    · rcases ite2 h with ⟨hm, h⟩ | ⟨_, h⟩
      · subst m
        obtain ⟨ca, h1, rfl⟩ := om h
        exact pd_extend ho (htr a ca (by simp) h1) (base1 hoc) hl s1
      · rcases ite2 h with ⟨hm, h⟩ | ⟨_, h⟩
        · subst m
          obtain ⟨ca, h1, rfl⟩ := om h
          exact pd_popAt ho (htr a ca (by simp) h1) (base1 hoc) hl s1
        · obtain ⟨hm, h⟩ := oi h
          subst m
          obtain ⟨ca, h1, rfl⟩ := om h
          exact pd_dget1 (by omega) ho (htr a ca (by simp) h1) ⟨base1 hoc, by rw [s1]; rfl, hl, by rw [s1]; rfl⟩
  · simp only [List.all_cons, Bool.and_eq_true] at hs
    have s1 : starEach [a, b] X.env = (false, eval a X.env) :: starEach [b] X.env := star1 hs.1
    have s2 : starEach [b] X.env = (false, eval b X.env) :: starEach [] X.env := star1 hs.2.1
    rcases ite2 h with ⟨_, h⟩ | ⟨_, h⟩
    · cases h
    · rcases ite2 h with ⟨_, h⟩ | ⟨_, h⟩
      · cases h
      · rcases ite2 h with ⟨_, h⟩ | ⟨_, h⟩
        · cases h
        · obtain ⟨hm, h⟩ := oi h
          subst m
          obtain ⟨ca, h1, h⟩ := ob h
          obtain ⟨cb, h2, rfl⟩ := om h
          exact pd_dget2 (by omega) ho (htr a ca (by simp) h1) (htr b cb (by simp) h2) ⟨base1 hoc, by rw [s1, s2]; rfl, hl, by rw [s1, s2]; rfl⟩
  · rcases ite2 h with ⟨_, h⟩ | ⟨_, h⟩
    · cases h
    · rcases ite2 h with ⟨_, h⟩ | ⟨_, h⟩
      · cases h
      · rcases ite2 h with ⟨_, h⟩ | ⟨_, h⟩
        · cases h
        · obtain ⟨_, h⟩ := oi h; cases h
end
end En

set_option Elab.async false
set_option linter.all false
set_option maxRecDepth 100000
set_option maxHeartbeats 4000000
namespace En
open PySem PySem.Spec PyProof.Rows L2
section
variable {Γ : Fns} {con : Nat → Option D}
variable (Γ con) in
structure TrOk (n : Nat) : Prop where
  E : ∀ {c : TC} {X : Cx} {e : Expr} {ce : CE}, trE n c e = some ce → CxOk Γ con X c → PE X e (tE X.K Γ con ce) ∧ PT X e (tTest' X.K Γ con ce)
  Es : ∀ {c : TC} {X : Cx} {z : Bool} {es : List Expr} {cs : List CE}, trEs n c z es = some cs → CxOk Γ con X c → PEl Γ con X es cs ∧ (z = false → PTl Γ con X es cs)
  O : ∀ {c : TC} {X : Cx} {o : Option Expr} {co : Option CE}, trO n c o = some co → CxOk Γ con X c → PO X o (tOs X.K Γ con co)
  I : ∀ {c : TC} {X : Cx} {tg e : Expr} {ci : CI}, trI n c tg e = some ci → CxOk Γ con X c → PI X tg e (tI X.K Γ con ci) ∧ ∀ x, foldedSetIterable e X.env x = pure x
  L : ∀ {c : TC} {X : Cx} {elt tg : Expr} {ifs : List Expr} {sc : Scope} {t : Tg} {test : Option CE} {ce : CE} {own : List (Str × Nat)}, trL n c elt tg ifs sc = some (t, test, ce, own) → CxOk Γ con X c →
    LcOk X Γ con tg ifs sc own t test ∧ (∀ (s : Shared) (H : Hp) (C : Addr) (cl : List (Str × Addr)) (fp : List Addr), PE (X.blk s H sc (compEnvC sc cl C X.env) fp) elt (tE X.K Γ con ce)) ∧ sc.kind = .function
  T : ∀ {c : TC} {X : Cx} {es : List Expr} {o : Option CE}, trT1 n c es = some o → CxOk Γ con X c → PTs X es (tTo X.K Γ con o)
theorem trOk0 : TrOk Γ con 0 := by
  constructor <;> intros <;> rename_i h _ <;> cases h
section
variable {n : Nat} {c : TC} {X : Cx}
theorem trEs_s (ih : TrOk Γ con n) {z : Bool} {es : List Expr} {cs : List CE} (h : trEs (n + 1) c z es = some cs) (ok : CxOk Γ con X c) : PEl Γ con X es cs ∧ (z = false → PTl Γ con X es cs) := by
  cases es with
  | nil =>
    have h' : some ([] : List CE) = some cs := h
    cases h'
    exact ⟨.nil, fun _ => .nil⟩
  | cons e r =>
    obtain ⟨ce, h1, h⟩ := ob (show ((if z && isD0 e then some (.dlit []) else trE n c e).bind fun ce => (trEs n c z r).map fun cs => frzIf (z && isName c.M e) ce :: cs) = some cs from h)
    obtain ⟨cs', h2, rfl⟩ := om h
    obtain ⟨r1, r2⟩ := ih.Es h2 ok
    by_cases hz : (z && isD0 e) = true
    · rw [if_pos hz] at h1
      cases h1
      simp only [Bool.and_eq_true] at hz
      obtain ⟨hz1, hz2⟩ := hz
      have he : PE X e (tE X.K Γ con (.dlit [])) := by
        unfold isD0 at hz2
        split at hz2
        · exact pd_dlit0
        · cases hz2
      exact ⟨.cons (pd_frzIf he) r1, fun z0 => by rw [z0] at hz1; cases hz1⟩
    rw [if_neg hz] at h1
    obtain ⟨e1, e2⟩ := ih.E h1 ok
    exact ⟨.cons (pd_frzIf e1) r1, fun hz => by subst hz; exact .cons e2 (r2 rfl)⟩
theorem trO_s (ih : TrOk Γ con n) {o : Option Expr} {co : Option CE} (h : trO (n + 1) c o = some co) (ok : CxOk Γ con X c) : PO X o (tOs X.K Γ con co) := by
  cases o with
  | none =>
    have h' : some (none : Option CE) = some co := h
    cases h'
    exact po_data_none
  | some e =>
    obtain ⟨ce, h1, rfl⟩ := om (show (trE n c e).map some = some co from h)
    exact po_data_some (ih.E h1 ok).1
theorem trT_s (ih : TrOk Γ con n) {es : List Expr} {o : Option CE} (h : trT1 (n + 1) c es = some o) (ok : CxOk Γ con X c) : PTs X es (tTo X.K Γ con o) := by
  rcases es with _ | ⟨e, _ | ⟨e', r⟩⟩
  · have h' : some (none : Option CE) = some o := h
    cases h'
    exact pdts_none
  · obtain ⟨ce, h1, rfl⟩ := om (show (trE n c e).map some = some o from h)
    exact pdts_some (ih.E h1 ok).2
  · cases h
theorem trL_s (ih : TrOk Γ con n) {elt tg : Expr} {ifs : List Expr} {sc : Scope} {t : Tg} {test : Option CE} {ce : CE} {own : List (Str × Nat)} (h : trL (n + 1) c elt tg ifs sc = some (t, test, ce, own)) (ok : CxOk Γ con X c) :
    LcOk X Γ con tg ifs sc own t test ∧ (∀ (s : Shared) (H : Hp) (C : Addr) (cl : List (Str × Addr)) (fp : List Addr), PE (X.blk s H sc (compEnvC sc cl C X.env) fp) elt (tE X.K Γ con ce)) ∧ sc.kind = .function := by
  obtain ⟨hb, h⟩ := oi (show (if L2.blkC c.N (dumSc c) sc (ownOf c.N sc.names) then (trG n (c.inner sc) tg).bind fun t =>
      if (slotsT t).all (fun i => ((ownOf c.N sc.names).map (·.2)).contains i) then (trT1 n (c.inner sc) ifs).bind fun test => (trE n (c.inner sc) elt).map fun ce => (t, test, frzIf (isName c.M elt) ce, ownOf c.N sc.names)
      else none else none) = some (t, test, ce, own) from h)
  obtain ⟨t', h1, h⟩ := ob h
  obtain ⟨hsub, h⟩ := oi h
  obtain ⟨test', h2, h⟩ := ob h
  obtain ⟨ce', h3, h⟩ := om h
  cases h
  have bk := lookup_dum ok hb
  have inn := fun s H C cl fp => ok.inner bk.kind s H C cl fp
  refine ⟨⟨ok.calm, by rw [ok.N]; exact ok.nd, bk, fun i hi => ?_, fun s H C cl fp => (trG_ok n).1 tg _ h1 (inn s H C cl fp), fun s H C cl fp => ih.T h2 (inn s H C cl fp)⟩, fun s H C cl fp => pd_frzIf (ih.E h3 (inn s H C cl fp)).1, bk.kind⟩
  have := List.all_eq_true.mp hsub i hi
  simpa using this
theorem trI_s (ih : TrOk Γ con n) {tg e : Expr} {ci : CI} (h : trI (n + 1) c tg e = some ci) (ok : CxOk Γ con X c) : PI X tg e (tI X.K Γ con ci) ∧ ∀ x, foldedSetIterable e X.env x = pure x := by
  obtain ⟨hs, h⟩ := oi (show (if notSet e then match e with
    | .Call (.Name f _) es [] _ =>
      if f = "range" then
        if c.glb f && es.all notStar then (trEs n c false es).bind fun cs => match cs with
          | [a] => some (CI.range1 a)
          | [a, b] => some (.range2 a b)
          | _ => none
        else none
      else if f = "zip" then
        if c.glb f && es.all notStar && !notTup tg then (trEs n c false es).bind fun cs => match cs with
          | [a, b] => some (.zip a b)
          | _ => none
        else none
      else if f = "enumerate" then
        if c.glb f && es.all notStar && !notTup tg then (trEs n c false es).bind fun cs => match cs with
          | [a] => some (.enum a)
          | _ => none
        else none
      else (trE n c e).map .seq
    | .Tuple es k p => (trE n { c with M := [] } (.Tuple es k p)).map .seq
    | e => (trE n c e).map .seq
    else none) = some ci from h)
  refine ⟨?_, folded1 hs⟩
  have gen : (trE n c e).map CI.seq = some ci → PI X tg e (tI X.K Γ con ci) := fun h => by
    obtain ⟨ce, h1, rfl⟩ := om h
    exact pdi_seq (ih.E h1 ok).1
  cases e with
  | Call f es kws p =>
    cases f with
    | Name f pf =>
      cases kws with
      | nil =>
        rcases ite2 h with ⟨hf, h⟩ | ⟨_, h⟩
        · subst f
          obtain ⟨hg, h⟩ := oi h
          obtain ⟨cs, h1, h⟩ := ob h
          simp only [Bool.and_eq_true] at hg
          obtain ⟨g1, _⟩ := ok.glb hg.1
          have mg := ok.blt "range" (by decide +kernel)
          obtain ⟨pe, _⟩ := ih.Es h1 ok
          rcases cs with _ | ⟨a, _ | ⟨b, _ | ⟨d, r⟩⟩⟩
          · cases h
          · cases h
            obtain ⟨x, rfl, px⟩ := pe.one
            have hs := hg.2
            simp only [List.all_cons, Bool.and_eq_true] at hs
            exact pdi_range1 g1 mg px (by rw [star1 hs.1]; rfl)
          · cases h
            obtain ⟨x, y, rfl, px, py⟩ := pe.two
            have hs := hg.2
            simp only [List.all_cons, Bool.and_eq_true] at hs
            exact pdi_range2 g1 mg px py (by rw [star1 hs.1, star1 hs.2.1]; rfl) (by rw [star1 hs.2.1]; rfl)
          · cases h
        · rcases ite2 h with ⟨hf, h⟩ | ⟨_, h⟩
          · subst f
            obtain ⟨hg, h⟩ := oi h
            obtain ⟨cs, h1, h⟩ := ob h
            simp only [Bool.and_eq_true] at hg
            obtain ⟨g1, _⟩ := ok.glb hg.1.1
            have mg := ok.blt "zip" (by decide +kernel)
            obtain ⟨pe, _⟩ := ih.Es h1 ok
            rcases cs with _ | ⟨a, _ | ⟨b, _ | ⟨d, r⟩⟩⟩
            · cases h
            · cases h
            · cases h
              obtain ⟨x, y, rfl, px, py⟩ := pe.two
              have hs := hg.1.2
              have ht := hg.2
              simp only [List.all_cons, Bool.and_eq_true] at hs
              cases tg with
              | Tuple elts k p => exact pdi_zip g1 mg px py (star1 hs.1) (star1 hs.2.1)
              | _ => cases ht
            · cases h
          · rcases ite2 h with ⟨hf, h⟩ | ⟨_, h⟩
            · subst f
              obtain ⟨hg, h⟩ := oi h
              obtain ⟨cs, h1, h⟩ := ob h
              simp only [Bool.and_eq_true] at hg
              obtain ⟨g1, _⟩ := ok.glb hg.1.1
              have mg := ok.blt "enumerate" (by decide +kernel)
              obtain ⟨pe, _⟩ := ih.Es h1 ok
              rcases cs with _ | ⟨a, _ | ⟨b, r⟩⟩
              · cases h
              · cases h
                obtain ⟨x, rfl, px⟩ := pe.one
                have hs := hg.1.2
                have ht := hg.2
                simp only [List.all_cons, Bool.and_eq_true] at hs
                cases tg with
                | Tuple elts k p => exact pdi_enum g1 mg px (by rw [star1 hs.1]; rfl)
                | _ => cases ht
              · cases h
            · exact gen h
      | cons k ks => exact gen h
    | _ => exact gen h
  | Tuple es k p =>
    obtain ⟨ce, h1, rfl⟩ := om (show (trE n { c with M := [] } (.Tuple es k p)).map CI.seq = some ci from h)
    exact pdi_seq (ih.E h1 ok.noM).1
  | _ => exact gen h
end
end
end En

set_option Elab.async false
set_option linter.all false
set_option maxRecDepth 100000
set_option maxHeartbeats 4000000
namespace En
open PySem PySem.Spec PyProof.Rows L2
section
variable {Γ : Fns} {con : Nat → Option D} {n : Nat} {c : TC} {X : Cx}
/-- an expression whose test is its value's truth -/
theorem both {e : Expr} {ce : CE} (h : PE X e (tE X.K Γ con ce)) (he : ∀ whole, isTrue e X.env whole = (do let v ← whole; standAt e.pos; holding [v] (truthy v))) : PE X e (tE X.K Γ con ce) ∧ PT X e (tTest' X.K Γ con ce) := ⟨h, pdt_val h he⟩
theorem trIt_ok {tg iter : Expr} {j : Nat} (h : trIt c tg iter = some j) : ∃ elts k tp x px m apos cpos, tg = .Tuple elts k tp ∧ iter = .Call (.Attribute (.Name x px) m apos) [] [] cpos ∧ m = "items" ∧ (apos.endLine == cpos.line) = true ∧ c.vis x = true ∧ okN x = true ∧ slotAt c.N x = some j := by
  unfold trIt at h
  split at h
  · obtain ⟨⟨h1, h2, h3, h4⟩, h⟩ := oi h
    exact ⟨_, _, _, _, _, _, _, _, rfl, rfl, h1, h2, h3, h4, h⟩
  · cases h
theorem trE_name (ok : CxOk Γ con X c) {x : Str} {p : Pos} {ce : CE} (h : (if okN x then
        if c.vis x then (slotAt c.N x).map CE.var
        else if c.glb x then match c.G.lookup x with
          | some (.con i) => some (.glob i)
          | _ => none
        else none
      else none) = some ce) : PE X (.Name x p) (tE X.K Γ con ce) := by
  obtain ⟨hn, h⟩ := oi h
  rcases ite2 h with ⟨hv, h⟩ | ⟨_, h⟩
  · obtain ⟨i, h1, rfl⟩ := om h
    exact pd_var (by rw [ok.N]; exact slotAt_ok h1) (ok.vis hv) (okN_d hn) (okN_c hn)
  · obtain ⟨hg, h⟩ := oi h
    split at h
    · rename_i i hl
      cases h
      obtain ⟨u, v, d, m1, m2, m3, m4⟩ := ok.cons x i hl
      exact pd_glob ⟨fun pins s σ H Q I h => ld_glob I (ok.glb hg).1 m1 ⟨v, H, I, m2, h⟩ (okN_d hn)⟩ m3 m4
    · cases h
theorem trE_call (ih : TrOk Γ con n) (ok : CxOk Γ con X c) {f : Str} {pf pos : Pos} {es : List Expr} {ce : CE} (h0 : (if c.glb f && es.all notStar then match c.G.lookup f with
        | some (.fn i np nd) => if es.length ≤ np ∧ np ≤ es.length + nd then (trEs n c false es).map (CE.call i) else none
        | some .err => mkC f (trE n c) es
        | some _ => none
        | none => match es with
          | [.Call (.Name g _) es2 [] _] =>
            if (f = "list" ∨ f = "tuple") ∧ g = "range" ∧ c.glb g = true then
              if es2.all notStar then (trEs n c false es2).bind fun cs => match cs with
                | [a] => some (.rng1 (decide (f = "tuple")) a)
                | [a, b] => some (.rng2 (decide (f = "tuple")) a b)
                | _ => none else none
            else if f = "sorted" ∧ g = "set" ∧ c.glb g = true then match es2 with
              | [a] => if notStar a then (trE n c a).map fun ca => .bi .sortset [ca] else none
              | _ => none
            else (biOf f 1).bind fun b => (trEs n c false es).map (.bi b)
          | [a, .Name t _] => if f = "isinstance" ∧ c.glb t = true then isiC c t (trE n c a) else (biOf f 2).bind fun b => (trEs n c false es).map (.bi b)
          | es => (biOf f es.length).bind fun b => (trEs n c false es).map (.bi b)
      else none) = some ce) : PE X (.Call (.Name f pf) es [] pos) (tE X.K Γ con ce) := by
  obtain ⟨hh, h⟩ := oi h0
  clear h0
  simp only [Bool.and_eq_true] at hh
  obtain ⟨hg, hs⟩ := hh
  obtain ⟨g1, g2⟩ := ok.glb hg
  have bis : ∀ {m : Nat}, ((biOf f m).bind fun b => (trEs n c false es).map (CE.bi b)) = some ce → PE X (.Call (.Name f pf) es [] pos) (tE X.K Γ con ce) := fun {m} h => by
    obtain ⟨b, h1, h⟩ := ob h
    obtain ⟨cs, h2, rfl⟩ := om h
    obtain ⟨pe, _⟩ := ih.Es h2 ok
    cases pe with
    | nil =>
      refine ⟨fun pins s σ H Q I ⟨as, env, st, d, st', er, sr, e, q⟩ => ?_⟩
      simp only [evE, evEs, Res.bind, List.map] at e
      cases b <;> simp [bi] at e <;> cases e
    | cons p r => exact pd_bis ok h1 g1 ((PEl.cons p r).pa hs) hs
  cases hl : c.G.lookup f with
  | some g =>
    simp only [hl] at h
    cases g with
    | con i => cases h
    | err =>
      have h' : mkC f (trE n c) es = some ce := h
      clear h
      unfold mkC at h'
      split at h'
      · rename_i a
        obtain ⟨ca, h1, rfl⟩ := om h'
        obtain ⟨fI, Dc, C, F, T, EK, hm⟩ := (ok.errs f hl).ex
        simp only [List.all_cons, Bool.and_eq_true] at hs
        exact pd_mkErr F T EK (ok.blt _ (by decide +kernel)) ok.room g1 hm (okN_d g2) (ih.E h1 ok).1 (star1 hs.1)
      · cases h'
    | fn i np nd =>
      obtain ⟨⟨l1, l2⟩, h⟩ := oi h
      obtain ⟨cs, h1, rfl⟩ := om h
      exact pd_calls ok hl g1 g2 (ih.Es h1 ok).1 hs l1 l2
  | none =>
    simp only [hl] at h
    split at h
    · rename_i g pg es2 p2
      rcases ite2 h with ⟨⟨hf, hgr, hgg⟩, h'⟩ | ⟨_, h⟩
      · clear h
        subst g
        obtain ⟨hs2, h⟩ := oi h'
        clear h'
        obtain ⟨cs, h1, h⟩ := ob h
        obtain ⟨pe, _⟩ := ih.Es h1 ok
        obtain ⟨r1, _⟩ := ok.glb hgg
        have mr := ok.blt "range" (by decide +kernel)
        have mf : ∀ t : Bool, X.mg (if t then "tuple" else "list") = none := fun t => by
          cases t
          · exact ok.blt _ (by decide +kernel)
          · exact ok.blt _ (by decide +kernel)
        have ef : f = (if decide (f = "tuple") then ("tuple" : Str) else ("list" : Str)) := by
          rcases hf with e | e
          · subst e; decide +kernel
          · subst e; decide +kernel
        have gf : Gl X (if decide (f = "tuple") then ("tuple" : Str) else ("list" : Str)) := by rw [← ef]; exact g1
        rcases cs with _ | ⟨a, _ | ⟨b, _ | ⟨d, r⟩⟩⟩
        · cases h
        · cases h
          obtain ⟨x, rfl, px⟩ := pe.one
          simp only [List.all_cons, Bool.and_eq_true] at hs2
          have := pd_rng1 (p := pf) (p2 := pg) (pos := pos) (pos2 := p2) (t := decide (f = "tuple")) ok.calm gf (mf _) r1 mr px (star1 hs2.1)
          rw [← ef] at this
          exact this
        · cases h
          obtain ⟨x, y, rfl, px, py⟩ := pe.two
          simp only [List.all_cons, Bool.and_eq_true] at hs2
          have := pd_rng2 (p := pf) (p2 := pg) (pos := pos) (pos2 := p2) (t := decide (f = "tuple")) ok.calm gf (mf _) r1 mr px py (star1 hs2.1) (star1 hs2.2.1)
          rw [← ef] at this
          exact this
        · cases h
      · rcases ite2 h with ⟨⟨hf, hgs, hgg⟩, h'⟩ | ⟨_, h⟩
        · clear h
          subst f g
          obtain ⟨r1, _⟩ := ok.glb hgg
          split at h'
          · rename_i a
            obtain ⟨hs2, h'⟩ := oi h'
            obtain ⟨ca, h2, rfl⟩ := om h'
            exact pd_sortset ok.calm g1 (ok.blt _ (by decide +kernel)) r1 (ok.blt _ (by decide +kernel)) (ih.E h2 ok).1 (star1 hs2) (star1 rfl)
          · cases h'
        · exact bis h
    · rename_i a t pt
      rcases ite2 h with ⟨⟨hf, hgt⟩, h'⟩ | ⟨_, h⟩
      · subst f
        simp only [List.all_cons, Bool.and_eq_true] at hs
        unfold isiC at h'
        rcases ite2 h' with ⟨⟨hE, hV⟩, h'⟩ | ⟨_, h'⟩
        · obtain ⟨ca, h2, rfl⟩ := om h'
          have hl2 : c.G.lookup t = some .err := by
            unfold isErrG at hE
            split at hE
            · assumption
            · cases hE
          obtain ⟨fI, Dc, C, F, T, EK, hm⟩ := (ok.errs t hl2).ex
          exact pd_isErrO EK hV g1 (ok.blt _ (by decide +kernel)) (ok.glb hgt).1 hm (okN_d (ok.glb hgt).2) (ih.E h2 ok).1 (star1 hs.1)
        · rcases ite2 h' with ⟨hV, h'⟩ | ⟨_, h'⟩
          · subst t
            obtain ⟨ca, h2, rfl⟩ := om h'
            exact pd_isErrV g1 (ok.blt _ (by decide +kernel)) (ok.glb hgt).1 (ok.blt _ (by decide +kernel)) (ih.E h2 ok).1 (star1 hs.1)
          · obtain ⟨b, h1, h'⟩ := ob h'
            obtain ⟨ca, h2, rfl⟩ := om h'
            exact pd_isis ok h1 g1 (ok.glb hgt).1 (ih.E h2 ok).1 hs.1
      · exact bis h
    · exact bis h
theorem trE_sub (ih : TrOk Γ con n) (ok : CxOk Γ con X c) {a s : Expr} {pos : Pos} {ce : CE} (h : (match s with
      | .Slice none none (some (.UnaryOp .USub (.Constant (.int 1) _ _) _)) _ => (trE n c a).map CE.rev
      | .Slice lo hi none _ => (trE n c a).bind fun ca => (trO n c lo).bind fun cl => (trO n c hi).map fun ch => .slc ca cl ch
      | b => if notSlice b then (trE n c a).bind fun ca => (trE n c b).map fun cb => .idx ca cb else none) = some ce) : PE X (.Subscript a s pos) (tE X.K Γ con ce) := by
  have un := ok.un
  split at h
  · obtain ⟨ca, h1, rfl⟩ := om h
    exact pd_rev (ih.E h1 ok).1
  · obtain ⟨ca, h1, h⟩ := ob h
    obtain ⟨cl, h2, h⟩ := ob h
    obtain ⟨ch, h3, rfl⟩ := om h
    exact pd_slc (ih.E h1 ok).1 (ih.O h2 ok) (ih.O h3 ok)
  · obtain ⟨hs, h⟩ := oi h
    obtain ⟨ca, h1, h⟩ := ob h
    obtain ⟨cb, h2, rfl⟩ := om h
    exact pd_idx (by omega) (ih.E h1 ok).1 (ih.E h2 ok).1 (plain1 hs)
theorem trE_lc (ih : TrOk Γ con n) (ok : CxOk Γ con X c) {elt tg iter : Expr} {ifs : List Expr} {as : Int} {sc : Scope} {pos : Pos} {ce : CE} (h : (if as = 0 then match trIt c tg iter with
      | some j => (trL n c elt tg ifs sc).map fun (t, test, ce, own) => CE.comp t (.items (.var j)) test ce (own.map (·.2))
      | none => (trI n c tg iter).bind fun ci => (trL n c elt tg ifs sc).map fun (t, test, ce, own) => CE.comp t ci test ce (own.map (·.2)) else none) = some ce) : PE X (.ListComp elt [⟨tg, iter, ifs, as⟩] sc pos) (tE X.K Γ con ce) := by
  obtain ⟨rfl, h⟩ := oi h
  cases hi : trIt c tg iter with
  | some j =>
    simp only [hi] at h
    obtain ⟨⟨t, test, ce', own⟩, h1, rfl⟩ := om h
    obtain ⟨elts, k, tp, x, px, m, apos, cpos, rfl, rfl, rfl, i2, i3, i4, i5⟩ := trIt_ok hi
    obtain ⟨l1, l2, _⟩ := ih.L h1 ok
    exact pd_compItems l1 (pe_var (by rw [ok.N]; exact slotAt_ok i5) (ok.vis i3) (okN_d i4) (okN_c i4)) rfl i2 l2 fun _ => rfl
  | none =>
    simp only [hi] at h
    obtain ⟨ci, h1, h⟩ := ob h
    obtain ⟨⟨t, test, ce', own⟩, h2, rfl⟩ := om h
    obtain ⟨i1, i2⟩ := ih.I h1 ok
    obtain ⟨l1, l2, _⟩ := ih.L h2 ok
    exact pd_comp l1 i1 l2 i2
theorem trE_dc (ih : TrOk Γ con n) (ok : CxOk Γ con X c) {k v tg iter : Expr} {ifs : List Expr} {as : Int} {sc : Scope} {pos : Pos} {ce : CE} (h : (if as = 0 then (trI n c tg iter).bind fun ci => (trL n c k tg ifs sc).bind fun (t, test, ck, own) => (trE n (c.inner sc) v).map fun cv => CE.dcomp t ci test ck (frzIf (isName c.M v) cv) (own.map (·.2)) else none) = some ce) :
    PE X (.DictComp k v [⟨tg, iter, ifs, as⟩] sc pos) (tE X.K Γ con ce) := by
  obtain ⟨rfl, h⟩ := oi h
  obtain ⟨ci, h1, h⟩ := ob h
  obtain ⟨⟨t, test, ck, own⟩, h2, h⟩ := ob h
  obtain ⟨cv, h3, rfl⟩ := om h
  obtain ⟨i1, i2⟩ := ih.I h1 ok
  obtain ⟨l1, l2, l3⟩ := ih.L h2 ok
  exact pd_dcomp l1 i1 l2 (fun s H C cl fp => pd_frzIf (ih.E h3 (ok.inner l3 s H C cl fp)).1) i2
theorem trE_meth (ih : TrOk Γ con n) (ok : CxOk Γ con X c) {o : Expr} {m : Str} {apos p : Pos} {es : List Expr} {ce : CE} (h : (if notCall o && es.all notStar && (apos.endLine == p.line) then (trE n c o).bind fun co =>
        metC (trE n c) c.M co m es
      else none) = some ce) : PE X (.Call (.Attribute o m apos) es [] p) (tE X.K Γ con ce) := by
  obtain ⟨hh, h⟩ := oi h
  simp only [Bool.and_eq_true] at hh
  obtain ⟨co, h1, h⟩ := ob h
  exact pd_methods ok hh.1.1 hh.1.2 hh.2 (ih.E h1 ok).1 (trE n c) (fun e d _ q => (ih.E q ok).1) h
theorem trE_s (ih : TrOk Γ con n) {e : Expr} {ce : CE} (h : trE (n + 1) c e = some ce) (ok : CxOk Γ con X c) : PE X e (tE X.K Γ con ce) ∧ PT X e (tTest' X.K Γ con ce) := by
  have un := ok.un
  cases e with
  | Constant v k p =>
    cases v with
    | none =>
      have h' : some (CE.lit .non) = some ce := h
      cases h'
      exact both (pd_lit pe_non fun _ _ _ => .non) fun _ => rfl
    | bool b =>
      have h' : some (CE.lit (.bl b)) = some ce := h
      cases h'
      exact both (pd_lit pe_bl fun _ _ _ => .bl b) fun _ => rfl
    | int i =>
      have h' : some (CE.lit (.int i)) = some ce := h
      cases h'
      exact both (pd_lit pe_int fun _ _ _ => .int i) fun _ => rfl
    | str x =>
      have h' : some (CE.lit (.str x)) = some ce := h
      cases h'
      exact both (pd_lit pe_str fun _ _ _ => .str x) fun _ => rfl
    | _ => cases h
  | Name x p => exact both (trE_name ok h) fun _ => rfl
  | BinOp a op b p =>
    obtain ⟨o, h1, h⟩ := ob (show ((binOf op).bind fun o => (trE n c a).bind fun ca => (trE n c b).map fun cb => CE.bin o ca cb) = some ce from h)
    obtain ⟨ca, h2, h⟩ := ob h
    obtain ⟨cb, h3, rfl⟩ := om h
    obtain rfl := binOf_ok h1
    exact both (pd_bin (ih.E h2 ok).1 (ih.E h3 ok).1) fun _ => rfl
  | UnaryOp op a p =>
    cases op with
    | USub =>
      obtain ⟨ca, h1, rfl⟩ := om (show (trE n c a).map CE.neg = some ce from h)
      exact both (pd_neg (ih.E h1 ok).1) fun _ => rfl
    | Not =>
      obtain ⟨ca, h1, rfl⟩ := om (show (trE n c a).map CE.not = some ce from h)
      exact ⟨pd_not (ih.E h1 ok).1, pdt_not (ih.E h1 ok).2⟩
    | _ => cases h
  | Compare a ops bs p =>
    rcases ops with _ | ⟨op, _ | ⟨op', _ | ⟨op'', ops⟩⟩⟩
    · cases h
    · rcases bs with _ | ⟨b, _ | ⟨b', bs⟩⟩
      · cases h
      · rcases ite2 (show (if behindInMarks op b then none else (trE n c a).bind fun ca => (trE n c b).map fun cb => CE.cmp (cmpOf op) ca cb) = some ce from h) with ⟨_, h⟩ | ⟨hm, h⟩
        · cases h
        · obtain ⟨ca, h1, h⟩ := ob h
          obtain ⟨cb, h2, rfl⟩ := om h
          have hm' : behindInMarks (pyCmp (cmpOf op)) b = false := by rw [← cmpOf_ok]; simpa using hm
          have e1 := pd_cmp (pos := p) (op := cmpOf op) (by omega) (ih.E h1 ok).1 (ih.E h2 ok).1 hm'
          have e2 := pdt_cmp (pos := p) (op := cmpOf op) (by omega) (ih.E h1 ok).1 (ih.E h2 ok).1 hm'
          rw [← cmpOf_ok] at e1 e2
          exact ⟨e1, e2⟩
      · cases h
    · rcases bs with _ | ⟨b, _ | ⟨b', _ | ⟨b'', bs⟩⟩⟩
      · cases h
      · cases h
      · rcases ite2 (show (if lastMarks [op, op'] [b, b'] then none else (trE n c a).bind fun ca => (trE n c b).bind fun cb => (trE n c b').map fun cb' => CE.chain (cmpOf op) (cmpOf op') ca cb cb') = some ce from h) with ⟨_, h⟩ | ⟨hm, h⟩
        · cases h
        · obtain ⟨ca, h1, h⟩ := ob h
          obtain ⟨cb, h2, h⟩ := ob h
          obtain ⟨cb', h3, rfl⟩ := om h
          have hm' : lastMarks [pyCmp (cmpOf op), pyCmp (cmpOf op')] [b, b'] = false := by rw [← cmpOf_ok, ← cmpOf_ok]; simpa using hm
          have e1 := pd_chain (pos := p) (op := cmpOf op) (op' := cmpOf op') (by omega) (ih.E h1 ok).1 (ih.E h2 ok).1 (ih.E h3 ok).1 hm'
          have e2 := pdt_chain (pos := p) (op := cmpOf op) (op' := cmpOf op') (by omega) (ih.E h1 ok).1 (ih.E h2 ok).1 (ih.E h3 ok).1 hm'
          rw [← cmpOf_ok, ← cmpOf_ok] at e1 e2
          exact ⟨e1, e2⟩
      · cases h
    · cases h
  | BoolOp op es p =>
    cases es with
    | nil => cases op <;> cases h
    | cons a es =>
      cases op with
      | And =>
        obtain ⟨cs, h1, rfl⟩ := om (show (trEs n c false (a :: es)).map CE.and = some ce from h)
        obtain ⟨p1, p2⟩ := ih.Es h1 ok
        cases p1 with
        | cons q r =>
          cases p2 rfl with
          | cons q' r' => exact ⟨r.and q, (r'.and q').pt⟩
      | Or =>
        obtain ⟨cs, h1, rfl⟩ := om (show (trEs n c false (a :: es)).map CE.or = some ce from h)
        obtain ⟨p1, p2⟩ := ih.Es h1 ok
        cases p1 with
        | cons q r =>
          cases p2 rfl with
          | cons q' r' => exact ⟨r.or q, (r'.or q').pt⟩
  | IfExp t a b p =>
    obtain ⟨ct, h1, h⟩ := ob (show ((trE n c t).bind fun ct => (trE n c a).bind fun ca => (trE n c b).map fun cb => CE.ite ct ca cb) = some ce from h)
    obtain ⟨ca, h2, h⟩ := ob h
    obtain ⟨cb, h3, rfl⟩ := om h
    exact ⟨pd_ite (ih.E h1 ok).2 (ih.E h2 ok).1 (ih.E h3 ok).1, pdt_ite (ih.E h1 ok).2 (ih.E h2 ok).2 (ih.E h3 ok).2⟩
  | Tuple es k p =>
    obtain ⟨hs, h⟩ := oi (show (if es.all notStar then (trEs n c true es).map CE.tup else none) = some ce from h)
    obtain ⟨cs, h1, rfl⟩ := om h
    exact both (pd_tup ((ih.Es h1 ok).1.pa hs)) fun _ => rfl
  | List es p =>
    obtain ⟨hs, h⟩ := oi (show (if es.all notStar then (trEs n c true es).map CE.lst else none) = some ce from h)
    obtain ⟨cs, h1, rfl⟩ := om h
    exact both (pd_lst ((ih.Es h1 ok).1.pa hs)) fun _ => rfl
  | Dict ks vs p =>
    have h' : dC ks vs = some ce := h
    clear h
    unfold dC at h'
    split at h'
    · cases h'
      exact both pd_dnew fun _ => rfl
    · cases h'
      exact both pd_dlit1 fun _ => rfl
    · cases h'
  | Attribute o m p =>
    obtain ⟨⟨h1, hm⟩, h'⟩ := oi (show (if notCall o = true ∧ m = "value" then (trE n c o).map CE.errVal else none) = some ce from h)
    clear h
    subst hm
    obtain ⟨co, h2, rfl⟩ := om h'
    exact both (pd_errVal (ih.E h2 ok).1 (base1 h1)) fun _ => rfl
  | Subscript a s p => exact both (trE_sub ih ok h) fun _ => rfl
  | Call f es kws p =>
    cases kws with
    | cons _ _ => cases f <;> cases h
    | nil =>
      cases f with
      | Name f pf => exact both (trE_call ih ok h) fun _ => rfl
      | Attribute o m apos =>
        exact both (trE_meth ih ok h) fun _ => rfl
      | _ => cases h
  | ListComp elt gs sc p =>
    rcases gs with _ | ⟨⟨tg, iter, ifs, as⟩, _ | ⟨g', gs⟩⟩
    · cases h
    · exact both (trE_lc ih ok h) fun _ => rfl
    · cases h
  | DictComp k v gs sc p =>
    rcases gs with _ | ⟨⟨tg, iter, ifs, as⟩, _ | ⟨g', gs⟩⟩
    · cases h
    · exact both (trE_dc ih ok h) fun _ => rfl
    · cases h
  | _ => cases h
theorem trOk : ∀ n, TrOk Γ con n
  | 0 => trOk0
  | n + 1 => ⟨trE_s (trOk n), trEs_s (trOk n), trO_s (trOk n), trI_s (trOk n), trL_s (trOk n), trT_s (trOk n)⟩
end
end En

set_option Elab.async false
set_option linter.all false
set_option maxRecDepth 100000
set_option maxHeartbeats 4000000
namespace En
open PySem PySem.Spec PyProof.Rows L2
/-- an expression whose list is to be changed -/
def trM (n : Nat) (c : TC) (e : Expr) : Option CE := match e with
  | .List es _ => if es.all notStar then (trEs n c true es).map .lstM else none
  | .Call (.Name f _) [a] [] _ => if f = "list" ∧ c.glb f = true ∧ notStar a = true ∧ notCall a = true then (trE n c a).map .copyM else trE n c e
  | .ListComp elt [⟨tg, iter, ifs, as⟩] sc _ => if as = 0 then (trI n c tg iter).bind fun ci => (trL n c elt tg ifs sc).map fun (t, test, ce, own) => .compM t ci test ce (own.map (·.2)) else none
  | e => trE n c e
def trMif (n : Nat) (c : TC) (m : Bool) (e : Expr) : Option CE := if m then trM n c e else trE n c e
def swB (c : TC) (x : Str) (px p : Pos) (sc : Scope) : Bool := c.isLocal x && (px.line == p.line) && !(sc.names.any fun (n, k) => n == x && (k == .local || k == .cell))
/-- name = value -/
def trSet (n : Nat) (c : TC) (x : Str) (px : Pos) (v : Expr) : Option CS := match slotAt c.N x with
  | none => none
  | some i => if c.loc x then match v with
    | .ListComp elt [⟨tg, iter, ifs, as⟩] sc p =>
      if as = 0 ∧ c.isLocal x = true then
        if swB c x px p sc then (trI n c tg iter).bind fun ci => (trL n c elt tg ifs sc).map fun (t, test, ce, own) => .asg (.name i) (if c.M.contains x then .compM t ci test ce (own.map (·.2)) else .comp t ci test ce (own.map (·.2)))
        else (trMif n c (c.M.contains x) v).map fun cv => .asg (.name i) cv
      else none
    | v => if notLc v then (trMif n c (c.M.contains x) v).map fun cv => .asg (.name i) cv else none
    else none
def parOk (c : TC) (ps : List (Str × Pos)) (vs : List Expr) : Bool := match ps with
  | [(x, px), (y, py)] => c.isLocal x && c.isLocal y && (py.line == px.line) && !(x == y) && vs.all notStar && !(vs.all (foldedForSure 8)) && !(vs.all (constantsAlone 8))
  | [(x, px), (y, py), (z, pz)] => c.isLocal x && c.isLocal y && c.isLocal z && (py.line == px.line) && (pz.line == px.line) && !(x == y) && !(x == z) && !(y == z) && vs.all notStar && !(vs.all (foldedForSure 8)) && !(vs.all (constantsAlone 8))
  | _ => false
/-- the values of several names -/
def trMs (n : Nat) (c : TC) : List Expr → List Expr → Option (List CE)
  | [], [] => some []
  | .Name x _ :: ts, v :: vs => if notStar v then (trMif n c (c.M.contains x) v).bind fun cv => (trMs n c ts vs).map (cv :: ·) else none
  | _, _ => none
/-- names = values -/
def trPar (n : Nat) (c : TC) (ts vs : List Expr) : Option CS := match ts, vs with
  | [.Name x px, .Name y py], [a, b] => if parOk c [(x, px), (y, py)] [a, b] then
      (slotAt c.N x).bind fun i => (slotAt c.N y).bind fun j => if i = j then none else (trMif n c (c.M.contains x) a).bind fun ca => (trMif n c (c.M.contains y) b).map fun cb => .par [i, j] [ca, cb]
      else none
  | [.Name x px, .Name y py, .Name z pz], [a, b, d] => if parOk c [(x, px), (y, py), (z, pz)] [a, b, d] then
      (slotAt c.N x).bind fun i => (slotAt c.N y).bind fun j => (slotAt c.N z).bind fun l => if i = j ∨ i = l ∨ j = l then none else
        (trMif n c (c.M.contains x) a).bind fun ca => (trMif n c (c.M.contains y) b).bind fun cb => (trMif n c (c.M.contains z) d).map fun cd => .par [i, j, l] [ca, cb, cd]
      else none
  | _, _ => none
def augOk : BOp → Bool
  | .add => true
  | .sub => true
  | .mul => true
  | .mod => true
  | _ => false
def lineOf : Stmt → Nat
  | .Assign _ _ p => p.line
  | .Expr _ p => p.line
  | .For _ _ _ _ p => p.line
  | .While _ _ _ p => p.line
  | .If _ _ _ p => p.line
  | .AugAssign _ _ _ p => p.line
  | _ => 0
def addFz (l : Nat) : List (Nat × Nat) → List CS → List CS
  | [], cs => cs
  | (k, i) :: r, cs => if k = l then .frzV i :: addFz l r cs else addFz l r cs
mutual
def trS : Nat → TC → Stmt → Option CS
  | 0, _, _ => none
  | n + 1, c, s => match s with
    | .Pass _ => some .pass
    | .Break _ => some .brk
    | .Continue _ => some .cont
    | .Raise _ _ _ => some .never
    | .Return none _ => some .retN
    | .Return (some e) _ => (trMif n c c.keep e).map .ret
    | .Expr e _ => if notLc e then (trE n c e).map .ex else none
    | .Assign [.Name x px] v _ => trSet n c x px v
    | .Assign [.Tuple ts kt pt] v _ => match v with
      | .Tuple vs _ _ =>
        if !(ts.length == 2 || ts.length == 3) || vs.length != ts.length || vs.all (foldedForSure 8) then (trG n c (.Tuple ts kt pt)).bind fun t => match trMs n c ts vs with
          | some cvs => some (.asg t (.tup cvs))
          | none => (trE n c v).map fun cv => .asg t cv
        else trPar n c ts vs
      | v => if notLc v then (trG n c (.Tuple ts kt pt)).bind fun t => (trE n c v).map fun cv => .asg t cv else none
    | .Assign [.Subscript o i _] v _ => if notSlice i && notLc v then (trE n c o).bind fun co => (trE n c i).bind fun ci => (trE n c v).map fun cv => .setix co ci (frzIf (isName c.M v) cv) else none
    | .AugAssign (.Name x _) op v _ => (binOf op).bind fun o => if augOk o && c.loc x then (slotAt c.N x).bind fun i => (trE n c v).map fun cv => .aug i o cv else none
    | .If t a b _ => (trE n c t).bind fun ct => (trSs n c a).bind fun ca => (trSs n c b).map fun cb => .ite ct ca cb
    | .For tg it body [] _ => (trG n c tg).bind fun t => (trI n c tg it).bind fun ci => (trSs n c body).map fun cb => .for_ t ci cb
    | .While t body [] _ => (trE n c t).bind fun ct => (trSs n c body).map fun cb => .while_ ct cb
    | _ => none
def trSs : Nat → TC → List Stmt → Option (List CS)
  | 0, _, _ => none
  | n + 1, c, ss => match ss with
    | [] => some []
    | s :: r => (trS n c s).bind fun cs => (trSs n c r).map fun cr => cs :: addFz (lineOf s) c.fz cr
end
section
variable {Γ : Fns} {con : Nat → Option D} {n : Nat} {c : TC} {X : Cx} {F : Nat} {pos : Pos}
theorem CxOk.isLocal {x : Str} (ok : CxOk Γ con X c) (h : c.isLocal x = true) : X.env.scope.names.lookup x = some .local := by
  unfold TC.isLocal at h
  rw [ok.nm]
  split at h
  · assumption
  · cases h
theorem CxOk.blockKind (ok : CxOk Γ con X c) : X.env.blockKind = .function := by
  unfold Env.blockKind
  rw [ok.kind]
  rfl
theorem trM_ok {e : Expr} {ce : CE} (h : trM n c e = some ce) (ok : CxOk Γ con X c) : PE X e (tE X.K Γ con ce) := by
  have gen : ∀ {e : Expr} {ce : CE}, trE n c e = some ce → PE X e (tE X.K Γ con ce) := fun h => ((trOk n).E h ok).1
  unfold trM at h
  split at h
  · obtain ⟨hs, h⟩ := oi h
    obtain ⟨cs, h1, rfl⟩ := om h
    exact pd_lstM (((trOk n).Es h1 ok).1.pa hs)
  · rcases ite2 h with ⟨⟨hf, hg, hs, _⟩, h⟩ | ⟨_, h⟩
    · obtain ⟨ca, h1, rfl⟩ := om h
      subst hf
      exact pd_copyM (ok.glb hg).1 (ok.blt _ (by decide +kernel)) (gen h1) (star1 hs)
    · exact gen h
  · obtain ⟨rfl, h⟩ := oi h
    obtain ⟨ci, h1, h⟩ := ob h
    obtain ⟨⟨t, test, ce', own⟩, h2, rfl⟩ := om h
    obtain ⟨i1, i2⟩ := (trOk n).I h1 ok
    obtain ⟨l1, l2, _⟩ := (trOk n).L h2 ok
    exact pd_compM l1 i1 l2 i2
  · exact gen h
theorem trMif_ok {m : Bool} {e : Expr} {ce : CE} (h : trMif n c m e = some ce) (ok : CxOk Γ con X c) : PE X e (tE X.K Γ con ce) := by
  unfold trMif at h
  rcases ite2 h with ⟨_, h⟩ | ⟨_, h⟩
  · exact trM_ok h ok
  · exact ((trOk n).E h ok).1
theorem trMs_ok (ok : CxOk Γ con X c) : ∀ {ts vs : List Expr} {cvs : List CE}, trMs n c ts vs = some cvs → PEl Γ con X vs cvs ∧ vs.all notStar = true
  | [], [], cvs, h => by cases h; exact ⟨.nil, rfl⟩
  | .Name x p :: ts, v :: vs, cvs, h => by
    obtain ⟨hs, h⟩ := oi (show (if notStar v then (trMif n c (c.M.contains x) v).bind fun cv => (trMs n c ts vs).map (cv :: ·) else none) = some cvs from h)
    obtain ⟨cv, h1, h⟩ := ob h
    obtain ⟨cr, h2, rfl⟩ := om h
    obtain ⟨i1, i2⟩ := trMs_ok ok h2
    exact ⟨.cons (trMif_ok h1 ok) i1, by rw [List.all_cons, hs, i2]; rfl⟩
  | [], _ :: _, cvs, h => by cases h
  | .Name x p :: ts, [], cvs, h => by cases h
theorem swap_no {v : Expr} {t : Option Expr} {l : Nat} {env : PySem.Env} (h : notLc v = true) : swapsWith v t l env = pure false := by
  cases v <;> first | rfl | cases h
theorem swap_lc {elt : Expr} {gs : List Comprehension} {sc : Scope} {p px : Pos} {x : Str} {l : Nat} (ok : CxOk Γ con X c) (hl : c.isLocal x = true) : swapsWith (.ListComp elt gs sc p) (some (.Name x px)) l X.env = pure (swB c x px p sc) := by
  have e : swapsWith (.ListComp elt gs sc p) (some (.Name x px)) l X.env = pure (X.env.blockKind == .function && X.env.kindOf x == some .local && px.line == p.line && !(sc.names.any fun (n, k) => n == x && (k == .local || k == .cell))) := rfl
  rw [e, ok.blockKind]
  unfold Env.kindOf swB
  rw [ok.isLocal hl, hl]
  rfl
theorem trSet_ok {x : Str} {px : Pos} {v : Expr} {cs : CS} (h : trSet n c x px v = some cs) (ok : CxOk Γ con X c) : PS X (.Assign [.Name x px] v pos) (tS X.K Γ con F cs) := by
  unfold trSet at h
  cases hi : slotAt c.N x with
  | none => rw [hi] at h; cases h
  | some i =>
    simp only [hi] at h
    obtain ⟨hl, h⟩ := oi h
    obtain ⟨l1, l2⟩ := ok.loc hl
    have hN : X.N.Nodup := by rw [ok.N]; exact ok.nd
    have hx : X.N[i]? = some x := by rw [ok.N]; exact slotAt_ok hi
    split at h
    · obtain ⟨⟨rfl, hloc⟩, h⟩ := oi h
      rcases ite2 h with ⟨hb, h⟩ | ⟨hb, h⟩
      · obtain ⟨ci, h1, h⟩ := ob h
        obtain ⟨⟨t, test, ce', own⟩, h2, rfl⟩ := om h
        obtain ⟨i1, i2⟩ := (trOk n).I h1 ok
        obtain ⟨k1, k2, _⟩ := (trOk n).L h2 ok
        by_cases hm : c.M.contains x = true
        · simp only [hm, if_true]; exact pd_setLcM k1 i1 k2 i2 hx (ok.isLocal hloc) (by rw [swap_lc ok hloc, hb])
        · simp only [hm]; exact pd_setLc k1 i1 k2 i2 hx (ok.isLocal hloc) (by rw [swap_lc ok hloc, hb])
      · obtain ⟨cv, h1, rfl⟩ := om h
        exact pd_set hN hx l1 l2 (trMif_ok h1 ok) (by rw [swap_lc ok hloc]; simp [hb])
    · obtain ⟨hn, h⟩ := oi h
      obtain ⟨cv, h1, rfl⟩ := om h
      exact pd_set hN hx l1 l2 (trMif_ok h1 ok) (swap_no hn)
end
end En

set_option Elab.async false
set_option linter.all false
set_option maxRecDepth 100000
set_option maxHeartbeats 4000000
namespace En
open PySem PySem.Spec PyProof.Rows L2
section
variable {Γ : Fns} {con : Nat → Option D} {n : Nat} {c : TC} {X : Cx} {F : Nat} {pos : Pos}
theorem sw_none {ts vs : List Expr} {kt k2 : Nat} {pt pt2 : Pos} {env : PySem.Env} (h : (!(ts.length == 2 || ts.length == 3) || vs.length != ts.length || vs.all (foldedForSure 8)) = true) : swappedStores [.Tuple ts kt pt] (.Tuple vs k2 pt2) env = pure none := by
  unfold swappedStores
  simp only [Bool.or_eq_true] at h
  rcases h with (h | h) | h
  · simp [h]
  · simp [h]
  · by_cases h1 : (!(ts.length == 2 || ts.length == 3) || vs.length != ts.length || env.blockKind != .function) = true
    · simp only [h1]; rfl
    · simp only [h1, h]
      simp only [Bool.false_eq_true, if_false, if_true]
      split <;> (try split) <;> (try split) <;> rfl
theorem sw_other {ts : List Expr} {v : Expr} {kt : Nat} {pt : Pos} {env : PySem.Env} (h : notTup v = true) : swappedStores [.Tuple ts kt pt] v env = pure none := by
  cases v <;> first | rfl | cases h
def isStar : Expr → Bool
  | .Starred _ _ => true
  | _ => false
def nameIn (env : PySem.Env) (line : Nat) : Expr → Option Str
  | .Name id pos => if env.kindOf id == some .local && pos.line == line then some id else none
  | _ => none
theorem sw_gen {ts vs : List Expr} {kt k2 : Nat} {pt pt2 : Pos} {env : PySem.Env} {names : List Str} (h1 : (!(ts.length == 2 || ts.length == 3) || vs.length != ts.length || env.blockKind != .function) = false) (h2 : vs.any isStar = false)
    (hn : ts.filterMap (nameIn env ((ts.head?.map (·.pos.line)).getD 0)) = names) (h3 : (names.length != ts.length || names.eraseDups.length != names.length) = false) (h4 : vs.all (foldedForSure 8) = false) (h5 : vs.all (constantsAlone 8) = false) :
    swappedStores [.Tuple ts kt pt] (.Tuple vs k2 pt2) env = pure (some names) := by
  have e : swappedStores [.Tuple ts kt pt] (.Tuple vs k2 pt2) env = (if (!(ts.length == 2 || ts.length == 3) || vs.length != ts.length || env.blockKind != .function) = true then pure none else if vs.any isStar = true then pure none else
      if ((ts.filterMap (nameIn env ((ts.head?.map (·.pos.line)).getD 0))).length != ts.length || (ts.filterMap (nameIn env ((ts.head?.map (·.pos.line)).getD 0))).eraseDups.length != (ts.filterMap (nameIn env ((ts.head?.map (·.pos.line)).getD 0))).length) = true then pure none else
      if vs.all (foldedForSure 8) = true then pure none else if vs.all (constantsAlone 8) = true then (unsupported "assign.tuple-of-constant-expressions:order-of-the-stores" : Sem PUnit) >>= fun _ => pure (some (ts.filterMap (nameIn env ((ts.head?.map (·.pos.line)).getD 0)))) else pure (some (ts.filterMap (nameIn env ((ts.head?.map (·.pos.line)).getD 0))))) := by
    unfold swappedStores
    rfl
  rw [e, hn, h1, h2, h3, h4, h5]
  rfl
theorem not_star : ∀ {vs : List Expr}, vs.all notStar = true → vs.any isStar = false
  | [], _ => rfl
  | v :: vs, h => by
    simp only [List.all_cons, Bool.and_eq_true] at h
    rw [List.any_cons, not_star h.2]
    cases v <;> first | rfl | cases h.1
theorem sw2 {x y : Str} {px py pt pt2 : Pos} {kt k2 : Nat} {a b : Expr} {env : PySem.Env} (hb : env.blockKind = .function) (hx : env.kindOf x = some .local) (hy : env.kindOf y = some .local) (hl : (py.line == px.line) = true) (hne : x ≠ y) (hs : [a, b].all notStar = true)
    (h1 : ([a, b].all (foldedForSure 8)) = false) (h2 : ([a, b].all (constantsAlone 8)) = false) : swappedStores [.Tuple [.Name x px, .Name y py] kt pt] (.Tuple [a, b] k2 pt2) env = pure (some [x, y]) := by
  refine sw_gen (by rw [hb]; rfl) (not_star hs) ?_ ?_ h1 h2
  · have n1 : nameIn env px.line (.Name x px) = some x := by show (if (env.kindOf x == some .local && px.line == px.line) = true then some x else none) = _; rw [hx]; simp
    have n2 : nameIn env px.line (.Name y py) = some y := by show (if (env.kindOf y == some .local && py.line == px.line) = true then some y else none) = _; rw [hy, hl]; simp
    show List.filterMap (nameIn env px.line) _ = _
    rw [List.filterMap_cons_some n1, List.filterMap_cons_some n2]; rfl
  · have du : ([x, y] : List Str).eraseDups.length = 2 := by simp [List.eraseDups_cons, hne, Ne.symm hne]
    rw [du]; rfl
theorem sw3 {x y z : Str} {px py pz pt pt2 : Pos} {kt k2 : Nat} {a b d : Expr} {env : PySem.Env} (hb : env.blockKind = .function) (hx : env.kindOf x = some .local) (hy : env.kindOf y = some .local) (hz : env.kindOf z = some .local) (hl : (py.line == px.line) = true) (hl2 : (pz.line == px.line) = true)
    (hne : x ≠ y) (hne2 : x ≠ z) (hne3 : y ≠ z) (hs : [a, b, d].all notStar = true) (h1 : ([a, b, d].all (foldedForSure 8)) = false) (h2 : ([a, b, d].all (constantsAlone 8)) = false) :
    swappedStores [.Tuple [.Name x px, .Name y py, .Name z pz] kt pt] (.Tuple [a, b, d] k2 pt2) env = pure (some [x, y, z]) := by
  refine sw_gen (by rw [hb]; rfl) (not_star hs) ?_ ?_ h1 h2
  · have n1 : nameIn env px.line (.Name x px) = some x := by show (if (env.kindOf x == some .local && px.line == px.line) = true then some x else none) = _; rw [hx]; simp
    have n2 : nameIn env px.line (.Name y py) = some y := by show (if (env.kindOf y == some .local && py.line == px.line) = true then some y else none) = _; rw [hy, hl]; simp
    have n3 : nameIn env px.line (.Name z pz) = some z := by show (if (env.kindOf z == some .local && pz.line == px.line) = true then some z else none) = _; rw [hz, hl2]; simp
    show List.filterMap (nameIn env px.line) _ = _
    rw [List.filterMap_cons_some n1, List.filterMap_cons_some n2, List.filterMap_cons_some n3]; rfl
  · have du : ([x, y, z] : List Str).eraseDups.length = 3 := by simp [List.eraseDups_cons, hne, hne2, hne3, Ne.symm hne, Ne.symm hne2, Ne.symm hne3]
    rw [du]; rfl
theorem trPar_ok {ts vs : List Expr} {kt k2 : Nat} {pt pt2 : Pos} {cs : CS} (h : trPar n c ts vs = some cs) (ok : CxOk Γ con X c) : PS X (.Assign [.Tuple ts kt pt] (.Tuple vs k2 pt2) pos) (tS X.K Γ con F cs) := by
  have hN : X.N.Nodup := by rw [ok.N]; exact ok.nd
  have sl : ∀ {x : Str} {i : Nat}, slotAt c.N x = some i → X.N[i]? = some x := fun h => by rw [ok.N]; exact slotAt_ok h
  unfold trPar at h
  split at h
  · obtain ⟨hp, h⟩ := oi h
    obtain ⟨i, h1, h⟩ := ob h
    obtain ⟨j, h2, h⟩ := ob h
    rcases ite2 h with ⟨_, h⟩ | ⟨hij, h⟩
    · cases h
    · obtain ⟨ca, h3, h⟩ := ob h
      obtain ⟨cb, h4, rfl⟩ := om h
      unfold parOk at hp
      simp only [Bool.and_eq_true, Bool.not_eq_true'] at hp
      obtain ⟨⟨⟨⟨⟨⟨p1, p2⟩, p3⟩, p4⟩, p5⟩, p6⟩, p7⟩ := hp
      have hs := p5
      simp only [List.all_cons, Bool.and_eq_true] at hs
      exact pd_par2 ok.calm hN (sl h1) (sl h2) hij (ok.isLocal p1) (ok.isLocal p2) ((PEl.cons (trMif_ok h3 ok) (.cons (trMif_ok h4 ok) .nil)).pa p5)
        (sw2 ok.blockKind (ok.isLocal p1) (ok.isLocal p2) p3 (by simpa using p4) p5 p6 p7)
  · obtain ⟨hp, h⟩ := oi h
    obtain ⟨i, h1, h⟩ := ob h
    obtain ⟨j, h2, h⟩ := ob h
    obtain ⟨l, h2', h⟩ := ob h
    rcases ite2 h with ⟨_, h⟩ | ⟨hij, h⟩
    · cases h
    · obtain ⟨ca, h3, h⟩ := ob h
      obtain ⟨cb, h4, h⟩ := ob h
      obtain ⟨cd, h5, rfl⟩ := om h
      unfold parOk at hp
      simp only [Bool.and_eq_true, Bool.not_eq_true'] at hp
      obtain ⟨⟨⟨⟨⟨⟨⟨⟨⟨⟨p1, p2⟩, p3⟩, l1⟩, l2⟩, e1⟩, e2⟩, e3⟩, p5⟩, p6⟩, p7⟩ := hp
      exact pd_par3 ok.calm hN (sl h1) (sl h2) (sl h2') (fun z => hij (.inl z)) (fun z => hij (.inr (.inl z))) (fun z => hij (.inr (.inr z))) (ok.isLocal p1) (ok.isLocal p2) (ok.isLocal p3)
        ((PEl.cons (trMif_ok h3 ok) (.cons (trMif_ok h4 ok) (.cons (trMif_ok h5 ok) .nil))).pa p5)
        (sw3 ok.blockKind (ok.isLocal p1) (ok.isLocal p2) (ok.isLocal p3) l1 l2 (by simpa using e1) (by simpa using e2) (by simpa using e3) p5 p6 p7)
  · cases h
theorem addFz_ok {l : Nat} {sts : List Stmt} : ∀ {fz : List (Nat × Nat)} {cs : List CS}, PSs X sts (tSs X.K Γ con F cs) → PSs X sts (tSs X.K Γ con F (addFz l fz cs))
  | [], cs, h => h
  | (k, i) :: r, cs, h => by
    unfold addFz
    split
    · exact pds_frz (addFz_ok h)
    · exact addFz_ok h
end
end En

set_option Elab.async false
set_option linter.all false
set_option maxRecDepth 100000
set_option maxHeartbeats 4000000
namespace En
open PySem PySem.Spec PyProof.Rows L2
section
variable {Γ : Fns} {con : Nat → Option D} {n : Nat} {c : TC} {X : Cx} {F : Nat} {pos : Pos}
theorem sole_no {v t : Expr} {l : Nat} {env : PySem.Env} (h : notLc v = true) : swapsWithSole [t] v l env = pure false := swap_no (t := some t) h
theorem trS_tup (ok : CxOk Γ con X c) {ts : List Expr} {kt : Nat} {pt : Pos} {v : Expr} {cs : CS} (h : (match v with
      | .Tuple vs _ _ =>
        if !(ts.length == 2 || ts.length == 3) || vs.length != ts.length || vs.all (foldedForSure 8) then (trG n c (.Tuple ts kt pt)).bind fun t => match trMs n c ts vs with
          | some cvs => some (CS.asg t (.tup cvs))
          | none => (trE n c v).map fun cv => .asg t cv
        else trPar n c ts vs
      | v => if notLc v then (trG n c (.Tuple ts kt pt)).bind fun t => (trE n c v).map fun cv => .asg t cv else none) = some cs) : PS X (.Assign [.Tuple ts kt pt] v pos) (tS X.K Γ con F cs) := by
  split at h
  · rcases ite2 h with ⟨hb, h⟩ | ⟨_, h⟩
    · obtain ⟨t, h1, h⟩ := ob h
      split at h
      · rename_i cvs hm
        cases h
        obtain ⟨i1, i2⟩ := trMs_ok ok hm
        exact pd_asg (pd_tup (i1.pa i2)) ((trG_ok n).1 _ t h1 ok) rfl (sw_none hb) rfl
      · obtain ⟨cv, h2, rfl⟩ := om h
        exact pd_asg ((trOk n).E h2 ok).1 ((trG_ok n).1 _ t h1 ok) rfl (sw_none hb) rfl
    · exact trPar_ok h ok
  · rename_i hnt
    obtain ⟨hb, h⟩ := oi h
    obtain ⟨t, h1, h⟩ := ob h
    obtain ⟨cv, h2, rfl⟩ := om h
    refine pd_asg ((trOk n).E h2 ok).1 ((trG_ok n).1 _ t h1 ok) (sole_no hb) (sw_other ?_) rfl
    cases v <;> first | rfl | exact absurd rfl (hnt _ _ _)
theorem trS_ok : ∀ (n : Nat), (∀ {s : Stmt} {cs : CS}, trS n c s = some cs → CxOk Γ con X c → PS X s (tS X.K Γ con F cs)) ∧ (∀ {ss : List Stmt} {cs : List CS}, trSs n c ss = some cs → CxOk Γ con X c → PSs X ss (tSs X.K Γ con F cs))
  | 0 => by
    refine ⟨fun {s cs} h => ?_, fun {s cs} h => ?_⟩ <;> cases h
  | n + 1 => by
    obtain ⟨ih1, ih2⟩ := trS_ok n
    refine ⟨fun {s cs} h ok => ?_, fun {ss cs} h ok => ?_⟩
    · have hN : X.N.Nodup := by rw [ok.N]; exact ok.nd
      have un := ok.un
      cases s with
      | Pass p => have h' : some CS.pass = some cs := h; cases h'; exact pd_pass
      | Break p => have h' : some CS.brk = some cs := h; cases h'; exact pd_break
      | Continue p => have h' : some CS.cont = some cs := h; cases h'; exact pd_continue
      | Raise a b p => have h' : some CS.never = some cs := h; cases h'; exact pd_never
      | Return v p =>
        cases v with
        | none => have h' : some CS.retN = some cs := h; cases h'; exact pd_retN
        | some e =>
          obtain ⟨ce, h1, rfl⟩ := om (show (trMif n c c.keep e).map CS.ret = some cs from h)
          exact pd_ret (trMif_ok h1 ok)
      | Expr e p =>
        obtain ⟨hn, h⟩ := oi (show (if notLc e then (trE n c e).map CS.ex else none) = some cs from h)
        obtain ⟨ce, h1, rfl⟩ := om h
        exact pd_ex ((trOk n).E h1 ok).1 (swap_no hn)
      | Assign ts v p =>
        rcases ts with _ | ⟨t, _ | ⟨t', ts⟩⟩
        · cases h
        · cases t with
          | Name x px => exact trSet_ok h ok
          | Tuple ts kt pt => exact trS_tup ok h
          | Subscript o i tp =>
            obtain ⟨hh, h⟩ := oi (show (if notSlice i && notLc v then (trE n c o).bind fun co => (trE n c i).bind fun ci => (trE n c v).map fun cv => CS.setix co ci (frzIf (isName c.M v) cv) else none) = some cs from h)
            simp only [Bool.and_eq_true] at hh
            obtain ⟨co, h1, h⟩ := ob h
            obtain ⟨ci, h2, h⟩ := ob h
            obtain ⟨cv, h3, rfl⟩ := om h
            refine pd_setix (by omega) ((trOk n).E h1 ok).1 ((trOk n).E h2 ok).1 (pd_frzIf ((trOk n).E h3 ok).1) (fun w => ?_) (sole_no hh.2) rfl rfl
            have hi := hh.1
            cases i <;> first | rfl | cases hi
          | _ => cases h
        · cases t <;> cases h
      | AugAssign t op v p =>
        cases t with
        | Name x px =>
          obtain ⟨o, h1, h⟩ := ob (show ((binOf op).bind fun o => if augOk o && c.loc x then (slotAt c.N x).bind fun i => (trE n c v).map fun cv => CS.aug i o cv else none) = some cs from h)
          obtain ⟨hh, h⟩ := oi h
          simp only [Bool.and_eq_true] at hh
          obtain ⟨i, h2, h⟩ := ob h
          obtain ⟨cv, h3, rfl⟩ := om h
          obtain rfl := binOf_ok h1
          obtain ⟨l1, l2⟩ := ok.loc hh.2
          refine pd_aug ?_ hN (by rw [ok.N]; exact slotAt_ok h2) l1 l2 ((trOk n).E h3 ok).1
          have ha := hh.1
          cases o <;> first | exact .inl rfl | exact .inr (.inl rfl) | exact .inr (.inr (.inl rfl)) | exact .inr (.inr (.inr rfl)) | cases ha
        | _ => cases h
      | If t a b p =>
        obtain ⟨ct, h1, h⟩ := ob (show ((trE n c t).bind fun ct => (trSs n c a).bind fun ca => (trSs n c b).map fun cb => CS.ite ct ca cb) = some cs from h)
        obtain ⟨ca, h2, h⟩ := ob h
        obtain ⟨cb, h3, rfl⟩ := om h
        exact pd_if ((trOk n).E h1 ok).2 (ih2 h2 ok) (ih2 h3 ok)
      | For tg it body els p =>
        cases els with
        | nil =>
          obtain ⟨t, h1, h⟩ := ob (show ((trG n c tg).bind fun t => (trI n c tg it).bind fun ci => (trSs n c body).map fun cb => CS.for_ t ci cb) = some cs from h)
          obtain ⟨ci, h2, h⟩ := ob h
          obtain ⟨cb, h3, rfl⟩ := om h
          obtain ⟨i1, i2⟩ := (trOk n).I h2 ok
          exact pd_for ok.pass ok.calm i1 ((trG_ok n).1 tg t h1 ok) (ih2 h3 ok) i2
        | cons _ _ => cases h
      | While t body els p =>
        cases els with
        | nil =>
          obtain ⟨ct, h1, h⟩ := ob (show ((trE n c t).bind fun ct => (trSs n c body).map fun cb => CS.while_ ct cb) = some cs from h)
          obtain ⟨cb, h2, rfl⟩ := om h
          exact pd_while ok.pass ((trOk n).E h1 ok).2 (ih2 h2 ok)
        | cons _ _ => cases h
      | _ => cases h
    · cases ss with
      | nil => have h' : some ([] : List CS) = some cs := h; cases h'; exact pds_nil
      | cons s r =>
        obtain ⟨cs', h1, h⟩ := ob (show ((trS n c s).bind fun cs => (trSs n c r).map fun cr => cs :: addFz (lineOf s) c.fz cr) = some cs from h)
        obtain ⟨cr, h2, rfl⟩ := om h
        exact pds_cons (ih1 h1 ok) (addFz_ok (ih2 h2 ok))
end
end En

set_option Elab.async false
set_option linter.all false
set_option maxRecDepth 100000
set_option maxHeartbeats 4000000
namespace En
open PySem PySem.Spec PyProof.Rows L2
inductive AllP {α : Type} (P : α → Prop) : List α → Prop
  | nil : AllP P []
  | cons {a : α} {l : List α} : P a → AllP P l → AllP P (a :: l)
theorem AllP.get {α : Type} {P : α → Prop} : ∀ {l : List α} {i : Nat} {a : α}, AllP P l → l[i]? = some a → P a := by
  intro l i a h
  induction h generalizing i with
  | nil => intro e; simp at e
  | cons h _ ih =>
    intro e
    cases i with
    | zero => simp at e; subst e; exact h
    | succ i => exact ih (by simpa using e)
/-- a def of the text and its code -/
structure Row where
  x : Str
  st : Stmt
  fn : Fn
  N : List Str
  ps : List Str
  M : List Str
  fz : List (Nat × Nat)
def tcOf (G : List (Str × GK)) (r : Row) : TC := ⟨r.N, (defScope r.st).names, none, G, r.M, r.fn.keep, r.fz⟩
structure RowChk (G : List (Str × GK)) (fuel : Nat) (r : Row) : Prop where
  tr : trSs fuel (tcOf G r) (defBody r.st) = some r.fn.body
  sc : FnScope r.N r.ps (defScope r.st)
  np : r.fn.np = r.ps.length
  ns : r.fn.ns = r.N.length
/-- what the module holds of a def: its object, and how its arguments bind -/
structure RowOk (K : PySem.W.Frag) (mg : Str → Option Value) (r : Row) (f : Addr) (fd : FuncData) : Prop where
  gl : mg r.x = some (.ref f)
  kp : PySem.W.keepIn K (.ref f) = true
  ex : ∃ (oc : Value) (od : Option Addr) (dV kV doc pm : Value) (an : Option Addr) (cdv ct : Value) (osl : Array (Option Value)),
    fd = PySem.W.fnOf r.x r.x (defArgs r.st) (defBody r.st) (defScope r.st) dV kV doc pm an cdv ct ∧ K.lookup f = some ⟨oc, od, .func fd, osl⟩ ∧ PySem.W.codeIn K cdv r.x = true
  bn : ∀ m, m ≤ r.fn.np → r.fn.np ≤ m + r.fn.defs.length → ∃ dvs dsv, Vals dvs dsv ∧ Binds K fd r.ps dsv ∧ ∀ as H, DReps K as H dvs (r.fn.defs.drop (m + r.fn.defs.length - r.fn.np))
def HasCon (K : PySem.W.Frag) (mg : Str → Option Value) (x : Str) (d : D) : Prop := ∃ u v, mg x = some u ∧ RelV v u ∧ ∀ as H, DRep K as H v d
def conOf (cons : List (Str × D)) (i : Nat) : Option D := (cons[i]?).map (·.2)
/-- a class of errors of the module -/
def ErrM (P : Program) (K : PySem.W.Frag) (mg : Str → Option Value) (x : Str) : Prop := ∃ fI Dc C, IniF P K fI Dc ∧ ErrC K fI Dc C ∧ ErrK K x C ∧ mg x = some (.ref C)
/-- the module's names against its tables -/
def gC (rows : List Row) (cons : List (Str × D)) (errs : List Str) (G : List (Str × GK)) : Bool := G.all fun p => match p.2 with
  | .con i => match cons[i]? with
    | some q => decide (q.1 = p.1)
    | none => false
  | .err => errs.contains p.1
  | .fn i np nd => match rows[i]? with
    | some r => decide (r.x = p.1) && decide (r.fn.np = np) && decide (r.fn.defs.length = nd)
    | none => false
theorem lookup_mem {α : Type} {l : List (Str × α)} {x : Str} {a : α} (h : l.lookup x = some a) : (x, a) ∈ l := by
  induction l with
  | nil => cases h
  | cons p r ih =>
    obtain ⟨y, b⟩ := p
    rw [List.lookup_cons] at h
    split at h
    · rename_i e
      cases h
      have : x = y := by simpa using e
      subst this
      exact List.mem_cons_self ..
    · exact List.mem_cons_of_mem _ (ih h)
section
variable {P : Program} {w : World} {K : PySem.W.Frag} {mg : Str → Option Value} {rows : List Row} {cons : List (Str × D)} {errs : List Str} {G : List (Str × GK)} {fuel F : Nat}
structure ModOk (P : Program) (K : PySem.W.Frag) (mg : Str → Option Value) (rows : List Row) (cons : List (Str × D)) (errs : List Str) (G : List (Str × GK)) (fuel : Nat) : Prop where
  chk : AllP (RowChk G fuel) rows
  row : AllP (fun r => ∃ f fd, RowOk K mg r f fd) rows
  con : AllP (fun p => HasCon K mg p.1 p.2) cons
  g : gC rows cons errs G = true
  err : AllP (ErrM P K mg) errs
  blt : ∀ x ∈ bltNames, mg x = none
theorem AllP.mem {α : Type} {Q : α → Prop} : ∀ {l : List α} {a : α}, AllP Q l → a ∈ l → Q a := by
  intro l a h
  induction h with
  | nil => intro e; cases e
  | cons h _ ih =>
    intro e
    rcases List.mem_cons.mp e with rfl | e
    · exact h
    · exact ih e
theorem ModOk.errG (mo : ModOk P K mg rows cons errs G fuel) {x : Str} (hl : G.lookup x = some .err) : ErrM P K mg x := by
  have hm := List.all_eq_true.mp mo.g _ (lookup_mem hl)
  exact mo.err.mem (by simpa using hm)
theorem ModOk.levels (mo : ModOk P K mg rows cons errs G fuel) : ∀ (k : Nat) (base : Heap) (i : Nat) (r : Row) (f : Addr) (fd : FuncData), rows[i]? = some r → RowOk K mg r f fd →
    FnG P w K mg base (k + 1) f fd r.ps (spF K r.fn.np (runBody (callN (rows.map Row.fn) (conOf cons) F k) (conOf cons) F r.fn)) := by
  intro k
  induction k with
  | zero => ?_
  | succ k ih => ?_
  all_goals
    intro base i r f fd hi ro
    obtain ⟨oc, od, dV, kV, doc, pm, an, cdv, ct, osl, rfl, lk, hcd⟩ := ro.ex
    have ck := mo.chk.get hi
    refine fn_ofG lk hcd ck.sc ck.np ck.ns fun A outer s H hg hr => ?_
    refine (trS_ok fuel).2 ck.tr ⟨ck.sc.nd, rfl, rfl, ck.sc.kind, fun _ _ => rfl, rfl, hg, by have := hr.un; show (A.deeper _).units + 200 < cLine; omega, PassesOwn.never, mo.blt, fun x j hl => ?_, fun x j np nd hl => ?_, fun x hl => ⟨mo.errG hl⟩, by have := hr.dp; show (A.deeper _).depth + 1 < recursionLimit; omega⟩
    · have hm := List.all_eq_true.mp mo.g _ (lookup_mem hl)
      simp only at hm
      split at hm
      · rename_i q hq
        obtain ⟨y, d⟩ := q
        have : y = x := by simpa using hm
        subst this
        obtain ⟨u, v, h1, h2, h3⟩ := mo.con.get hq
        exact ⟨u, v, d, h1, h2, by unfold conOf; rw [hq]; rfl, h3⟩
      · cases hm
  · exact .inl fun ds st r h => by cases h
  · have hm := List.all_eq_true.mp mo.g _ (lookup_mem hl)
    simp only at hm
    split at hm
    · rename_i q hq
      simp only [Bool.and_eq_true, decide_eq_true_eq] at hm
      obtain ⟨⟨e1, e2⟩, e3⟩ := hm
      obtain ⟨f', fd', ro'⟩ := mo.row.get hq
      refine .inr ⟨k + 1, f', fd', q.ps, q.fn, callN (rows.map Row.fn) (conOf cons) F k, F, hr, by rw [← e1]; exact ro'.gl, ro'.kp, ?_, ih base j q f' fd' hq ro', e2, e3, fun m h1 h2 => ?_⟩
      · funext ds st
        show (match (rows.map Row.fn)[j]? with | some fn => runFn (callN (rows.map Row.fn) (conOf cons) F k) (conOf cons) F fn ds st | none => .bad) = _
        rw [List.getElem?_map, hq]
        rfl
      · exact ro'.bn m (by omega) (by omega)
    · cases hm
theorem thenE {p q : Prop} (h : p) (f : p → q) : q := f h
theorem blt_of {mg : Str → Option Value} (b0 : mg "len" = none) (b1 : mg "abs" = none) (b2 : mg "int" = none) (b3 : mg "tuple" = none) (b4 : mg "list" = none) (b5 : mg "all" = none) (b6 : mg "any" = none) (b7 : mg "sum" = none) (b8 : mg "max" = none) (b9 : mg "min" = none) (b10 : mg "sorted" = none) (b11 : mg "repr" = none) (b12 : mg "dict" = none) (b13 : mg "isinstance" = none) (b14 : mg "range" = none) (b15 : mg "zip" = none) (b16 : mg "enumerate" = none) (b17 : mg "bool" = none) (b18 : mg "str" = none) (b19 : mg "set" = none) (b20 : mg "ValueError" = none) (b21 : mg "super" = none) : ∀ x ∈ bltNames, mg x = none := fun x hx => by
  have h : x = "len" ∨ x = "abs" ∨ x = "int" ∨ x = "tuple" ∨ x = "list" ∨ x = "all" ∨ x = "any" ∨ x = "sum" ∨ x = "max" ∨ x = "min" ∨ x = "sorted" ∨ x = "repr" ∨ x = "dict" ∨ x = "isinstance" ∨ x = "range" ∨ x = "zip" ∨ x = "enumerate" ∨ x = "bool" ∨ x = "str" ∨ x = "set" ∨ x = "ValueError" ∨ x = "super" := by
    unfold bltNames at hx
    simpa only [List.mem_cons, List.not_mem_nil, or_false] using hx
  rcases h with rfl | rfl | rfl | rfl | rfl | rfl | rfl | rfl | rfl | rfl | rfl | rfl | rfl | rfl | rfl | rfl | rfl | rfl | rfl | rfl | rfl | rfl
  all_goals assumption
/-- a def with no defaults -/
theorem rowOk0 {r : Row} {f : Addr} {h : Heap} {oc : Value} {od an : Option Addr} {osl : Array (Option Value)} {kV doc pm cdv ct : Value} (X : K.In h) (Gm : h.Ns mainGlobals mg)
    (a : PySem.W.nsIn K mainGlobals r.x = some (some (.ref f))) (l : K.lookup f = some ⟨oc, od, .func (PySem.W.fnOf r.x r.x (defArgs r.st) (defBody r.st) (defScope r.st) .none kV doc pm an cdv ct), osl⟩) (c : PySem.W.codeIn K cdv r.x = true) (kp : PySem.W.keepIn K (.ref f) = true)
    (hd : r.fn.defs = []) (hnp : r.fn.np = r.ps.length) (hb : ∀ (kV doc pm : Value) (an : Option Addr) (cdv ct : Value) (us : List Value), us.length = r.ps.length → bindArgs (PySem.W.fnOf r.x r.x (defArgs r.st) (defBody r.st) (defScope r.st) .none kV doc pm an cdv ct) ⟨us, []⟩ = pure (r.ps.zip us)) :
    ∃ f fd, RowOk K mg r f fd := by
  refine ⟨f, _, PySem.W.mg_of X Gm a, kp, ⟨oc, od, .none, kV, doc, pm, an, cdv, ct, osl, rfl, l, c⟩, fun m h1 h2 => ⟨[], [], .nil, .all (hb kV doc pm an cdv ct), fun as H => ?_⟩⟩
  rw [hd]
  simp only [List.drop_nil]
  exact .nil
/-- a def with defaults -/
theorem rowOkD {r : Row} {f T : Addr} {h : Heap} {oc : Value} {od an : Option Addr} {osl : Array (Option Value)} {kV doc pm cdv ct : Value} {o : Obj} {its : List Value} {nn : Nat} {dvs : List V} (X : K.In h) (Gm : h.Ns mainGlobals mg)
    (a : PySem.W.nsIn K mainGlobals r.x = some (some (.ref f))) (l : K.lookup f = some ⟨oc, od, .func (PySem.W.fnOf r.x r.x (defArgs r.st) (defBody r.st) (defScope r.st) (.ref T) kV doc pm an cdv ct), osl⟩) (c : PySem.W.codeIn K cdv r.x = true) (kp : PySem.W.keepIn K (.ref f) = true)
    (lT : K.lookup T = some o) (oT : o.data = .seq its.toArray nn) (rT : Vals dvs its) (hne : dvs ≠ []) (hds : ∀ as H, DReps K as H dvs r.fn.defs) (hnp : r.fn.np = r.ps.length)
    (hb : ∀ m, m ≤ r.fn.np → r.fn.np ≤ m + r.fn.defs.length → ∀ (T : Addr) (kV doc pm : Value) (an : Option Addr) (cdv ct : Value) (us its : List Value), us.length = m → its.length = r.fn.defs.length →
      ∃ k, bindArgs (PySem.W.fnOf r.x r.x (defArgs r.st) (defBody r.st) (defScope r.st) (.ref T) kV doc pm an cdv ct) ⟨us, []⟩ = seqItems? (.ref T) >>= k ∧ k (some its.toArray) = pure (r.ps.zip (us ++ its.drop (m + r.fn.defs.length - r.fn.np)))) :
    ∃ f fd, RowOk K mg r f fd := by
  refine ⟨f, _, PySem.W.mg_of X Gm a, kp, ⟨oc, od, .ref T, kV, doc, pm, an, cdv, ct, osl, rfl, l, c⟩, fun m h1 h2 => ?_⟩
  have FD : FunD K r.x r.x (defArgs r.st) (defBody r.st) (defScope r.st) dvs [] f (PySem.W.fnOf r.x r.x (defArgs r.st) (defBody r.st) (defScope r.st) (.ref T) kV doc pm an cdv ct) :=
    ⟨⟨oc, od, .ref T, kV, doc, pm, an, cdv, ct, osl, rfl, l, c, .inr ⟨hne, T, o, its, nn, rfl, lT, oT, rT⟩, .inl rfl⟩, kp⟩
  have hl : dvs.length = r.fn.defs.length := (hds ⟨[], []⟩ fun _ => none).length
  obtain ⟨ds, v1, v2⟩ := FD.binds1 (ps := r.ps) m (m + r.fn.defs.length - r.fn.np) hne (by omega) fun T kV doc pm an cdv ct us its e1 e2 => hb m h1 h2 T kV doc pm an cdv ct us its e1 (by omega)
  exact ⟨_, ds, v1, v2, fun as H => (hds as H).drop _⟩
theorem con_int {h : Heap} {x : Str} {i : Int} {t : Tok} (X : K.In h) (Gm : h.Ns mainGlobals mg) (a : PySem.W.nsIn K mainGlobals x = some (some (.int i t))) : HasCon K mg x (.int i) := ⟨_, .int i, PySem.W.mg_of X Gm a, ⟨t, rfl⟩, fun _ _ => .int i⟩
theorem con_str {h : Heap} {x y : Str} {t : Tok} (X : K.In h) (Gm : h.Ns mainGlobals mg) (a : PySem.W.nsIn K mainGlobals x = some (some (.str y t))) : HasCon K mg x (.str y) := ⟨_, .str y, PySem.W.mg_of X Gm a, ⟨t, rfl⟩, fun _ _ => .str y⟩
theorem con_tup {h : Heap} {x : Str} {T : Addr} {o : Obj} {its : Array Value} {n : Nat} {vs : List V} {ds : List D} (X : K.In h) (Gm : h.Ns mainGlobals mg) (a : PySem.W.nsIn K mainGlobals x = some (some (.ref T))) (l : K.lookup T = some o) (hc : o.cls = .type "tuple") (hd : o.data = .seq its n) (hz : its.size ≤ sizeLine) (hv : Vals vs its.toList) (hr : ∀ as H, DReps K as H vs ds) :
    HasCon K mg x (.tup ds) := ⟨_, .ref T, PySem.W.mg_of X Gm a, rfl, fun as H => .tup (.inr ⟨o, its, n, l, hc, hd, hz, hv⟩) (by rw [hv.length]; simpa using hz) (hr as H)⟩
/-- the law's def, of all scripts -/
theorem law_row {h : Heap} {fa : Addr} {i k : Nat} {r : Row} {x : Str} (mo : ModOk P K mg rows cons errs G fuel) (hi : rows[i]? = some r) (hfa : mg r.x = some (.ref fa)) (hp : r.ps = [x]) (hnp : r.fn.np = 1) :
    ∃ fd : FuncData, (∀ (s : Shared) (u : Value), K.In s.heap → BindsTo s fd ⟨[u], []⟩ [(x, u)]) ∧ ∀ base : Heap, FnG P w K mg base (k + 1) fa fd [x] (spF K 1 (runBody (callN (rows.map Row.fn) (conOf cons) F k) (conOf cons) F r.fn)) := by
  obtain ⟨f, fd, ro⟩ := mo.row.get hi
  obtain rfl : f = fa := by have := ro.gl.symm.trans hfa; cases this; rfl
  refine ⟨fd, fun s u hk => ?_, fun base => ?_⟩
  · obtain ⟨dvs, dsv, v1, v2, v3⟩ := ro.bn 1 (by omega) (by omega)
    have e : dvs = [] := by
      have := (v3 ⟨[], []⟩ fun _ => none).length
      rw [List.length_drop] at this
      exact List.eq_nil_of_length_eq_zero (by omega)
    subst e
    cases v1
    have := v2 s [u] hk (by rw [hp]; rfl)
    rw [hp] at this
    exact this
  · have := mo.levels (P := P) (w := w) (F := F) k base i r f fd hi ro
    rw [hnp, hp] at this
    exact this
end
end En

set_option Elab.async false
set_option linter.all false
set_option maxRecDepth 100000
set_option maxHeartbeats 2000000
namespace En
open PySem PySem.Spec PyProof.Rows L2
def clsShape (K : PySem.W.Frag) (C CH : Addr) (x : Str) : Bool := match K.lookup C with
  | some ⟨.type "type", _, .cls cd, sl⟩ => (match cd.mro, sl.toList with
    | .ref C' :: bm, [_, _, _, _, some (.builtin n), _] => C' == C && n == "ValueError.__new__" && !cd.hasDel && cd.hasDict && (cd.name == x) && PySem.HandSPX.refsVE bm && (cd.mro == (if C == CH then .ref C :: PySem.HandSPX.veTail else .ref C :: .ref CH :: PySem.HandSPX.veTail))
    | _, _ => false)
  | _ => false
theorem clsShape_ok {K : PySem.W.Frag} {C CH : Addr} {x : Str} (h : clsShape K C CH x = true) : (∃ nm q N bs bm sn sub ab col dd k0 k1 k2 k3 k5,
      List.lookup C K = some (excClassObj nm q C N bs bm true sn sub ab col dd k0 k1 k2 k3 k5 "ValueError.__new__") ∧ PySem.HandSPX.refsVE bm = true) ∧
    PySem.W.typeIn K (.ref C) = some (.type "type") ∧ ∃ cd, PySem.W.clsIn K C = some cd ∧ cd.name = x ∧ cd.hasDict = true ∧ cd.mro = (if C = CH then .ref C :: PySem.HandSPX.veTail else .ref C :: .ref CH :: PySem.HandSPX.veTail) := by
  unfold clsShape at h
  split at h
  · rename_i dd cd sl ho
    split at h
    · rename_i C' bm k0 k1 k2 k3 n k5 hm hs
      simp only [Bool.and_eq_true, beq_iff_eq, Bool.not_eq_true'] at h
      obtain ⟨⟨⟨⟨⟨⟨rfl, rfl⟩, hdel⟩, hdct⟩, hnm⟩, hve⟩, hmro⟩ := h
      obtain ⟨nm, bs, mro, ns, qn, hd, sn, sub, ab, col, del⟩ := cd
      dsimp only at hm hdel hdct hnm hmro
      subst hm hdel hdct hnm
      have hsl : sl = #[k0, k1, k2, k3, some (.builtin "ValueError.__new__"), k5] := by
        obtain ⟨l⟩ := sl
        simp only at hs
        rw [hs]
      subst hsl
      refine ⟨⟨nm, qn, ns, bs, bm, sn, sub, ab, col, dd, k0, k1, k2, k3, k5, ho, hve⟩, ?_, ⟨_, by unfold PySem.W.clsIn; rw [ho], rfl, rfl, ?_⟩⟩
      · show (K.lookup C').map (·.cls) = _
        rw [ho]
        rfl
      · exact hmro
    · cases h
  · cases h
/-- all that is asked of a class of errors -/
def errB (K : PySem.W.Frag) (fI CH : Addr) (x : Str) : Bool := match PySem.W.nsIn K mainGlobals x with
  | some (some (.ref C)) => clsShape K C CH x && clsShape K CH CH "HandError" && (PySem.W.nsIn K mainGlobals "HandError" == some (some (.ref CH))) &&
      (PySem.W.findIn K (.ref C) "__setattr__" == some (some (.builtin "object.__setattr__"))) && (PySem.W.subIn K (.ref C) (.type "BaseException") == some true) && PySem.W.keepIn K (.ref C) &&
      (PySem.W.mroIn K C (.ref CH) == some true) && (PySem.W.subIn K (.ref C) (.type "ValueError") == some true) && (PySem.W.ks_superIn K C CH "__init__" == some (some (.builtin "ValueError.__init__"))) &&
      (PySem.W.findIn K (.ref C) "value" == some none) && (PySem.W.findIn K (.ref C) "__init__" == some (some (.ref fI))) &&
      (PySem.W.findIn K (.ref C) "__getattribute__" == some (some (.builtin "BaseException.__getattribute__"))) && (PySem.W.findIn K (.ref C) "__getattr__" == some none) && PySem.W.hasDictIn K C &&
      (PySem.W.findIn K (.ref C) "__class__" == some (some (.builtin "object.__class__"))) && (PySem.W.specialIn K (.builtin "object.__class__") "__get__" == some (some (.builtin "getset_descriptor.__get__"))) && (PySem.W.takesIn K (.builtin "object.__class__") == some true) && (PySem.W.mroIn K C (.type "object") == some true)
  | _ => false
theorem errB_ok {P : Program} {K : PySem.W.Frag} {mg : Str → Option Value} {h : Heap} {fI CH : Addr} {x : Str} (X : K.In h) (Gm : h.Ns mainGlobals mg) (F : IniF P K fI CH) (hb : errB K fI CH x = true) : ErrM P K mg x := by
  unfold errB at hb
  split at hb
  · rename_i C hns
    simp only [Bool.and_eq_true, beq_iff_eq] at hb
    obtain ⟨⟨⟨⟨⟨⟨⟨⟨⟨⟨⟨⟨⟨⟨⟨⟨⟨h1, h2⟩, h3⟩, h4⟩, h5⟩, h6⟩, h7⟩, h8⟩, h9⟩, h10⟩, h11⟩, h12⟩, h13⟩, h14⟩, h15⟩, h16⟩, h17⟩, h18⟩ := hb
    obtain ⟨a1, a2, cd, a3, a4, a5, a6⟩ := clsShape_ok h1
    obtain ⟨b1, b2, cdH, b3, b4, b5, b6⟩ := clsShape_ok h2
    exact ⟨fI, CH, C, F, ⟨⟨a1, h4, h5, a2, h6⟩, h7, h8, h9, h10, h11⟩, ⟨hns, ⟨h12, h13, h5, h14, h15, h16, h17, h18⟩, a2, h10, cd, cdH, CH, a3, a4, h3, b3, b4, a6⟩, PySem.W.mg_of X Gm hns⟩
  · cases hb
theorem errs_ok {P : Program} {K : PySem.W.Frag} {mg : Str → Option Value} {h : Heap} {fI CH : Addr} {errs : List Str} (X : K.In h) (Gm : h.Ns mainGlobals mg) (F : IniF P K fI CH) (hb : errs.all (errB K fI CH) = true) : AllP (ErrM P K mg) errs := by
  induction errs with
  | nil => exact .nil
  | cons x r ih =>
    simp only [List.all_cons, Bool.and_eq_true] at hb
    exact .cons (errB_ok X Gm F hb.1) (ih hb.2)
end En
namespace En
open PySem PySem.Spec PyProof.Rows L2
def clsBody : Stmt → List Stmt
  | .ClassDef _ _ _ b _ _ _ _ _ _ _ => b
  | _ => []
/-- the first def of a class's body -/
def iniOf (S : Stmt) : Stmt := (clsBody S).getD 0 (.Pass ⟨0, 0, 0, 0⟩)
theorem ini_of {P : Program} {K : PySem.W.Frag} {S : Stmt} {fI CH cc cda : Addr} {qual : Str} {ar : Arg} {p0 p1 p2 p3 p4 p5 p6 p7 p8 p9 : Pos} {dV kV doc pm ct oc ccl cl : Value} {an od cdd cld : Option Addr} {osl ccs csl : Array (Option Value)} {vs : Array Value} {file : Str} {tf : Tok} {cdD : ClassData} {pl : PySem.Env → Sem Bool}
    (hbody : defBody S = iniBody p0 p1 p2 p3 p4 p5 p6 p7 p8 p9)
    (hcall : ∀ env, eval (.Call (.Attribute (.Call (.Name "super" p0) [] [] p1) "__init__" p2) [.Name "value" p3] [] p4) env = (do
      let ov ← attributeBase (.Call (.Name "super" p0) [] [] p1) "__init__" env (eval (.Call (.Name "super" p0) [] [] p1) env)
      standAt p2.atName
      let (f, first) ← holding [ov] (getMethod ov "__init__" (pl env))
      callWith p4 f first (backTo p4 (starEach [.Name "value" p3] env)) []))
    (hs : IniS (defScope S)) (hpar : ((defArgs S).posonlyargs ++ (defArgs S).args).head? = some ar) (har : ar.arg = "self")
    (hbind : ∀ (kV doc pm : Value) (an : Option Addr) (cdv ct : Value) (cc : Addr) (qual : Str) (us : List Value), us.length = 2 → bindArgs (PySem.W.ksFn "__init__" qual (defArgs S) (defBody S) (defScope S) .none kV doc pm an cdv ct cc) ⟨us, []⟩ = pure ([("self" : Str), "value"].zip us))
    (htop : (P.main.scope.names.lookup ("super" : Str)).isSome = false) (hfile : ((P.main.file : Str) == file) = true)
    (l : K.lookup fI = some ⟨oc, od, .func (PySem.W.ksFn "__init__" qual (defArgs S) (defBody S) (defScope S) .none kV doc pm an (.ref cda) ct cc), osl⟩) (c : PySem.W.codeIn K (.ref cda) qual = true)
    (lc : K.lookup cda = some ⟨ccl, cdd, .fields vs, ccs⟩) (hvs : vs[2]? = some (.str file tf)) (le : K.lookup cc = some ⟨cl, cld, .cell (some (.ref CH)), csl⟩) (hD : PySem.W.clsIn K CH = some cdD)
    (ty : PySem.W.typeIn K (.ref fI) = some (.type "function")) (op : PySem.W.nsIn K cStatics "thirdparty.any" = some none) : IniF P K fI CH := by
  refine ⟨⟨cc, cda, qual, defArgs S, ar, p0, p1, p2, p3, p4, p5, p6, p7, p8, p9, defScope S, .none, kV, doc, pm, ct, oc, ccl, cl, an, od, cdd, cld, osl, ccs, csl, vs, file, tf, cdD, pl, hcall, by rw [← hbody]; exact l, c, ?_, hpar, har, hs, lc, hvs, hfile, le, hD⟩, htop, ty, op⟩
  rw [← hbody]
  exact .all fun us hl => hbind kV doc pm an (.ref cda) ct cc qual us hl
end En

set_option Elab.async false
set_option linter.all false
set_option maxRecDepth 100000
set_option maxHeartbeats 1000000
namespace En
open PySem
section
variable {α β : Type}
theorem rb (a : α) (f : α → Res β) : (Res.ok a).bind f = f a := rfl
theorem ro_some (a : α) : Res.of (some a) = .ok a := rfl
end
section
variable {st : Sto} {Γ : Fns} {C : Nat → Option D} {F : Nat}
theorem sn_int (i : Int) : snap st (.int i) = .int i := rfl
theorem sn_str (i : Str) : snap st (.str i) = .str i := rfl
theorem sn_bl (i : Bool) : snap st (.bl i) = .bl i := rfl
theorem sn_non : snap st .non = .non := rfl
theorem sn_tup (i : List D) : snap st (.tup i) = .tup i := rfl
theorem sn_lst (i : List D) : snap st (.lst i) = .lst i := rfl
theorem sn_ro (i : List D) : snap st (.ro i) = .ro i := rfl
theorem sn_dic (i : List (L2.Key × D)) : snap st (.dic i) = .dic i := rfl
theorem sn_ml {i : Nat} {ds : List D} (h : st[i]? = some (.lst ds)) : snap st (.mref i) = .lst ds := by simp only [snap, h]
theorem sn_md {i : Nat} {ds : List (L2.Key × D)} (h : st[i]? = some (.dic ds)) : snap st (.mref i) = .dic ds := by simp only [snap, h]
theorem ab (b : Bool) : asBool (.bl b) = .ok b := rfl
theorem ix_l (ds : List D) (i : Int) : idx (.lst ds) (.int i) = Res.of (atD ds i) := rfl
theorem ix_t (ds : List D) (i : Int) : idx (.tup ds) (.int i) = Res.of (atD ds i) := rfl
theorem ix_r (ds : List D) (i : Int) : idx (.ro ds) (.int i) = Res.of (atD ds i) := rfl
theorem b_add (i j : Int) : bop .add (.int i) (.int j) = .ok (.int (i + j)) := rfl
theorem b_sub (i j : Int) : bop .sub (.int i) (.int j) = .ok (.int (i - j)) := rfl
theorem b_mul {i j : Int} (h : i.natAbs.log2 + j.natAbs.log2 < 1000000) : bop .mul (.int i) (.int j) = .ok (.int (i * j)) := if_pos h
theorem b_div {i j : Int} (h : 0 < j ∧ j.natAbs.log2 < 9000) : bop .fdiv (.int i) (.int j) = .ok (.int (i / j)) := if_pos h
theorem b_mod {i j : Int} (h : 0 < j) : bop .mod (.int i) (.int j) = .ok (.int (i % j)) := if_pos h
theorem b_pow {i j : Int} (h : 0 ≤ j ∧ (Builtin.Int.intBits i : Int) * j ≤ 2 ^ 27) : bop .pow (.int i) (.int j) = .ok (.int (i ^ j.toNat)) := if_pos h
theorem c_gt (i j : Int) : cop .gt (.int i) (.int j) = .ok (decide (j < i)) := rfl
theorem c_ge (i j : Int) : cop .ge (.int i) (.int j) = .ok (decide (j ≤ i)) := rfl
theorem c_lt (i j : Int) : cop .lt (.int i) (.int j) = .ok (decide (i < j)) := rfl
theorem c_le (i j : Int) : cop .le (.int i) (.int j) = .ok (decide (i ≤ j)) := rfl
theorem bi_int (i : Int) : bi .int [.int i] = .ok (.int i) := rfl
theorem bi_intb (b : Bool) : bi .int [.bl b] = .ok (.int (if b then 1 else 0)) := rfl
theorem bi_abs (i : Int) : bi .abs [.int i] = .ok (.int (if i < 0 then -i else i)) := rfl
theorem bi_lenl (ds : List D) : bi .len [.lst ds] = .ok (.int ds.length) := rfl
theorem bi_lent (ds : List D) : bi .len [.tup ds] = .ok (.int ds.length) := rfl
theorem bi_lenr (ds : List D) : bi .len [.ro ds] = .ok (.int ds.length) := rfl
theorem bi_tupl (ds : List D) : bi .tuple [.lst ds] = .ok (.tup ds) := rfl
theorem at3_0 (a b c : D) : atD [a, b, c] 0 = some a := rfl
theorem at3_1 (a b c : D) : atD [a, b, c] 1 = some b := rfl
theorem at3_2 (a b c : D) : atD [a, b, c] 2 = some c := rfl
theorem nil_bind : ([] : List CE) = [] := rfl
/-- the end of a body that hands back plain data -/
theorem fin_d {keep : Bool} {n : Nat} {d : D} {st : Sto} (h : d.clean = true) (hn : st.length = n) : En.finish keep n d st = .ok (d, st) := by
  subst hn
  cases d with
  | mref i => simp [D.clean] at h
  | _ => simp only [En.finish, List.take_length, h, if_true]
theorem fin_t {keep : Bool} {n : Nat} {d : D} {st : Sto} (h : d.clean = true) : En.finish keep n d st = .ok (d, st.take n) := by
  cases d with
  | mref i => simp [D.clean] at h
  | _ => simp only [En.finish, h, if_true]
theorem cl_int (i : Int) : (D.int i).clean = true := rfl
theorem cl_str (i : Str) : (D.str i).clean = true := rfl
theorem cl_bl (i : Bool) : (D.bl i).clean = true := rfl
theorem cl_non : D.non.clean = true := rfl
theorem cl_tup (ds : List D) : (D.tup ds).clean = D.cleans ds := rfl
theorem cl_lst (ds : List D) : (D.lst ds).clean = D.cleans ds := rfl
theorem cl_ro (ds : List D) : (D.ro ds).clean = D.cleans ds := rfl
theorem cl_dic (ds : List (L2.Key × D)) : (D.dic ds).clean = D.cleanK ds := rfl
theorem cls_nil : D.cleans [] = true := rfl
theorem cls_cons (d : D) (r : List D) : D.cleans (d :: r) = (D.clean d && D.cleans r) := rfl
theorem cls_map {α : Type} {f : α → D} {l : List α} (h : ∀ a ∈ l, (f a).clean = true) : D.cleans (l.map f) = true := by
  rw [cleans_iff]
  intro d hd
  obtain ⟨a, ha, rfl⟩ := List.mem_map.mp hd
  exact h a ha
theorem cls_ints (l : List Int) : D.cleans (l.map .int) = true := cls_map fun _ _ => rfl
theorem cls_strs (l : List Str) : D.cleans (l.map .str) = true := cls_map fun _ _ => rfl
theorem cls_pairs (l : List (Int × Int)) : D.cleans (l.map pairD) = true := cls_map fun _ _ => rfl
theorem log2_le {a : Int} {n : Nat} (h0 : 0 ≤ a) (h : a < 2 ^ n) : a.natAbs.log2 ≤ n := by
  by_cases z : a.natAbs = 0
  · rw [z]; simp
  · have h1 : a.natAbs < 2 ^ n := by
      have e : ((2 ^ n : Nat) : Int) = 2 ^ n := by norm_cast
      omega
    have := (Nat.log2_lt z).mpr h1
    omega
theorem st_lt {i : Nat} {o : O} (h : st[i]? = some o) : i < st.length := by
  by_cases q : i < st.length
  · exact q
  · rw [List.getElem?_eq_none (by simpa using q)] at h; cases h
theorem set_at {i : Nat} {o o' : O} (h : st[i]? = some o) : (st.set i o')[i]? = some o' := List.getElem?_set_self (st_lt h)
end
end En
namespace En
theorem tn0 : Int.toNat 0 = 0 := rfl
theorem tn1 : Int.toNat 1 = 1 := rfl
theorem tn2 : Int.toNat 2 = 2 := rfl
theorem tn3 : Int.toNat 3 = 3 := rfl
end En
namespace En
open PySem
theorem bits_le {a : Int} {n : Nat} (h0 : 0 ≤ a) (h : a < 2 ^ n) : Builtin.Int.intBits a ≤ n + 1 := by
  have := log2_le h0 h
  unfold Builtin.Int.intBits
  split <;> omega
theorem at_nat {ds : List D} {r : Int} (h0 : 0 ≤ r) (hr : r.toNat < ds.length) : atD ds r = some ds[r.toNat] := by
  have h := L2.atI_nat (xs := ds) (j := r.toNat) (v := ds[r.toNat]) (by simp [hr])
  have e : ((r.toNat : Nat) : Int) = r := by omega
  rw [e] at h
  exact h
theorem gl_at {st : Sto} {i : Nat} {ds : List D} (h : st[i]? = some (.lst ds)) : getLst st (.mref i) = .ok (i, ds) := by simp only [getLst, h]
end En
namespace En
open PySem
theorem ir_int (i : Int) : (D.int i).isRef = false := rfl
theorem ir_str (i : Str) : (D.str i).isRef = false := rfl
theorem ir_bl (i : Bool) : (D.bl i).isRef = false := rfl
theorem ir_non : D.non.isRef = false := rfl
theorem ir_tup (i : List D) : (D.tup i).isRef = false := rfl
theorem ir_lst (i : List D) : (D.lst i).isRef = false := rfl
theorem ir_ro (i : List D) : (D.ro i).isRef = false := rfl
theorem ir_dic (i : List (L2.Key × D)) : (D.dic i).isRef = false := rfl
end En
namespace En
open PySem
theorem perm_erase {α : Type} : ∀ {l : List α} {i : Nat} (h : i < l.length), (l[i] :: l.eraseIdx i).Perm l
  | a :: l, 0, _ => List.Perm.refl _
  | a :: l, i + 1, h => by
    have hl : i < l.length := by simpa using h
    have := perm_erase hl
    show (l[i] :: a :: l.eraseIdx i).Perm (a :: l)
    exact (List.Perm.swap a l[i] _).trans (List.Perm.cons a this)
section
variable {Γ : Fns} {C : Nat → Option D} {F : Nat} {c : CS} {r : List CS} {env env1 : Env} {st st1 : Sto} {d : D} {fl : Fl}
theorem ss_next (h : evS Γ C F c env st = .ok (.next, env1, st1)) : evSs Γ C F (c :: r) env st = evSs Γ C F r env1 st1 := by simp only [evSs, h, rb]
theorem ss_ret (h : evS Γ C F c env st = .ok (.ret d, env1, st1)) : evSs Γ C F (c :: r) env st = .ok (.ret d, env1, st1) := by simp only [evSs, h, rb]
theorem s_for {t : Tg} {it : CI} {body : List CS} {ds : List D} (h : evI Γ C it env st = .ok (ds, st1)) : evS Γ C F (.for_ t it body) env st = forGo (asgT t) (fun e s => evSs Γ C F body e s) ds env st1 := by simp only [evS, h, rb]
theorem body_ret {fn : Fn} {ds : List D} (h : evSs Γ C F fn.body (ds.map some ++ List.replicate (fn.ns - ds.length) none) st = .ok (.ret d, env1, st1)) : runBody Γ C F fn ds st = En.finish fn.keep st.length d st1 := by simp only [runBody, h, rb]
theorem body_next {fn : Fn} {ds : List D} (h : evSs Γ C F fn.body (ds.map some ++ List.replicate (fn.ns - ds.length) none) st = .ok (.next, env1, st1)) : runBody Γ C F fn ds st = En.finish fn.keep st.length .non st1 := by simp only [runBody, h, rb]
end
theorem take_set {st st' : Sto} {i n : Nat} {x : O} (hn : st.length = n) (hl : n ≤ st'.length) (hi : st'[i]? = some x) (hin : i < n) (h : ∀ j, j ≠ i → j < n → st'[j]? = st[j]?) : st'.take n = st.set i x := by
  apply List.ext_getElem?
  intro j
  rw [List.getElem?_take]
  split
  · rename_i hj
    by_cases e : j = i
    · subst e; rw [hi, List.getElem?_set_self (by omega)]
    · rw [List.getElem?_set_ne (Ne.symm e), h j e hj]
  · rw [List.getElem?_eq_none (by simp; omega)]
end En
namespace En
theorem LIM_val : LIM = 16777216 := rfl
theorem lim_ok {n : Nat} (h : n < 1000) : (n ≤ LIM) = True := eq_true (by rw [LIM_val]; omega)
end En
namespace En
theorem small_rng {m : Nat} (h : m < 2000000) : -(2 ^ 62) ≤ (m : Int) ∧ (m : Int) < 2 ^ 24 := by
  have a : -(2 ^ 62) ≤ (0 : Int) := by decide
  have b : (2000000 : Int) ≤ 2 ^ 24 := by decide
  exact ⟨Int.le_trans a (Int.natCast_nonneg m), Int.lt_of_lt_of_le (by omega) b⟩
theorem ev_range1 {Γ : Fns} {C : Nat → Option D} {e : CE} {env : Env} {st st1 : Sto} {m : Nat} (h : evE Γ C e env st = .ok (.int m, st1)) (hm : m < 2000000) : evI Γ C (.range1 e) env st = .ok (rngD 0 m, st1) := by
  unfold evI
  rw [h, rb]
  exact (if_pos (small_rng hm)).trans (by rw [Int.toNat_natCast])
end En

set_option Elab.async false
set_option linter.all false
namespace En
open PySem
section
variable {Γ : Fns} {C : Nat → Option D} {F : Nat}
theorem x_lit (d : D) (env : Env) (st : Sto) : evE Γ C (.lit d) env st = .ok (d, st) := by rw [evE]; try rfl
theorem x_var (i : Nat) (env : Env) (st : Sto) : evE Γ C (.var i) env st = match env[i]? with
    | some (some d) => .ok (d, st)
    | _ => .bad := by rw [evE]; try rfl
theorem x_glob (g : Nat) (env : Env) (st : Sto) : evE Γ C (.glob g) env st = match C g with
    | some d => .ok (d, st)
    | none => .bad := by rw [evE]; try rfl
theorem x_bin (op : BOp) (a b : CE) (env : Env) (st : Sto) : evE Γ C (.bin op a b) env st = (evE Γ C a env st).bind fun (x, st1) => (evE Γ C b env st1).bind fun (y, st2) => (bop op (snap st2 x) (snap st2 y)).bind fun d => .ok (d, st2) := by rw [evE]; try rfl
theorem x_neg (a : CE) (env : Env) (st : Sto) : evE Γ C (.neg a) env st = (evE Γ C a env st).bind fun (x, st1) => match x with
    | .int i => .ok (.int (-i), st1)
    | _ => .bad := by rw [evE]; try rfl
theorem x_not (a : CE) (env : Env) (st : Sto) : evE Γ C (.not a) env st = (evE Γ C a env st).bind fun (x, st1) => (asBool x).bind fun b => .ok (.bl (!b), st1) := by rw [evE]; try rfl
theorem x_cmp (op : COp) (a b : CE) (env : Env) (st : Sto) : evE Γ C (.cmp op a b) env st = (evE Γ C a env st).bind fun (x, st1) => (evE Γ C b env st1).bind fun (y, st2) => (cop op (snap st2 x) (snap st2 y)).bind fun d => .ok (.bl d, st2) := by rw [evE]; try rfl
theorem x_chain (op op' : COp) (a b c : CE) (env : Env) (st : Sto) : evE Γ C (.chain op op' a b c) env st = (evE Γ C a env st).bind fun (x, st1) => (evE Γ C b env st1).bind fun (y, st2) => (cop op (snap st2 x) (snap st2 y)).bind fun r =>
      if r then (evE Γ C c env st2).bind fun (z, st3) => (cop op' (snap st3 y) (snap st3 z)).bind fun d => .ok (.bl d, st3) else .ok (.bl false, st2) := by rw [evE]; try rfl
theorem x_and (es : List CE) (env : Env) (st : Sto) : evE Γ C (.and es) env st = evAnd Γ C es env st := by rw [evE]; try rfl
theorem x_or (es : List CE) (env : Env) (st : Sto) : evE Γ C (.or es) env st = evOr Γ C es env st := by rw [evE]; try rfl
theorem x_ite (c a b : CE) (env : Env) (st : Sto) : evE Γ C (.ite c a b) env st = (evE Γ C c env st).bind fun (x, st1) => (asBool x).bind fun r => if r then evE Γ C a env st1 else evE Γ C b env st1 := by rw [evE]; try rfl
theorem x_tup (es : List CE) (env : Env) (st : Sto) : evE Γ C (.tup es) env st = (evEs Γ C es env st).bind fun (ds, st1) => if ds.length ≤ LIM then .ok (.tup ds, st1) else .bad := by rw [evE]; try rfl
theorem x_lst (es : List CE) (env : Env) (st : Sto) : evE Γ C (.lst es) env st = (evEs Γ C es env st).bind fun (ds, st1) => if noRefs ds && decide (ds.length ≤ LIM) then .ok (.lst ds, st1) else .bad := by rw [evE]; try rfl
theorem x_lstM (es : List CE) (env : Env) (st : Sto) : evE Γ C (.lstM es) env st = (evEs Γ C es env st).bind fun (ds, st1) => if D.cleans ds && decide (ds.length ≤ LIM) then .ok (.mref st1.length, st1 ++ [.lst ds]) else .bad := by rw [evE]; try rfl
theorem x_idx (a i : CE) (env : Env) (st : Sto) : evE Γ C (.idx a i) env st = (evE Γ C a env st).bind fun (x, st1) => (evE Γ C i env st1).bind fun (y, st2) => (idx (snap st2 x) y).bind fun d => .ok (d, st2) := by rw [evE]; try rfl
theorem x_slc (a : CE) (lo hi : Option CE) (env : Env) (st : Sto) : evE Γ C (.slc a lo hi) env st = (evE Γ C a env st).bind fun (x, st1) => (evO Γ C lo env st1).bind fun (l, st2) => (evO Γ C hi env st2).bind fun (h, st3) => (slc (snap st3 x) l h).bind fun d => .ok (d, st3) := by rw [evE]; try rfl
theorem x_rev (a : CE) (env : Env) (st : Sto) : evE Γ C (.rev a) env st = (evE Γ C a env st).bind fun (x, st1) => (revD (snap st1 x)).bind fun d => .ok (d, st1) := by rw [evE]; try rfl
theorem x_call (f : Nat) (es : List CE) (env : Env) (st : Sto) : evE Γ C (.call f es) env st = (evEs Γ C es env st).bind fun (ds, st1) => Γ f ds st1 := by rw [evE]; try rfl
theorem x_bi (b : B) (es : List CE) (env : Env) (st : Sto) : evE Γ C (.bi b es) env st = (evEs Γ C es env st).bind fun (ds, st1) => (bi b (ds.map (snap st1))).bind fun d => .ok (d, st1) := by rw [evE]; try rfl
theorem x_copyM (a : CE) (env : Env) (st : Sto) : evE Γ C (.copyM a) env st = (evE Γ C a env st).bind fun (x, st1) => (Res.of (itemsOf (snap st1 x))).bind fun ds => if D.cleans ds then .ok (.mref st1.length, st1 ++ [.lst ds]) else .bad := by rw [evE]; try rfl
theorem x_append (l e : CE) (env : Env) (st : Sto) : evE Γ C (.append l e) env st = (evE Γ C l env st).bind fun (x, st1) => (getLst st1 x).bind fun _ => (evE Γ C e env st1).bind fun (y, st2) => (getLst st2 x).bind fun (i, ds) =>
      if !y.clean || decide (LIM ≤ ds.length) then .bad else .ok (.non, st2.set i (.lst (ds ++ [y]))) := by rw [evE]; try rfl
theorem x_extend (l e : CE) (env : Env) (st : Sto) : evE Γ C (.extend l e) env st = (evE Γ C l env st).bind fun (x, st1) => (getLst st1 x).bind fun _ => (evE Γ C e env st1).bind fun (y, st2) => (getLst st2 x).bind fun (i, ds) => match snap st2 y with
      | .lst ys => if !D.cleans ys || decide (LIM < ds.length + ys.length) then .bad else .ok (.non, st2.set i (.lst (ds ++ ys)))
      | _ => .bad := by rw [evE]; try rfl
theorem x_popAt (l k : CE) (env : Env) (st : Sto) : evE Γ C (.popAt l k) env st = (evE Γ C l env st).bind fun (x, st1) => (getLst st1 x).bind fun _ => (evE Γ C k env st1).bind fun (y, st2) => (getLst st2 x).bind fun (i, ds) => match y with
      | .int k => if 0 ≤ k then match ds[k.toNat]? with
          | some d => .ok (d, st2.set i (.lst (ds.eraseIdx k.toNat)))
          | none => .bad else .bad
      | _ => .bad := by rw [evE]; try rfl
theorem x_pop (l : CE) (env : Env) (st : Sto) : evE Γ C (.pop l) env st = (evE Γ C l env st).bind fun (x, st1) => (getLst st1 x).bind fun (i, ds) => match ds.getLast? with
      | some d => .ok (d, st1.set i (.lst ds.dropLast))
      | none => .bad := by rw [evE]; try rfl
theorem x_frz (l : CE) (env : Env) (st : Sto) : evE Γ C (.frz l) env st = (evE Γ C l env st).bind fun (x, st1) => match x with
      | .mref i => match st1[i]? with
        | some (.lst ds) => .ok (.lst ds, st1.set i .dead)
        | some (.dic ds) => .ok (.dic ds, st1.set i .dead)
        | _ => .bad
      | _ => .bad := by rw [evE]; try rfl
theorem x_dnew  (env : Env) (st : Sto) : evE Γ C (.dnew) env st = .ok (.mref st.length, st ++ [.dic []]) := by rw [evE]; try rfl
theorem x_rng1 (t : Bool) (a : CE) (env : Env) (st : Sto) : evE Γ C (.rng1 t a) env st = (evE Γ C a env st).bind fun (x, st1) => match x with
      | .int j => if -(2 ^ 62) ≤ j ∧ j < 2 ^ 24 then .ok (rngT t (rngD 0 j.toNat), st1) else .bad
      | _ => .bad := by rw [evE]; try rfl
theorem x_rng2 (t : Bool) (a b : CE) (env : Env) (st : Sto) : evE Γ C (.rng2 t a b) env st = (evE Γ C a env st).bind fun (x, st1) => (evE Γ C b env st1).bind fun (y, st2) => match x, y with
      | .int i, .int j => if (-(2 ^ 62) ≤ i ∧ i < 2 ^ 62) ∧ (-(2 ^ 62) ≤ j ∧ j < 2 ^ 62) ∧ j - i < 2 ^ 24 then .ok (rngT t (rngD i (j - i).toNat), st2) else .bad
      | _, _ => .bad := by rw [evE]; try rfl
theorem x_dget (o k : CE) (x : Option CE) (env : Env) (st : Sto) : evE Γ C (.dget o k x) env st = (evE Γ C o env st).bind fun (od, st1) => (asDic (snap st1 od)).bind fun _ => (evE Γ C k env st1).bind fun (kd, st2) => (evO Γ C x env st2).bind fun (xd, st3) => match snap st3 od, keyOf kd with
      | .dic kvs, some k => .ok ((dget kvs k).getD (xd.getD .non), st3)
      | _, _ => .bad := by rw [evE]; try rfl
theorem y_asg (t : Tg) (e : CE) (env : Env) (st : Sto) : evS Γ C F (.asg t e) env st = (evE Γ C e env st).bind fun (d, st1) => (Res.of (asgT t d env)).bind fun env1 => .ok (.next, env1, st1) := by rw [evS]; try rfl
theorem y_par (is : List Nat) (es : List CE) (env : Env) (st : Sto) : evS Γ C F (.par is es) env st = (evEs Γ C es env st).bind fun (ds, st1) => (Res.of (setAll is ds env)).bind fun env1 => .ok (.next, env1, st1) := by rw [evS]; try rfl
theorem y_aug (i : Nat) (op : BOp) (e : CE) (env : Env) (st : Sto) : evS Γ C F (.aug i op e) env st = match env[i]? with
    | some (some x) => (evE Γ C e env st).bind fun (y, st1) => match x, y with
      | .int a, .int b => (bop op (.int a) (.int b)).bind fun d => .ok (.next, env.set i (some d), st1)
      | .str a, .str b => (bop op (.str a) (.str b)).bind fun d => .ok (.next, env.set i (some d), st1)
      | _, _ => .bad
    | _ => .bad := by rw [evS]; try rfl
theorem y_ex (e : CE) (env : Env) (st : Sto) : evS Γ C F (.ex e) env st = (evE Γ C e env st).bind fun (_, st1) => .ok (.next, env, st1) := by rw [evS]; try rfl
theorem y_setix (l k e : CE) (env : Env) (st : Sto) : evS Γ C F (.setix l k e) env st = (evE Γ C e env st).bind fun (y, st1) => (evE Γ C l env st1).bind fun (x, st2) => (evE Γ C k env st2).bind fun (z, st3) =>
      if !y.clean then .bad else match x with
      | .mref i => match st3[i]?, z with
        | some (.lst ds), .int k => if 0 ≤ k ∧ k.toNat < ds.length then .ok (.next, env, st3.set i (.lst (ds.set k.toNat y))) else .bad
        | some (.dic kvs), z => match keyOf z with
          | some k => if kvs.length < LIM then .ok (.next, env, st3.set i (.dic (dput kvs k y))) else .bad
          | none => .bad
        | _, _ => .bad
      | _ => .bad := by rw [evS]; try rfl
theorem y_ite (c : CE) (a b : List CS) (env : Env) (st : Sto) : evS Γ C F (.ite c a b) env st = (evE Γ C c env st).bind fun (d, st1) => (asBool d).bind fun r => if r then evSs Γ C F a env st1 else evSs Γ C F b env st1 := by rw [evS]; try rfl
theorem y_ret (e : CE) (env : Env) (st : Sto) : evS Γ C F (.ret e) env st = (evE Γ C e env st).bind fun (d, st1) => .ok (.ret d, env, st1) := by rw [evS]; try rfl
theorem y_retN  (env : Env) (st : Sto) : evS Γ C F (.retN) env st = .ok (.ret .non, env, st) := by rw [evS]; try rfl
theorem y_brk  (env : Env) (st : Sto) : evS Γ C F (.brk) env st = .ok (.brk, env, st) := by rw [evS]; try rfl
theorem y_cont  (env : Env) (st : Sto) : evS Γ C F (.cont) env st = .ok (.cont, env, st) := by rw [evS]; try rfl
theorem y_pass  (env : Env) (st : Sto) : evS Γ C F (.pass) env st = .ok (.next, env, st) := by rw [evS]; try rfl
theorem y_never  (env : Env) (st : Sto) : evS Γ C F (.never) env st = .bad := by rw [evS]; try rfl
theorem y_frzV (i : Nat) (env : Env) (st : Sto) : evS Γ C F (.frzV i) env st = match env[i]? with
    | some (some (.mref j)) => match st[j]? with
      | some (.lst ds) => .ok (.next, env.set i (some (.lst ds)), st.set j .dead)
      | some (.dic ds) => .ok (.next, env.set i (some (.dic ds)), st.set j .dead)
      | _ => .bad
    | _ => .bad := by rw [evS]; try rfl
end
end En

set_option Elab.async false
set_option linter.all false
set_option maxRecDepth 100000
set_option maxHeartbeats 1000000
namespace En
open PySem
section
variable {Γ : Fns} {C : Nat → Option D} {F : Nat} {st st1 : Sto} {env : Env} {t : Tg} {it : CI} {e : CE} {own : List Nat} {ds : List D}
theorem compGo_opt {g : D → Sto → Res (Option D × Sto)} {f : D → Option D} : ∀ {ds : List D}, (∀ x ∈ ds, g x st = .ok (f x, st)) → compGo g ds st = .ok (ds.filterMap f, st)
  | [], _ => rfl
  | x :: r, h => by
    have ih := compGo_opt (g := g) (f := f) (ds := r) fun y hy => h y (List.mem_cons_of_mem _ hy)
    simp only [compGo, h x (List.mem_cons_self ..), rb, ih]
    cases hf : f x with
    | none => rw [List.filterMap_cons_none hf]
    | some d => rw [List.filterMap_cons_some hf]
theorem ev_comp {f : D → D} (hi : evI Γ C it env st = .ok (ds, st1)) (hb : ∀ x ∈ ds, ∃ env1, asgT t x (wipeD env own) = some env1 ∧ evE Γ C e env1 st1 = .ok (f x, st1) ∧ (f x).isRef = false) :
    evE Γ C (.comp t it none e own) env st = .ok (.lst (ds.map f), st1) := by
  simp only [evE, hi, rb]
  rw [compGo_opt (f := fun x => some (f x)) fun x hx => ?_]
  · simp only [rb]
    congr 3
    exact congrFun (List.filterMap_eq_map (f := f)) ds
  · obtain ⟨env1, h1, h2, h3⟩ := hb x hx
    simp (decide := true) only [h1, ro_some, rb, evT, h2, h3, if_true, if_false, Bool.false_eq_true]
theorem ev_compIf {f : D → D} {p : D → Bool} {q : CE} (hi : evI Γ C it env st = .ok (ds, st1)) (hb : ∀ x ∈ ds, ∃ env1, asgT t x (wipeD env own) = some env1 ∧ evE Γ C q env1 st1 = .ok (.bl (p x), st1) ∧ (p x = true → evE Γ C e env1 st1 = .ok (f x, st1) ∧ (f x).isRef = false)) :
    evE Γ C (.comp t it (some q) e own) env st = .ok (.lst ((ds.filter p).map f), st1) := by
  simp only [evE, hi, rb]
  rw [compGo_opt (f := fun x => if p x then some (f x) else none) fun x hx => ?_]
  · simp only [rb]
    congr 3
    clear hb hi
    induction ds with
    | nil => rfl
    | cons a r ih =>
      by_cases hp : p a = true
      · simp [hp, ih]
      · simp [hp, ih]
  · obtain ⟨env1, h1, h2, h3⟩ := hb x hx
    by_cases hp : p x = true
    · obtain ⟨h3, h4⟩ := h3 hp
      simp (decide := true) only [h1, ro_some, rb, evT, h2, ab, hp, h3, h4, if_true, if_false, Bool.false_eq_true]
    · simp (decide := true) only [h1, ro_some, rb, evT, h2, ab, hp, if_true, if_false, Bool.false_eq_true]
theorem boolsD_map {α : Type} (p : α → Bool) : ∀ l : List α, boolsD (l.map fun x => .bl (p x)) = some (l.map p)
  | [] => rfl
  | x :: r => by simp only [List.map_cons, boolsD, boolsD_map p r, Option.map_some]
theorem bi_all {α : Type} (p : α → Bool) (l : List α) : bi .all [.lst (l.map fun x => .bl (p x))] = .ok (.bl (l.all p)) := by
  simp only [bi, boolsD_map, ro_some, rb]
  congr 2
  induction l with
  | nil => rfl
  | cons a r ih => simp [ih]
theorem intsD_map {α : Type} (p : α → Int) : ∀ l : List α, intsD (l.map fun x => .int (p x)) = some (l.map p)
  | [] => rfl
  | x :: r => by simp only [List.map_cons, intsD, intsD_map p r, Option.map_some]
theorem bi_sum {α : Type} (p : α → Int) (l : List α) : bi .sum [.lst (l.map fun x => .int (p x))] = .ok (.int (l.map p).sum) := by
  simp only [bi, intsD_map, ro_some, rb]
/-- a loop that only ever goes on -/
theorem forGo_inv {bind : D → Env → Option Env} {body : Env → Sto → Res (Fl × Env × Sto)} (P : List D → Env → Sto → Prop) : ∀ {ds : List D} {env : Env} {st : Sto}, P ds env st →
    (∀ x r env st, P (x :: r) env st → ∃ env1 env2 st2, bind x env = some env1 ∧ body env1 st = .ok (.next, env2, st2) ∧ P r env2 st2) → ∃ env' st', forGo bind body ds env st = .ok (.next, env', st') ∧ P [] env' st'
  | [], env, st, h, _ => ⟨env, st, rfl, h⟩
  | x :: r, env, st, h, hs => by
    obtain ⟨env1, env2, st2, h1, h2, h3⟩ := hs x r env st h
    obtain ⟨env', st', h4, h5⟩ := forGo_inv P h3 hs
    exact ⟨env', st', by simp only [forGo, h1, ro_some, rb, h2, h4], h5⟩
end
end En

set_option Elab.async false
set_option linter.all false
set_option maxRecDepth 100000
set_option maxHeartbeats 1000000
namespace En
open PySem
theorem pys_all {P : PyData → Prop} : ∀ {ds : List D}, (∀ d ∈ ds, P d.py) → ∀ x ∈ D.pys ds, P x
  | [], _, x, hx => by cases hx
  | d :: r, h, x, hx => by
    rcases List.mem_cons.mp (show x ∈ D.py d :: D.pys r from hx) with e | hx
    · subst e; exact h d (List.mem_cons_self ..)
    · exact pys_all (fun y hy => h y (List.mem_cons_of_mem _ hy)) x hx
theorem canAll : ∀ {xs : List PyData}, (∀ x ∈ xs, x.canLay0 = true) → PyData.canLayAll0 xs = true
  | [], _ => by simp only [PyData.canLayAll0]
  | x :: r, h => by
    simp only [PyData.canLayAll0, h x (List.mem_cons_self ..), canAll (xs := r) (fun y hy => h y (List.mem_cons_of_mem _ hy)), Bool.and_self]
/-- flat data of a few levels -/
def Flat (n : Nat) (d : D) : Prop := d.py.canLay0 = true ∧ d.py.depth ≤ n
theorem flat_int (i : Int) : Flat 0 (.int i) := ⟨by simp only [D.py, PyData.canLay0], by simp only [D.py, PyData.depth]; omega⟩
theorem eqv_str (x y : Str) : PyData.eqv (.str x) (.str y) = (x == y) := by simp only [PyData.eqv]
theorem depthAll_le {n : Nat} : ∀ {xs : List PyData}, (∀ x ∈ xs, x.depth ≤ n) → PyData.depthAll xs ≤ n
  | [], _ => by simp only [PyData.depthAll]; omega
  | x :: r, h => by
    have h1 := h x (List.mem_cons_self ..)
    have h2 := depthAll_le (xs := r) (fun y hy => h y (List.mem_cons_of_mem _ hy))
    simp only [PyData.depthAll]
    omega
theorem Flat.up {m n : Nat} {d : D} (h : Flat m d) (hm : m ≤ n) : Flat n d := ⟨h.1, Nat.le_trans h.2 hm⟩
theorem flat_tup {n : Nat} {ds : List D} (h : ∀ d ∈ ds, Flat n d) : Flat (n + 1) (.tup ds) := by
  refine ⟨?_, ?_⟩
  · simp only [D.py, PyData.canLay0]
    exact canAll (pys_all (P := fun x => x.canLay0 = true) fun d hd => (h d hd).1)
  · simp only [D.py, PyData.depth]
    have := depthAll_le (n := n) (pys_all (P := fun x => x.depth ≤ n) fun d hd => (h d hd).2)
    omega
theorem flat_lst {n : Nat} {ds : List D} (h : ∀ d ∈ ds, Flat n d) : Flat (n + 1) (.lst ds) := by
  refine ⟨?_, ?_⟩
  · simp only [D.py, PyData.canLay0]
    exact canAll (pys_all (P := fun x => x.canLay0 = true) fun d hd => (h d hd).1)
  · simp only [D.py, PyData.depth]
    have := depthAll_le (n := n) (pys_all (P := fun x => x.depth ≤ n) fun d hd => (h d hd).2)
    omega
theorem flat_str {x : Str} (h : PyData.strOk x = true) : Flat 0 (.str x) := ⟨by simp only [D.py, PyData.canLay0]; exact h, by simp only [D.py, PyData.depth]; omega⟩
theorem Flat.shaped {n : Nat} {d : D} (h : Flat n d) (hn : n ≤ 64) : SeqAt.shaped d.py = true := by
  unfold SeqAt.shaped
  rw [h.1, Bool.true_and, decide_eq_true_eq]
  exact Nat.le_trans h.2 hn
theorem eq_self {n : Nat} {d : D} (h : Flat n d) (hn : n ≤ 64) : cop .eq d d = .ok true := by
  simp only [cop, h.shaped hn, Bool.and_self, if_true, SeqAt.eqv_refl _ h.1]
theorem ne_self {n : Nat} {d : D} (h : Flat n d) (hn : n ≤ 64) : cop .ne d d = .ok false := by
  simp only [cop, h.shaped hn, Bool.and_self, if_true, SeqAt.eqv_refl _ h.1, Bool.not_true]
theorem cut_take (ds : List D) (i : Nat) (h : i ≤ ds.length) : cutD ds none (some (i : Int)) = ds.take i := by
  unfold cutD
  simp only [HT.sIx_none, HT.sIx_nat, List.drop_zero, Nat.sub_zero, Nat.min_eq_left h]
theorem cut_drop1 (ds : List D) : cutD ds (some 1) none = ds.drop 1 := by
  unfold cutD
  rw [show HT.sIx ds.length 0 (some 1) = min 1 ds.length from HT.sIx_nat ds.length 0 1, HT.sIx_none]
  cases ds with
  | nil => rfl
  | cons a r =>
    have : min 1 (a :: r).length = 1 := by simp only [List.length_cons]; omega
    simp only [this]
    show List.take (r.length + 1 - 1) r = r
    rw [Nat.add_sub_cancel, List.take_length]
/-- a text among texts -/
theorem in_strs {x : Str} {ts : List Str} (hx : PyData.strOk x = true) (h : ∀ t ∈ ts, PyData.strOk t = true) : isin (.str x) (.tup (ts.map .str)) = .ok (ts.contains x) := by
  have h1 : SeqAt.shaped (D.str x).py = true := (flat_str hx).shaped (by omega)
  have h2 : SeqAt.shaped (D.tup (ts.map .str)).py = true := (flat_tup (n := 0) fun d hd => by
    obtain ⟨t, ht, rfl⟩ := List.mem_map.mp hd
    exact flat_str (h t ht)).shaped (by omega)
  simp only [isin, h1, h2, Bool.and_self, if_true, List.any_map]
  congr 1
  clear h h2
  induction ts with
  | nil => rfl
  | cons t r ih =>
    rw [List.any_cons, List.contains_cons, ih]
    simp only [Function.comp, D.py, eqv_str]
    congr 1
    exact Bool.beq_comm ..
theorem mem_enum : ∀ {ds : List D} {a : Nat} {x : D}, x ∈ enumD a ds → ∃ (i : Nat) (d : D), ds[i]? = some d ∧ x = .tup [.int ((a + i : Nat) : Int), d]
  | [], a, x, h => by cases h
  | d :: r, a, x, h => by
    rcases List.mem_cons.mp (show x ∈ D.tup [.int (a : Int), d] :: enumD (a + 1) r from h) with e | h
    · exact ⟨0, d, rfl, by rw [e]; simp⟩
    · obtain ⟨i, d', h1, h2⟩ := mem_enum h
      exact ⟨i + 1, d', by simpa using h1, by rw [h2, show a + 1 + i = a + (i + 1) by omega]⟩
theorem mem_zip : ∀ {xs ys : List D} {x : D}, x ∈ zipD xs ys → ∃ (i : Nat) (a b : D), xs[i]? = some a ∧ ys[i]? = some b ∧ x = .tup [a, b]
  | [], _, x, h => by cases h
  | _ :: _, [], x, h => by cases h
  | a :: xs, b :: ys, x, h => by
    rcases List.mem_cons.mp (show x ∈ D.tup [a, b] :: zipD xs ys from h) with e | h
    · exact ⟨0, a, b, rfl, rfl, e⟩
    · obtain ⟨i, a', b', h1, h2, h3⟩ := mem_zip h
      exact ⟨i + 1, a', b', by simpa using h1, by simpa using h2, h3⟩
end En

set_option Elab.async false
set_option linter.all false
set_option maxRecDepth 100000
set_option maxHeartbeats 1000000
namespace En
open PySem
theorem sok_iff {x : Str} : PyData.strOk x = true ↔ ∀ c ∈ x.cps.toList, c < 0x110000 := by
  unfold PyData.strOk
  rw [Array.all_eq_true_iff_forall_mem]
  simp only [decide_eq_true_eq, Array.mem_def]
theorem cps_app (a b : Str) : (a ++ b).cps.toList = a.cps.toList ++ b.cps.toList := by
  show (a.cps ++ b.cps).toList = _
  simp
theorem len_app (a b : Str) : (a ++ b).length = a.length + b.length := by
  show (a.cps ++ b.cps).size = _
  simp [Str.length]
theorem sok_app {a b : Str} (ha : PyData.strOk a = true) (hb : PyData.strOk b = true) : PyData.strOk (a ++ b) = true := by
  rw [sok_iff] at *
  intro c hc
  rw [cps_app] at hc
  rcases List.mem_append.mp hc with h | h
  · exact ha c h
  · exact hb c h
theorem sok_ofString (s : String) : PyData.strOk (Str.ofString s) = true := by
  rw [sok_iff]
  intro c hc
  have e : (Str.ofString s).cps.toList = s.toList.map Char.toNat := by
    unfold Str.ofString
    simp only [cpsOfBytes_string]
  rw [e] at hc
  obtain ⟨ch, _, rfl⟩ := List.mem_map.mp hc
  have h := ch.valid
  have ht : ch.toNat = ch.val.toNat := rfl
  simp only [UInt32.isValidChar, Nat.isValidChar] at h
  omega
/-- data whose repr is told, of at most m signs and depth k -/
structure Rp (k m : Nat) (d : D) : Prop where
  lay : d.py.canLay0 = true
  sh : d.py.showable = true
  dep : d.py.depth ≤ k
  len : d.py.shown.length ≤ m
  ok : PyData.strOk d.py.shown = true
theorem Rp.up {k k' m m' : Nat} {d : D} (h : Rp k m d) (hk : k ≤ k') (hm : m ≤ m') : Rp k' m' d := ⟨h.lay, h.sh, Nat.le_trans h.dep hk, Nat.le_trans h.len hm, h.ok⟩
theorem Rp.flat {k m : Nat} {d : D} (h : Rp k m d) : Flat k d := ⟨h.lay, h.dep⟩
theorem log_le10 {i : Int} {k : Nat} (h : i.natAbs < 10 ^ k) (hk : k ≤ 400) : i.natAbs.log2 < 1920 := by
  by_cases z : i.natAbs = 0
  · rw [z]; simp
  · refine (Nat.log2_lt z).mpr (Nat.lt_of_lt_of_le h ?_)
    refine Nat.le_trans (Nat.pow_le_pow_right (by decide) hk) ?_
    decide +kernel
theorem len_ofString (s : String) : (Str.ofString s).length = s.length := by
  have e : (Str.ofString s).cps.toList = s.toList.map Char.toNat := by
    unfold Str.ofString
    simp only [cpsOfBytes_string]
  show (Str.ofString s).cps.size = _
  rw [← Array.length_toList, e, List.length_map]
  exact String.length_toList
theorem rp_int {i : Int} {k : Nat} (hk : 0 < k) (h : i.natAbs < 10 ^ k) (h4 : k ≤ 400) : Rp 0 (k + 1) (.int i) := by
  refine ⟨by simp only [D.py, PyData.canLay0], by simp only [D.py, PyData.showable, decide_eq_true_eq]; exact log_le10 h h4, by simp only [D.py, PyData.depth]; omega, ?_, ?_⟩
  · simp only [D.py, PyData.shown]
    show (Str.ofString (toString i)).length ≤ _
    rw [len_ofString]
    exact int_text_length_le10 hk h
  · simp only [D.py, PyData.shown]
    exact sok_ofString _
theorem rp_non : Rp 0 4 .non := ⟨by simp only [D.py, PyData.canLay0], by simp only [D.py, PyData.showable], by simp only [D.py, PyData.depth]; omega, by simp only [D.py, PyData.shown]; decide +kernel, by simp only [D.py, PyData.shown]; decide +kernel⟩
theorem rp_bl (b : Bool) : Rp 0 5 (.bl b) := by
  refine ⟨by simp only [D.py, PyData.canLay0], by simp only [D.py, PyData.showable], by simp only [D.py, PyData.depth]; omega, ?_, ?_⟩
  · cases b <;> simp only [D.py, PyData.shown] <;> decide +kernel
  · cases b <;> simp only [D.py, PyData.shown] <;> decide +kernel
theorem rp_str {x : Str} {m : Nat} (h1 : PyData.strOk x = true) (h2 : (reprText x).length ≤ m) (h3 : PyData.strOk (reprText x) = true) : Rp 0 m (.str x) :=
  ⟨by simp only [D.py, PyData.canLay0]; exact h1, by simp only [D.py, PyData.showable], by simp only [D.py, PyData.depth]; omega, by simp only [D.py, PyData.shown]; exact h2, by simp only [D.py, PyData.shown]; exact h3⟩
theorem shAll : ∀ {xs : List PyData}, (∀ x ∈ xs, x.showable = true) → PyData.showableAll xs = true
  | [], _ => by simp only [PyData.showableAll]
  | x :: r, h => by simp only [PyData.showableAll, h x (List.mem_cons_self ..), shAll (xs := r) (fun y hy => h y (List.mem_cons_of_mem _ hy)), Bool.and_self]
theorem join_ok : ∀ {ts : List Str}, (∀ t ∈ ts, PyData.strOk t = true) → PyData.strOk (Str.join ", " ts) = true
  | [], _ => by decide +kernel
  | [x], h => h x (List.mem_cons_self ..)
  | x :: y :: r, h => by
    have ih := join_ok (ts := y :: r) fun t ht => h t (List.mem_cons_of_mem _ ht)
    exact sok_app (sok_app (h x (List.mem_cons_self ..)) (by decide +kernel)) ih
theorem join_le {m : Nat} : ∀ {ts : List Str}, (∀ t ∈ ts, t.length ≤ m) → (Str.join ", " ts).length ≤ ts.length * (m + 2)
  | [], _ => by show (0 : Nat) ≤ _; omega
  | [x], h => by
    have := h x (List.mem_cons_self ..)
    show x.length ≤ 1 * (m + 2)
    omega
  | x :: y :: r, h => by
    have ih := join_le (m := m) (ts := y :: r) fun t ht => h t (List.mem_cons_of_mem _ ht)
    have h0 := h x (List.mem_cons_self ..)
    show (x ++ ", " ++ Str.join ", " (y :: r)).length ≤ _
    rw [len_app, len_app]
    have e2 : ((", " : String) : Str).length = 2 := rfl
    rw [e2]
    simp only [List.length_cons] at ih ⊢
    have : (r.length + 1 + 1) * (m + 2) = (r.length + 1) * (m + 2) + (m + 2) := by rw [Nat.add_mul]; omega
    omega
theorem shownAll_mem : ∀ {ds : List D} {t : Str}, t ∈ PyData.shownAll (D.pys ds) → ∃ d ∈ ds, t = d.py.shown
  | [], t, h => by simp only [D.pys, PyData.shownAll] at h; cases h
  | d :: r, t, h => by
    simp only [D.pys, PyData.shownAll] at h
    rcases List.mem_cons.mp h with e | h
    · exact ⟨d, List.mem_cons_self .., e⟩
    · obtain ⟨d', hd, e⟩ := shownAll_mem h
      exact ⟨d', List.mem_cons_of_mem _ hd, e⟩
theorem shownAll_len : ∀ ds : List D, (PyData.shownAll (D.pys ds)).length = ds.length
  | [] => by simp only [D.pys, PyData.shownAll, List.length_nil]
  | d :: r => by simp only [D.pys, PyData.shownAll, List.length_cons, shownAll_len r]
theorem rp_tup {k m n : Nat} {ds : List D} (h : ∀ d ∈ ds, Rp k m d) (hn : ds.length ≤ n) : Rp (k + 1) (n * (m + 2) + 3) (.tup ds) := by
  have f := flat_tup (n := k) (ds := ds) fun d hd => (h d hd).flat
  have hj : (Str.join ", " (PyData.shownAll (D.pys ds))).length ≤ n * (m + 2) := by
    refine Nat.le_trans (join_le (m := m) fun t ht => ?_) ?_
    · obtain ⟨d, hd, rfl⟩ := shownAll_mem ht
      exact (h d hd).len
    · rw [shownAll_len]; exact Nat.mul_le_mul_right _ hn
  refine ⟨f.1, ?_, f.2, ?_, ?_⟩
  · simp only [D.py, PyData.showable]
    exact shAll (pys_all (P := fun x => x.showable = true) fun d hd => (h d hd).sh)
  · simp only [D.py, PyData.shown]
    unfold tupleText
    rw [len_app, len_app]
    have e1 : ((")" : String) : Str).length = 1 := rfl
    have e0 : (("(" : String) : Str).length = 1 := rfl
    have e2 : ((",)" : String) : Str).length = 2 := rfl
    rw [e0]
    split
    · rw [e2]; omega
    · rw [e1]; omega
  · simp only [D.py, PyData.shown]
    unfold tupleText
    refine sok_app (sok_app (by decide +kernel) (join_ok fun t ht => ?_)) ?_
    · obtain ⟨d, hd, rfl⟩ := shownAll_mem ht
      exact (h d hd).ok
    · split <;> decide +kernel
/-- repr is told -/
theorem repr_rp {k m : Nat} {d : D} (h : Rp k m d) (hk : k ≤ 32) (hm : m ≤ 16000000) (hd : match d with | .dic _ => False | .ro _ => False | .mref _ => False | .err _ _ => False | _ => True) : bi .repr [d] = .ok (.str d.py.shown) := by
  have h1 : decide (d.py.depth ≤ 32) = true := decide_eq_true (Nat.le_trans h.dep hk)
  have h2 : decide (d.py.shown.length ≤ LIM) = true := decide_eq_true (by have := h.len; rw [LIM_val]; omega)
  cases d with
  | dic _ => exact hd.elim
  | ro _ => exact hd.elim
  | mref _ => exact hd.elim
  | err _ _ => exact hd.elim
  | _ => simp only [bi, h.lay, h.sh, h1, h2, Bool.and_self, if_true]
theorem ne_shown {k m : Nat} {d : D} (h : Rp k m d) : cop .ne (.str d.py.shown) (.str d.py.shown) = .ok false := ne_self (flat_str h.ok) (by omega)
theorem eq_shown {k m : Nat} {d : D} (h : Rp k m d) : cop .eq (.str d.py.shown) (.str d.py.shown) = .ok true := eq_self (flat_str h.ok) (by omega)
end En

set_option Elab.async false
set_option linter.all false
set_option maxRecDepth 100000
set_option maxHeartbeats 1000000
namespace En
open PySem
section
variable {Γ : Fns} {C : Nat → Option D} {env : Env} {st st1 st2 st3 : Sto} {o k x : CE} {kvs : List (L2.Key × D)} {t : Str} {xd : D}
theorem ev_dget (h1 : evE Γ C o env st = .ok (.dic kvs, st1)) (h2 : evE Γ C k env st1 = .ok (.str t, st2)) (h3 : evE Γ C x env st2 = .ok (xd, st3)) : evE Γ C (.dget o k (some x)) env st = .ok ((dget kvs (.inr t)).getD xd, st3) := by
  have e : evO Γ C (some x) env st2 = .ok (some xd, st3) := by rw [evO, h3]; rfl
  rw [x_dget, h1, rb]
  show ((asDic (.dic kvs)).bind fun _ => _) = _
  show ((evE Γ C k env st1).bind _) = _
  rw [h2, rb]
  show ((evO Γ C (some x) env st2).bind _) = _
  rw [e, rb]
  rfl
end
theorem ev_bin {Γ : Fns} {C : Nat → Option D} {env : Env} {st st1 st2 : Sto} {op : BOp} {a b : CE} {x y d : D} (h1 : evE Γ C a env st = .ok (x, st1)) (h2 : evE Γ C b env st1 = .ok (y, st2)) (h3 : bop op (snap st2 x) (snap st2 y) = .ok d) : evE Γ C (.bin op a b) env st = .ok (d, st2) := by
  rw [x_bin, h1, rb]
  show ((evE Γ C b env st1).bind _) = _
  rw [h2, rb]
  show ((bop op (snap st2 x) (snap st2 y)).bind _) = _
  rw [h3, rb]
theorem a_name (i : Nat) (d : D) (env : Env) : asgT (.name i) d env = some (env.set i (some d)) := rfl
theorem a_tup (ts : List Tg) (ds : List D) (env : Env) : asgT (.tup ts) (.tup ds) env = asgTs ts ds env := rfl
theorem as_nil (env : Env) : asgTs [] [] env = some env := rfl
theorem as_cons (t : Tg) (ts : List Tg) (d : D) (ds : List D) (env : Env) : asgTs (t :: ts) (d :: ds) env = match asgT t d env with
    | some env1 => asgTs ts ds env1
    | none => none := rfl
end En

set_option Elab.async false
set_option maxRecDepth 100000
set_option maxHeartbeats 4000000
namespace K00
open PySem En
abbrev gCon (x : Str) (i : Nat) : Str × GK := (x, .con i)
abbrev gFn (x : Str) (i np nd : Nat) : Str × GK := (x, .fn i np nd)
abbrev gD (x : Str) (d : D) : Str × D := (x, d)
def topS (i : Nat) : Stmt := PySem.Challenge.pw_enoughhands_k00_errors_of_plans.main.body.getD i (.Pass ⟨0, 0, 0, 0⟩)
abbrev gErr (x : Str) : Str × GK := (x, .err)
abbrev gS (x : Str) : Str := x
def errs : List Str := [gS "HandError", gS "BadPlan", gS "BadChoice", gS "BadDone", gS "BadNumber", gS "BadRun", gS "TooMany", gS "Unlike", gS "NoTask", gS "Same", gS "BadPairs", gS "Wide", gS "BadLot", gS "BadOther", gS "BadName", gS "BadTrade", gS "BadStock", gS "BadTasks", gS "BadSteps", gS "BadStairs", gS "BadBase", gS "NotEnough", gS "BadRow", gS "NotPlain", gS "BadRows", gS "BadStep", gS "BadCrew", gS "NoPerson", gS "BadTask", gS "Known", gS "Full", gS "NotKnown", gS "Last", gS "BadDuty", gS "Held", gS "NoDuty", gS "BadDeal", gS "Nobody", gS "BadAway", gS "BadStand", gS "BadShare", gS "NoDeal", gS "NotSimple", gS "Stuck", gS "Away", gS "NotNow", gS "Short", gS "NotKept", gS "Here", gS "NothingToUndo", gS "NothingToRedo", gS "NoTrial", gS "BadJournal", gS "BadSaying", gS "NotLet", gS "NoRun", gS "BadForeign", gS "BadTold", gS "BadStanding", gS "BadWorks", gS "BadDay", gS "NoRest", gS "BadOffers", gS "NoRests", gS "OtherWorks", gS "Apart", gS "BadPeople"]
def cons : List (Str × D) := []
def G : List (Str × GK) := [gFn "_law_pot" 0 2 0, gFn "_law_take" 1 2 0, gFn "_law_of" 2 2 0, gFn "_law_cells" 3 2 0, gFn "_law_odd" 4 1 0, gFn "_law_bent" 5 2 0, gFn "_law_made" 6 1 0, gFn "_law_marks" 7 1 0, gFn "_law_right" 8 1 0, gFn "law" 9 1 0, gErr "HandError", gErr "BadPlan", gErr "BadChoice", gErr "BadDone", gErr "BadNumber", gErr "BadRun", gErr "TooMany", gErr "Unlike", gErr "NoTask", gErr "Same", gErr "BadPairs", gErr "Wide", gErr "BadLot", gErr "BadOther", gErr "BadName", gErr "BadTrade", gErr "BadStock", gErr "BadTasks", gErr "BadSteps", gErr "BadStairs", gErr "BadBase", gErr "NotEnough", gErr "BadRow", gErr "NotPlain", gErr "BadRows", gErr "BadStep", gErr "BadCrew", gErr "NoPerson", gErr "BadTask", gErr "Known", gErr "Full", gErr "NotKnown", gErr "Last", gErr "BadDuty", gErr "Held", gErr "NoDuty", gErr "BadDeal", gErr "Nobody", gErr "BadAway", gErr "BadStand", gErr "BadShare", gErr "NoDeal", gErr "NotSimple", gErr "Stuck", gErr "Away", gErr "NotNow", gErr "Short", gErr "NotKept", gErr "Here", gErr "NothingToUndo", gErr "NothingToRedo", gErr "NoTrial", gErr "BadJournal", gErr "BadSaying", gErr "NotLet", gErr "NoRun", gErr "BadForeign", gErr "BadTold", gErr "BadStanding", gErr "BadWorks", gErr "BadDay", gErr "NoRest", gErr "BadOffers", gErr "NoRests", gErr "OtherWorks", gErr "Apart", gErr "BadPeople"]
/-- _law_pot -/
def f0 : Fn := ⟨2, 5, [], true, [.asg (.name 2) (.ite (.cmp .lt (.var 1) (.bi .len [(.var 0)])) (.idx (.var 0) (.var 1)) (.bin .add (.bin .mul (.lit (.int 697)) (.var 1)) (.lit (.int 371)))),
  .asg (.name 3) (.bin .mul (.bin .mod (.bi .int [(.bi .abs [(.var 2)])]) (.bin .pow (.bin .pow (.lit (.int 10)) (.lit (.int 60))) (.lit (.int 5)))) (.bi .int [(.cmp .ge (.bi .abs [(.var 2)]) (.bin .pow (.lit (.int 10)) (.lit (.int 18))))])),
  .asg (.name 4) (.bin .mod (.bi .int [(.var 2)]) (.lit (.int 2305843009213693951))),
  .ret (.lstM [(.var 3), (.bin .mod (.bi .int [(.bin .add (.bin .add (.bin .mul (.var 4) (.lit (.int 82601))) (.bin .mul (.bin .mul (.lit (.int 9277)) (.var 1)) (.var 1))) (.lit (.int 113)))]) (.lit (.int 2305843009213693921))), (.lit (.int 0))])]⟩
def r0 : Row := ⟨"_law_pot", topS 69, f0, ["_law_script", "_law_place", "_law_cell", "_law_own", "_law_small"], ["_law_script", "_law_place"], [], []⟩
/-- _law_take -/
def f1 : Fn := ⟨2, 5, [], false, [.ite (.cmp .gt (.idx (.var 0) (.lit (.int 0))) (.lit (.int 0))) [.asg (.name 4) (.bin .mod (.bi .int [(.idx (.var 0) (.lit (.int 0)))]) (.var 1)), .setix (.var 0) (.lit (.int 0)) (.bin .fdiv (.idx (.var 0) (.lit (.int 0))) (.var 1)), .ret (.var 4)] [],
  .setix (.var 0) (.lit (.int 2)) (.bin .add (.idx (.var 0) (.lit (.int 2))) (.lit (.int 1))),
  .asg (.name 2) (.idx (.lst [(.lit (.int 2147483647)), (.lit (.int 2147483629)), (.lit (.int 2147483587)), (.lit (.int 2147483579)), (.lit (.int 2147483563))]) (.bin .mod (.bi .int [(.idx (.var 0) (.lit (.int 2)))]) (.lit (.int 5)))),
  .asg (.name 3) (.bin .mod (.bi .int [(.bin .pow (.bi .int [(.bin .add (.bin .add (.idx (.var 0) (.lit (.int 1))) (.bin .mul (.bin .mul (.lit (.int 96911)) (.idx (.var 0) (.lit (.int 2)))) (.idx (.var 0) (.lit (.int 2))))) (.lit (.int 683)))]) (.lit (.int 3)))]) (.var 2)),
  .ret (.bin .mod (.bi .int [(.bin .fdiv (.bin .mul (.var 3) (.bin .add (.bin .mod (.bi .int [(.var 3)]) (.lit (.int 10193))) (.bin .mul (.lit (.int 91)) (.idx (.var 0) (.lit (.int 2)))))) (.lit (.int 131)))]) (.var 1))]⟩
def r1 : Row := ⟨"_law_take", topS 70, f1, ["_law_pot_here", "_law_upto", "_law_prime", "_law_blend", "_law_digit"], ["_law_pot_here", "_law_upto"], [], []⟩
/-- _law_of -/
def f2 : Fn := ⟨2, 2, [], false, [.ret (.idx (.var 1) (.call 1 [(.var 0), (.bi .len [(.var 1)])]))]⟩
def r2 : Row := ⟨"_law_of", topS 71, f2, ["_law_pot_here", "_law_some"], ["_law_pot_here", "_law_some"], [], []⟩
/-- _law_cells -/
def f3 : Fn := ⟨2, 2, [], false, [.ret (.rng1 false (.bi .max2 [(.lit (.int 1)), (.bi .min2 [(.var 1), (.bi .len [(.var 0)])])]))]⟩
def r3 : Row := ⟨"_law_cells", topS 72, f3, ["_law_script", "_law_limit"], ["_law_script", "_law_limit"], [], []⟩
/-- _law_odd -/
def f4 : Fn := ⟨1, 2, [], false, [.asg (.name 1) (.lst [(.lit .non), (.lit (.bl true)), (.lit (.bl false)), (.lit (.int 0)), (.lit (.int 1)), (.neg (.lit (.int 1))), (.lit (.int 7)), (.lit (.str "")), (.lit (.str "a")), (.lit (.str "then")), (.lit (.str "nosuch")), (.tup []), (.lst []), (.dlit []), (.tup [(.lit (.int 0))]), (.tup [(.tup [])]), (.lst [(.lit (.int 0))]), (.tup [(.lit (.str "a"))]), (.lit (.str "a b"))]),
  .asg (.name 1) (.bin .add (.var 1) (.lst [(.tup [(.lit (.str "a")), (.lit (.str "b"))]), (.tup [(.tup [(.lit (.str "a")), (.lit (.str "b"))])]), (.tup [(.lit .non)]), (.dlit [(.inr "a", .int 1)]), (.lit (.str "A")), (.tup [(.lit (.str "run")), (.tup [])]), (.lit (.str "then(a,b)")), (.tup [(.lit (.int 0)), (.lit (.int 0))]), (.bin .pow (.lit (.int 10)) (.lit (.int 8)))])),
  .ret (.call 2 [(.var 0), (.var 1)])]⟩
def r4 : Row := ⟨"_law_odd", topS 73, f4, ["_law_pot_here", "_law_some"], ["_law_pot_here"], [], []⟩
/-- _law_bent -/
def f5 : Fn := ⟨2, 4, [], false, [.ite (.and [(.bi .isTuple [(.var 1)]), (.cmp .ne (.var 1) (.tup [])), (.cmp .gt (.call 1 [(.var 0), (.lit (.int 6))]) (.lit (.int 0)))]) [.asg (.name 2) (.call 1 [(.var 0), (.bi .len [(.var 1)])]), .ret (.bin .add (.bin .add (.slc (.var 1) none (some (.var 2))) (.tup [(.call 5 [(.var 0), (.idx (.var 1) (.var 2))])])) (.slc (.var 1) (some (.bin .add (.var 2) (.lit (.int 1)))) none))] [],
  .ite (.bi .isTuple [(.var 1)]) [.asg (.name 3) (.lst [(.bi .list [(.var 1)]), (.slc (.var 1) (some (.lit (.int 1))) none), (.slc (.var 1) none (some (.neg (.lit (.int 1))))), (.bin .add (.var 1) (.slc (.var 1) (some (.neg (.lit (.int 1)))) none)), (.rev (.var 1)), (.tup []), (.lit .non), (.bin .add (.var 1) (.tup [(.lit (.str "a"))]))]), .ret (.call 2 [(.var 0), (.var 3)])] [],
  .ite (.bi .isBool [(.var 1)]) [.ret (.call 2 [(.var 0), (.lst [(.not (.var 1)), (.bi .int [(.var 1)]), (.lit .non)])])] [],
  .ite (.bi .isInt [(.var 1)]) [.ret (.call 2 [(.var 0), (.lst [(.bin .add (.var 1) (.lit (.int 1))), (.bin .sub (.var 1) (.lit (.int 1))), (.cmp .eq (.var 1) (.lit (.int 1))), (.neg (.var 1)), (.lit (.str "1")), (.lit (.int 0)), (.lit .non), (.tup [(.var 1)])])])] [],
  .ite (.bi .isStr [(.var 1)]) [.asg (.name 3) (.lst [(.bin .add (.var 1) (.lit (.str "x"))), (.slc (.var 1) none (some (.neg (.lit (.int 1))))), (.rev (.var 1)), (.lit (.str "a")), (.lit (.str "b")), (.lit (.str "then")), (.lit (.str "nosuch")), (.lit .non), (.lit (.int 0)), (.lst [(.var 1)]), (.tup [(.var 1)])]), .ret (.call 2 [(.var 0), (.var 3)])] [],
  .ret (.call 4 [(.var 0)])]⟩
def r5 : Row := ⟨"_law_bent", topS 74, f5, ["_law_pot_here", "_law_value", "_law_at", "_law_some"], ["_law_pot_here", "_law_value"], [], []⟩
/-- _law_made -/
def f6 : Fn := ⟨1, 2, [], false, [.asg (.name 1) (.lstM [(.mkErr "BadPlan" (.var 0)), (.mkErr "BadChoice" (.var 0)), (.mkErr "BadDone" (.var 0)), (.mkErr "BadNumber" (.var 0)), (.mkErr "BadRun" (.var 0)), (.mkErr "TooMany" (.var 0))]),
  .ex (.extend (.var 1) (.lst [(.mkErr "Unlike" (.var 0)), (.mkErr "NoTask" (.var 0)), (.mkErr "Same" (.var 0)), (.mkErr "BadPairs" (.var 0)), (.mkErr "Wide" (.var 0)), (.mkErr "BadLot" (.var 0))])),
  .ex (.extend (.var 1) (.lst [(.mkErr "BadOther" (.var 0)), (.mkErr "BadName" (.var 0)), (.mkErr "BadTrade" (.var 0)), (.mkErr "BadStock" (.var 0)), (.mkErr "BadTasks" (.var 0))])),
  .ex (.extend (.var 1) (.lst [(.mkErr "BadSteps" (.var 0)), (.mkErr "BadStairs" (.var 0)), (.mkErr "BadBase" (.var 0)), (.mkErr "NotEnough" (.var 0)), (.mkErr "BadRow" (.var 0))])),
  .ex (.extend (.var 1) (.lst [(.mkErr "NotPlain" (.var 0)), (.mkErr "BadRows" (.var 0)), (.mkErr "BadStep" (.var 0)), (.mkErr "BadCrew" (.var 0)), (.mkErr "NoPerson" (.var 0)), (.mkErr "BadTask" (.var 0))])),
  .ex (.extend (.var 1) (.lst [(.mkErr "Known" (.var 0)), (.mkErr "Full" (.var 0)), (.mkErr "NotKnown" (.var 0)), (.mkErr "Last" (.var 0)), (.mkErr "BadDuty" (.var 0)), (.mkErr "Held" (.var 0))])),
  .ex (.extend (.var 1) (.lst [(.mkErr "NoDuty" (.var 0)), (.mkErr "BadDeal" (.var 0)), (.mkErr "Nobody" (.var 0)), (.mkErr "BadAway" (.var 0)), (.mkErr "BadStand" (.var 0)), (.mkErr "BadShare" (.var 0))])),
  .ex (.extend (.var 1) (.lst [(.mkErr "NoDeal" (.var 0)), (.mkErr "NotSimple" (.var 0)), (.mkErr "Stuck" (.var 0)), (.mkErr "Away" (.var 0)), (.mkErr "NotNow" (.var 0)), (.mkErr "Short" (.var 0))])),
  .ex (.extend (.var 1) (.lst [(.mkErr "NotKept" (.var 0)), (.mkErr "Here" (.var 0)), (.mkErr "NothingToUndo" (.var 0)), (.mkErr "NothingToRedo" (.var 0)), (.mkErr "NoTrial" (.var 0))])),
  .ex (.extend (.var 1) (.lst [(.mkErr "BadJournal" (.var 0)), (.mkErr "BadSaying" (.var 0)), (.mkErr "NotLet" (.var 0)), (.mkErr "NoRun" (.var 0)), (.mkErr "BadForeign" (.var 0))])),
  .ex (.extend (.var 1) (.lst [(.mkErr "BadTold" (.var 0)), (.mkErr "BadStanding" (.var 0)), (.mkErr "BadWorks" (.var 0)), (.mkErr "BadDay" (.var 0)), (.mkErr "NoRest" (.var 0))])),
  .ret (.bin .add (.var 1) (.lst [(.mkErr "BadOffers" (.var 0)), (.mkErr "NoRests" (.var 0)), (.mkErr "OtherWorks" (.var 0)), (.mkErr "Apart" (.var 0)), (.mkErr "BadPeople" (.var 0))]))]⟩
def r6 : Row := ⟨"_law_made", topS 75, f6, ["_law_value", "_law_found"], ["_law_value"], ["_law_found"], []⟩
/-- _law_marks -/
def f7 : Fn := ⟨1, 2, [], false, [.asg (.name 1) (.lstM [(.isErr "BadPlan" (.var 0)), (.isErr "BadChoice" (.var 0)), (.isErr "BadDone" (.var 0))]),
  .ex (.extend (.var 1) (.lst [(.isErr "BadNumber" (.var 0)), (.isErr "BadRun" (.var 0)), (.isErr "TooMany" (.var 0))])),
  .ex (.extend (.var 1) (.lst [(.isErr "Unlike" (.var 0)), (.isErr "NoTask" (.var 0)), (.isErr "Same" (.var 0))])),
  .ex (.extend (.var 1) (.lst [(.isErr "BadPairs" (.var 0)), (.isErr "Wide" (.var 0)), (.isErr "BadLot" (.var 0))])),
  .ex (.extend (.var 1) (.lst [(.isErr "BadOther" (.var 0)), (.isErr "BadName" (.var 0)), (.isErr "BadTrade" (.var 0))])),
  .ex (.extend (.var 1) (.lst [(.isErr "BadStock" (.var 0)), (.isErr "BadTasks" (.var 0)), (.isErr "BadSteps" (.var 0))])),
  .ex (.extend (.var 1) (.lst [(.isErr "BadStairs" (.var 0)), (.isErr "BadBase" (.var 0)), (.isErr "NotEnough" (.var 0))])),
  .ex (.extend (.var 1) (.lst [(.isErr "BadRow" (.var 0)), (.isErr "NotPlain" (.var 0)), (.isErr "BadRows" (.var 0))])),
  .ex (.extend (.var 1) (.lst [(.isErr "BadStep" (.var 0)), (.isErr "BadCrew" (.var 0)), (.isErr "NoPerson" (.var 0))])),
  .ex (.extend (.var 1) (.lst [(.isErr "BadTask" (.var 0)), (.isErr "Known" (.var 0)), (.isErr "Full" (.var 0))])),
  .ex (.extend (.var 1) (.lst [(.isErr "NotKnown" (.var 0)), (.isErr "Last" (.var 0)), (.isErr "BadDuty" (.var 0))])),
  .ex (.extend (.var 1) (.lst [(.isErr "Held" (.var 0)), (.isErr "NoDuty" (.var 0)), (.isErr "BadDeal" (.var 0))])),
  .ex (.extend (.var 1) (.lst [(.isErr "Nobody" (.var 0)), (.isErr "BadAway" (.var 0)), (.isErr "BadStand" (.var 0))])),
  .ex (.extend (.var 1) (.lst [(.isErr "BadShare" (.var 0)), (.isErr "NoDeal" (.var 0)), (.isErr "NotSimple" (.var 0))])),
  .ex (.extend (.var 1) (.lst [(.isErr "Stuck" (.var 0)), (.isErr "Away" (.var 0)), (.isErr "NotNow" (.var 0))])),
  .ex (.extend (.var 1) (.lst [(.isErr "Short" (.var 0)), (.isErr "NotKept" (.var 0)), (.isErr "Here" (.var 0))])),
  .ex (.extend (.var 1) (.lst [(.isErr "NothingToUndo" (.var 0)), (.isErr "NothingToRedo" (.var 0)), (.isErr "NoTrial" (.var 0))])),
  .ex (.extend (.var 1) (.lst [(.isErr "BadJournal" (.var 0)), (.isErr "BadSaying" (.var 0)), (.isErr "NotLet" (.var 0))])),
  .ex (.extend (.var 1) (.lst [(.isErr "NoRun" (.var 0)), (.isErr "BadForeign" (.var 0)), (.isErr "BadTold" (.var 0))])),
  .ex (.extend (.var 1) (.lst [(.isErr "BadStanding" (.var 0)), (.isErr "BadWorks" (.var 0)), (.isErr "BadDay" (.var 0))])),
  .ex (.extend (.var 1) (.lst [(.isErr "NoRest" (.var 0)), (.isErr "BadOffers" (.var 0)), (.isErr "NoRests" (.var 0))])),
  .ret (.bin .add (.var 1) (.lst [(.isErr "OtherWorks" (.var 0)), (.isErr "Apart" (.var 0)), (.isErr "BadPeople" (.var 0))]))]⟩
def r7 : Row := ⟨"_law_marks", topS 76, f7, ["_law_error", "_law_found"], ["_law_error"], ["_law_found"], []⟩
/-- _law_right -/
def f8 : Fn := ⟨1, 7, [], false, [.for_ (.name 1) (.seq (.tup [(.call 4 [(.var 0)]), (.call 5 [(.var 0), (.tup [(.lit (.int 2)), (.tup [(.lit (.str "a")), (.lit (.str "b"))])])]), (.call 5 [(.var 0), (.tup [(.tup [(.lit (.str "a"))]), (.tup []), (.lit (.int 3))])])])) [.asg (.name 2) (.call 6 [(.var 1)]), .for_ (.tup [(.name 4), (.name 5)]) (.enum (.var 2)) [.ite (.or [(.not (.isErr "HandError" (.var 5))), (.not (.isErr "ValueError" (.var 5)))]) [.ret (.lit (.bl false))] [], .ite (.or [(.cmp .ne (.bi .repr [(.errVal (.var 5))]) (.bi .repr [(.var 1)])), (.cmp .ne (.call 7 [(.var 5)]) (.comp (.name 6) (.range1 (.bi .len [(.var 2)])) none (.cmp .eq (.var 4) (.var 6)) [6]))]) [.ret (.lit (.bl false))] []], .asg (.name 3) (.mkErr "HandError" (.var 1)), .ite (.or [(.cmp .ne (.bi .repr [(.errVal (.var 3))]) (.bi .repr [(.var 1)])), (.cmp .isin (.lit (.bl true)) (.call 7 [(.var 3)])), (.not (.isErr "ValueError" (.var 3)))]) [.ret (.lit (.bl false))] []],
  .ret (.lit (.bl true))]⟩
def r8 : Row := ⟨"_law_right", topS 77, f8, ["_law_pot_here", "_law_value", "_law_errors", "_law_bare", "_law_at", "_law_error", "_law_place"], ["_law_pot_here"], [], []⟩
/-- law -/
def f9 : Fn := ⟨1, 2, [], false, [.ret (.bi .all [(.comp (.name 1) (.seq (.call 3 [(.var 0), (.lit (.int 2))])) none (.call 8 [(.call 0 [(.var 0), (.var 1)])]) [1])])]⟩
def r9 : Row := ⟨"law", topS 78, f9, ["_law_script", "_law_place"], ["_law_script"], [], []⟩
def rows : List Row := [r0, r1, r2, r3, r4, r5, r6, r7, r8, r9]
end K00

set_option Elab.async false
set_option maxRecDepth 100000
set_option maxHeartbeats 4000000
namespace K00
open PySem En L2 PyProof.Rows
theorem chk0 : RowChk G 60 r0 := ⟨rfl, ⟨rfl, rfl, rfl, by decide +kernel, rfl, by decide +kernel, by decide +kernel⟩, rfl, rfl⟩
theorem chk1 : RowChk G 60 r1 := ⟨rfl, ⟨rfl, rfl, rfl, by decide +kernel, rfl, by decide +kernel, by decide +kernel⟩, rfl, rfl⟩
theorem chk2 : RowChk G 60 r2 := ⟨rfl, ⟨rfl, rfl, rfl, by decide +kernel, rfl, by decide +kernel, by decide +kernel⟩, rfl, rfl⟩
theorem chk3 : RowChk G 60 r3 := ⟨rfl, ⟨rfl, rfl, rfl, by decide +kernel, rfl, by decide +kernel, by decide +kernel⟩, rfl, rfl⟩
theorem chk4 : RowChk G 60 r4 := ⟨rfl, ⟨rfl, rfl, rfl, by decide +kernel, rfl, by decide +kernel, by decide +kernel⟩, rfl, rfl⟩
theorem chk5 : RowChk G 60 r5 := ⟨rfl, ⟨rfl, rfl, rfl, by decide +kernel, rfl, by decide +kernel, by decide +kernel⟩, rfl, rfl⟩
theorem chk6 : RowChk G 60 r6 := ⟨rfl, ⟨rfl, rfl, rfl, by decide +kernel, rfl, by decide +kernel, by decide +kernel⟩, rfl, rfl⟩
theorem chk7 : RowChk G 60 r7 := ⟨rfl, ⟨rfl, rfl, rfl, by decide +kernel, rfl, by decide +kernel, by decide +kernel⟩, rfl, rfl⟩
theorem chk8 : RowChk G 60 r8 := ⟨rfl, ⟨rfl, rfl, rfl, by decide +kernel, rfl, by decide +kernel, by decide +kernel⟩, rfl, rfl⟩
theorem chk9 : RowChk G 60 r9 := ⟨rfl, ⟨rfl, rfl, rfl, by decide +kernel, rfl, by decide +kernel, by decide +kernel⟩, rfl, rfl⟩
theorem chks : En.AllP (RowChk G 60) rows := .cons chk0 (.cons chk1 (.cons chk2 (.cons chk3 (.cons chk4 (.cons chk5 (.cons chk6 (.cons chk7 (.cons chk8 (.cons chk9 (.nil))))))))))
section
variable {K : PySem.W.Frag} {h : Heap} {mg : Str → Option Value}
theorem row0 {f : Addr} {oc : Value} {od an : Option Addr} {osl : Array (Option Value)} {kV doc pm cdv ct : Value} (X : K.In h) (Gm : h.Ns mainGlobals mg) (a : PySem.W.nsIn K mainGlobals "_law_pot" = some (some (.ref f))) (l : K.lookup f = some ⟨oc, od, .func (PySem.W.fnOf "_law_pot" "_law_pot" (defArgs (topS 69)) (defBody (topS 69)) (defScope (topS 69)) .none kV doc pm an cdv ct), osl⟩) (c : PySem.W.codeIn K cdv "_law_pot" = true) (kp : PySem.W.keepIn K (.ref f) = true) : ∃ f fd, RowOk K mg r0 f fd :=
  rowOk0 (r := r0) X Gm a l c kp rfl rfl (fun _ _ _ _ _ _ us hl => match us, hl with | [_, _], _ => rfl)
theorem row1 {f : Addr} {oc : Value} {od an : Option Addr} {osl : Array (Option Value)} {kV doc pm cdv ct : Value} (X : K.In h) (Gm : h.Ns mainGlobals mg) (a : PySem.W.nsIn K mainGlobals "_law_take" = some (some (.ref f))) (l : K.lookup f = some ⟨oc, od, .func (PySem.W.fnOf "_law_take" "_law_take" (defArgs (topS 70)) (defBody (topS 70)) (defScope (topS 70)) .none kV doc pm an cdv ct), osl⟩) (c : PySem.W.codeIn K cdv "_law_take" = true) (kp : PySem.W.keepIn K (.ref f) = true) : ∃ f fd, RowOk K mg r1 f fd :=
  rowOk0 (r := r1) X Gm a l c kp rfl rfl (fun _ _ _ _ _ _ us hl => match us, hl with | [_, _], _ => rfl)
theorem row2 {f : Addr} {oc : Value} {od an : Option Addr} {osl : Array (Option Value)} {kV doc pm cdv ct : Value} (X : K.In h) (Gm : h.Ns mainGlobals mg) (a : PySem.W.nsIn K mainGlobals "_law_of" = some (some (.ref f))) (l : K.lookup f = some ⟨oc, od, .func (PySem.W.fnOf "_law_of" "_law_of" (defArgs (topS 71)) (defBody (topS 71)) (defScope (topS 71)) .none kV doc pm an cdv ct), osl⟩) (c : PySem.W.codeIn K cdv "_law_of" = true) (kp : PySem.W.keepIn K (.ref f) = true) : ∃ f fd, RowOk K mg r2 f fd :=
  rowOk0 (r := r2) X Gm a l c kp rfl rfl (fun _ _ _ _ _ _ us hl => match us, hl with | [_, _], _ => rfl)
theorem row3 {f : Addr} {oc : Value} {od an : Option Addr} {osl : Array (Option Value)} {kV doc pm cdv ct : Value} (X : K.In h) (Gm : h.Ns mainGlobals mg) (a : PySem.W.nsIn K mainGlobals "_law_cells" = some (some (.ref f))) (l : K.lookup f = some ⟨oc, od, .func (PySem.W.fnOf "_law_cells" "_law_cells" (defArgs (topS 72)) (defBody (topS 72)) (defScope (topS 72)) .none kV doc pm an cdv ct), osl⟩) (c : PySem.W.codeIn K cdv "_law_cells" = true) (kp : PySem.W.keepIn K (.ref f) = true) : ∃ f fd, RowOk K mg r3 f fd :=
  rowOk0 (r := r3) X Gm a l c kp rfl rfl (fun _ _ _ _ _ _ us hl => match us, hl with | [_, _], _ => rfl)
theorem row4 {f : Addr} {oc : Value} {od an : Option Addr} {osl : Array (Option Value)} {kV doc pm cdv ct : Value} (X : K.In h) (Gm : h.Ns mainGlobals mg) (a : PySem.W.nsIn K mainGlobals "_law_odd" = some (some (.ref f))) (l : K.lookup f = some ⟨oc, od, .func (PySem.W.fnOf "_law_odd" "_law_odd" (defArgs (topS 73)) (defBody (topS 73)) (defScope (topS 73)) .none kV doc pm an cdv ct), osl⟩) (c : PySem.W.codeIn K cdv "_law_odd" = true) (kp : PySem.W.keepIn K (.ref f) = true) : ∃ f fd, RowOk K mg r4 f fd :=
  rowOk0 (r := r4) X Gm a l c kp rfl rfl (fun _ _ _ _ _ _ us hl => match us, hl with | [_], _ => rfl)
theorem row5 {f : Addr} {oc : Value} {od an : Option Addr} {osl : Array (Option Value)} {kV doc pm cdv ct : Value} (X : K.In h) (Gm : h.Ns mainGlobals mg) (a : PySem.W.nsIn K mainGlobals "_law_bent" = some (some (.ref f))) (l : K.lookup f = some ⟨oc, od, .func (PySem.W.fnOf "_law_bent" "_law_bent" (defArgs (topS 74)) (defBody (topS 74)) (defScope (topS 74)) .none kV doc pm an cdv ct), osl⟩) (c : PySem.W.codeIn K cdv "_law_bent" = true) (kp : PySem.W.keepIn K (.ref f) = true) : ∃ f fd, RowOk K mg r5 f fd :=
  rowOk0 (r := r5) X Gm a l c kp rfl rfl (fun _ _ _ _ _ _ us hl => match us, hl with | [_, _], _ => rfl)
theorem row6 {f : Addr} {oc : Value} {od an : Option Addr} {osl : Array (Option Value)} {kV doc pm cdv ct : Value} (X : K.In h) (Gm : h.Ns mainGlobals mg) (a : PySem.W.nsIn K mainGlobals "_law_made" = some (some (.ref f))) (l : K.lookup f = some ⟨oc, od, .func (PySem.W.fnOf "_law_made" "_law_made" (defArgs (topS 75)) (defBody (topS 75)) (defScope (topS 75)) .none kV doc pm an cdv ct), osl⟩) (c : PySem.W.codeIn K cdv "_law_made" = true) (kp : PySem.W.keepIn K (.ref f) = true) : ∃ f fd, RowOk K mg r6 f fd :=
  rowOk0 (r := r6) X Gm a l c kp rfl rfl (fun _ _ _ _ _ _ us hl => match us, hl with | [_], _ => rfl)
theorem row7 {f : Addr} {oc : Value} {od an : Option Addr} {osl : Array (Option Value)} {kV doc pm cdv ct : Value} (X : K.In h) (Gm : h.Ns mainGlobals mg) (a : PySem.W.nsIn K mainGlobals "_law_marks" = some (some (.ref f))) (l : K.lookup f = some ⟨oc, od, .func (PySem.W.fnOf "_law_marks" "_law_marks" (defArgs (topS 76)) (defBody (topS 76)) (defScope (topS 76)) .none kV doc pm an cdv ct), osl⟩) (c : PySem.W.codeIn K cdv "_law_marks" = true) (kp : PySem.W.keepIn K (.ref f) = true) : ∃ f fd, RowOk K mg r7 f fd :=
  rowOk0 (r := r7) X Gm a l c kp rfl rfl (fun _ _ _ _ _ _ us hl => match us, hl with | [_], _ => rfl)
theorem row8 {f : Addr} {oc : Value} {od an : Option Addr} {osl : Array (Option Value)} {kV doc pm cdv ct : Value} (X : K.In h) (Gm : h.Ns mainGlobals mg) (a : PySem.W.nsIn K mainGlobals "_law_right" = some (some (.ref f))) (l : K.lookup f = some ⟨oc, od, .func (PySem.W.fnOf "_law_right" "_law_right" (defArgs (topS 77)) (defBody (topS 77)) (defScope (topS 77)) .none kV doc pm an cdv ct), osl⟩) (c : PySem.W.codeIn K cdv "_law_right" = true) (kp : PySem.W.keepIn K (.ref f) = true) : ∃ f fd, RowOk K mg r8 f fd :=
  rowOk0 (r := r8) X Gm a l c kp rfl rfl (fun _ _ _ _ _ _ us hl => match us, hl with | [_], _ => rfl)
theorem row9 {f : Addr} {oc : Value} {od an : Option Addr} {osl : Array (Option Value)} {kV doc pm cdv ct : Value} (X : K.In h) (Gm : h.Ns mainGlobals mg) (a : PySem.W.nsIn K mainGlobals "law" = some (some (.ref f))) (l : K.lookup f = some ⟨oc, od, .func (PySem.W.fnOf "law" "law" (defArgs (topS 78)) (defBody (topS 78)) (defScope (topS 78)) .none kV doc pm an cdv ct), osl⟩) (c : PySem.W.codeIn K cdv "law" = true) (kp : PySem.W.keepIn K (.ref f) = true) : ∃ f fd, RowOk K mg r9 f fd :=
  rowOk0 (r := r9) X Gm a l c kp rfl rfl (fun _ _ _ _ _ _ us hl => match us, hl with | [_], _ => rfl)
theorem ini {P : Program} {fI CH cc cda : Addr} {kV doc pm ct oc ccl cl : Value} {an od cdd cld : Option Addr} {osl ccs csl : Array (Option Value)} {vs : Array Value} {file : Str} {tf : Tok} {cdD : ClassData} (X : K.In h) (a0 : PySem.W.nsIn K mainGlobals "HandError" = some (some (.ref CH))) (a1 : PySem.W.findIn K (.ref CH) "__init__" = some (some (.ref fI))) (htop : (P.main.scope.names.lookup ("super" : Str)).isSome = false)
    (l : K.lookup fI = some ⟨oc, od, .func (PySem.W.ksFn "__init__" "HandError.__init__" (defArgs (iniOf (topS 1))) (defBody (iniOf (topS 1))) (defScope (iniOf (topS 1))) .none kV doc pm an (.ref cda) ct cc), osl⟩) (c : PySem.W.codeIn K (.ref cda) "HandError.__init__" = true)
    (lc : K.lookup cda = some ⟨ccl, cdd, .fields vs, ccs⟩) (hvs : vs[2]? = some (.str file tf)) (hfile : ((P.main.file : Str) == file) = true) (le : K.lookup cc = some ⟨cl, cld, .cell (some (.ref CH)), csl⟩) (hD : PySem.W.clsIn K CH = some cdD) (ty : PySem.W.typeIn K (.ref fI) = some (.type "function")) (op : PySem.W.nsIn K cStatics "thirdparty.any" = some none) : IniF P K fI CH :=
  ini_of (dV := .none) (S := iniOf (topS 1)) rfl (fun env => rfl) ⟨rfl, rfl, rfl, by decide +kernel, by decide +kernel, by decide +kernel, by decide +kernel, by decide +kernel⟩ rfl rfl (fun _ _ _ _ _ _ _ _ us hl => match us, hl with | [_, _], _ => rfl) htop hfile l c lc hvs le hD ty op
end
end K00

set_option Elab.async false
set_option linter.all false
set_option maxRecDepth 100000
set_option maxHeartbeats 1000000
namespace K00
open PySem En
abbrev T : List Fn := rows.map Row.fn
abbrev C : Nat → Option D := conOf cons
theorem call_eq {F n j : Nat} {fn : Fn} {ds : List D} {st : Sto} (h : T[j]? = some fn) : callN T C F (n + 1) j ds st = runFn (callN T C F n) C F fn ds st := by
  show (match T[j]? with | some fn => _ | none => _) = _
  rw [h]
theorem fill0 {fn : Fn} (h : fn.defs = []) (ds : List D) : fillD fn ds = ds := by unfold fillD; rw [h]; simp
theorem run0 {Γ : Fns} {F : Nat} {fn : Fn} {ds : List D} {st : Sto} (h : fn.defs = []) (hl : ds.length = fn.np) : runFn Γ C F fn ds st = runBody Γ C F fn ds st := by
  unfold runFn; rw [fill0 h, if_pos hl]
/-- the pot at place i of the store -/
structure Pot (st : Sto) (i : Nat) (o s c : Int) (k : Nat) : Prop where
  at_ : st[i]? = some (.lst [.int o, .int s, .int c])
  o0 : 0 ≤ o
  o1 : o < 10 ^ 300
  s0 : 0 ≤ s
  s1 : s < 2 ^ 61
  c0 : 0 ≤ c
  c1 : c ≤ k
theorem take_run {F n : Nat} {st : Sto} {i : Nat} {o s c : Int} {k : Nat} {u : Int} (p : Pot st i o s c k) (hk : k < 2 ^ 30) (u0 : 0 < u) (u1 : u < 2 ^ 30) :
    ∃ r o' c', callN T C F (n + 1) 1 [.mref i, .int u] st = .ok (.int r, st.set i (.lst [.int o', .int s, .int c'])) ∧ 0 ≤ r ∧ r < u ∧ 0 ≤ o' ∧ o' < 10 ^ 300 ∧ 0 ≤ c' ∧ c' ≤ k + 1 := by
  rw [call_eq (fn := f1) rfl, run0 rfl rfl]
  have hsn := sn_ml p.at_
  have lu : u.natAbs.log2 < 9000 := by have := log2_le (n := 30) (by omega) u1; omega
  by_cases ho : 0 < o
  · refine ⟨o % u, o / u, c, ?_, Int.emod_nonneg _ (by omega), Int.emod_lt_of_pos _ u0, Int.ediv_nonneg p.o0 (by omega), ?_, p.c0, by have := p.c1; omega⟩
    · simp (decide := true) only [runBody, List.map, List.length_cons, List.length_nil, List.replicate, List.cons_append, List.nil_append, evSs, x_lit, x_var, x_glob, x_bin, x_neg, x_not, x_cmp, x_chain, x_and, x_or, x_ite, x_tup, x_lst, x_lstM, x_idx, x_slc, x_rev, x_call, x_bi, x_copyM, x_append, x_extend, x_popAt, x_pop, x_frz, x_dnew, x_rng1, x_rng2, x_dget, y_asg, y_par, y_aug, y_ex, y_setix, y_ite, y_ret, y_retN, y_brk, y_cont, y_pass, y_never, y_frzV, evEs, evAnd, evOr, evT, evO, rb, List.getElem?_cons_zero, List.getElem?_cons_succ, sn_int, sn_str, sn_bl, sn_tup, sn_lst, sn_non, sn_dic, sn_ro, ix_l, ix_t, ix_r, ro_some, c_gt, c_ge, c_lt, c_le, decide_true, decide_false, ab, if_true, if_false, Bool.false_eq_true, Bool.not_true, Bool.not_false, bi_int, bi_intb, bi_abs, bi_lenl, bi_lent, bi_lenr, bi_tupl, b_add, b_sub, a_name, a_tup, as_nil, as_cons, setAll, List.set_cons_zero, List.set_cons_succ, ir_int, ir_str, ir_tup, ir_lst, ir_bl, ir_non, ir_dic, ir_ro, List.length_set, tn0, tn1, tn2, tn3, lim_ok, cl_int, cl_str, cl_bl, cl_non, cl_tup, cl_lst, cls_nil, cls_cons, cls_ints, cls_strs, cls_pairs, Bool.and_self, Bool.true_and, Bool.and_true, Bool.or_self, Bool.or_false, f1, hsn, at3_0, ho, b_mod u0, b_div ⟨u0, lu⟩, p.at_]
      exact fin_d rfl (by simp)
    · exact Int.lt_of_le_of_lt (Int.ediv_le_self _ p.o0) p.o1
  · have hs2 : ∀ x, snap (st.set i (.lst x)) (.mref i) = .lst x := fun x => sn_ml (set_at p.at_)
    have c0 := p.c0
    have c1 := p.c1
    have s0 := p.s0
    have s1 := p.s1
    obtain ⟨q, hq, hq0⟩ : ∃ q, atD [D.int 2147483647, D.int 2147483629, D.int 2147483587, D.int 2147483579, D.int 2147483563] ((c + 1) % 5) = some (.int q) ∧ 0 < q ∧ q < 2 ^ 31 := by
      have h5 : (c + 1) % 5 = 0 ∨ (c + 1) % 5 = 1 ∨ (c + 1) % 5 = 2 ∨ (c + 1) % 5 = 3 ∨ (c + 1) % 5 = 4 := by omega
      rcases h5 with h | h | h | h | h <;> rw [h] <;> exact ⟨_, rfl, by omega, by omega⟩
    have lc : (c + 1).natAbs.log2 ≤ 31 := log2_le (n := 31) (a := c + 1) (by omega) (by omega)
    have k1 : (96911 : Int).natAbs.log2 ≤ 17 := by decide
    have l1 : (96911 : Int).natAbs.log2 + (c + 1).natAbs.log2 < 1000000 := by omega
    have hm : 0 ≤ 96911 * (c + 1) ∧ 96911 * (c + 1) < 2 ^ 48 := ⟨by omega, by omega⟩
    have l2 : (96911 * (c + 1)).natAbs.log2 + (c + 1).natAbs.log2 < 1000000 := by have := log2_le (n := 48) hm.1 hm.2; omega
    have hm2 : 0 ≤ 96911 * (c + 1) * (c + 1) ∧ 96911 * (c + 1) * (c + 1) < 2 ^ 79 := by
      refine ⟨Int.mul_nonneg hm.1 (by omega), ?_⟩
      have : 96911 * (c + 1) * (c + 1) ≤ 2 ^ 48 * (c + 1) := Int.mul_le_mul_of_nonneg_right (by omega) (by omega)
      omega
    have hb : (Builtin.Int.intBits (s + 96911 * (c + 1) * (c + 1) + 683) : Int) * 3 ≤ 2 ^ 27 := by
      have := bits_le (n := 80) (a := s + 96911 * (c + 1) * (c + 1) + 683) (by omega) (by omega)
      omega
    have lp : (0 : Int) ≤ 3 ∧ (Builtin.Int.intBits (s + 96911 * (c + 1) * (c + 1) + 683) : Int) * 3 ≤ 2 ^ 27 := ⟨by decide, hb⟩
    generalize hx : (s + 96911 * (c + 1) * (c + 1) + 683) ^ 3 % q = x
    have x0 : 0 ≤ x := by rw [← hx]; exact Int.emod_nonneg _ (by omega)
    have x1 : x < 2 ^ 31 := by rw [← hx]; exact Int.lt_trans (Int.emod_lt_of_pos _ hq0.1) hq0.2
    have k2 : (91 : Int).natAbs.log2 ≤ 8 := by decide
    have l3 : (91 : Int).natAbs.log2 + (c + 1).natAbs.log2 < 1000000 := by omega
    have lx : x.natAbs.log2 ≤ 31 := log2_le x0 x1
    have y0 : 0 ≤ x % 10193 + 91 * (c + 1) ∧ x % 10193 + 91 * (c + 1) < 2 ^ 40 := ⟨by omega, by omega⟩
    have l4 : x.natAbs.log2 + (x % 10193 + 91 * (c + 1)).natAbs.log2 < 1000000 := by have := log2_le (n := 40) y0.1 y0.2; omega
    refine ⟨x * (x % 10193 + 91 * (c + 1)) / 131 % u, o, c + 1, ?_, Int.emod_nonneg _ (by omega), Int.emod_lt_of_pos _ u0, p.o0, p.o1, by omega, by omega⟩
    simp (decide := true) only [runBody, List.map, List.length_cons, List.length_nil, List.replicate, List.cons_append, List.nil_append, evSs, x_lit, x_var, x_glob, x_bin, x_neg, x_not, x_cmp, x_chain, x_and, x_or, x_ite, x_tup, x_lst, x_lstM, x_idx, x_slc, x_rev, x_call, x_bi, x_copyM, x_append, x_extend, x_popAt, x_pop, x_frz, x_dnew, x_rng1, x_rng2, x_dget, y_asg, y_par, y_aug, y_ex, y_setix, y_ite, y_ret, y_retN, y_brk, y_cont, y_pass, y_never, y_frzV, evEs, evAnd, evOr, evT, evO, rb, List.getElem?_cons_zero, List.getElem?_cons_succ, sn_int, sn_str, sn_bl, sn_tup, sn_lst, sn_non, sn_dic, sn_ro, ix_l, ix_t, ix_r, ro_some, c_gt, c_ge, c_lt, c_le, decide_true, decide_false, ab, if_true, if_false, Bool.false_eq_true, Bool.not_true, Bool.not_false, bi_int, bi_intb, bi_abs, bi_lenl, bi_lent, bi_lenr, bi_tupl, b_add, b_sub, a_name, a_tup, as_nil, as_cons, setAll, List.set_cons_zero, List.set_cons_succ, ir_int, ir_str, ir_tup, ir_lst, ir_bl, ir_non, ir_dic, ir_ro, List.length_set, tn0, tn1, tn2, tn3, lim_ok, cl_int, cl_str, cl_bl, cl_non, cl_tup, cl_lst, cls_nil, cls_cons, cls_ints, cls_strs, cls_pairs, Bool.and_self, Bool.true_and, Bool.and_true, Bool.or_self, Bool.or_false, f1, hsn, at3_0, at3_1, at3_2, ho, p.at_, hs2, b_mod, hq, b_mul l1, b_mul l2, b_pow lp, b_mod hq0.1, hx, b_mul l3, b_mul l4, b_div, b_mod u0]
    exact fin_d rfl (by simp)
/-- _law_of -/
theorem of_run {F n : Nat} {st : Sto} {i : Nat} {o s c : Int} {k : Nat} {ds : List D} (p : Pot st i o s c k) (hk : k < 2 ^ 30) (h0 : ds ≠ []) (h1 : ds.length < 2 ^ 20) (href : ∀ d ∈ ds, d.clean = true) :
    ∃ d st' o' c', callN T C F (n + 2) 2 [.mref i, .lst ds] st = .ok (d, st') ∧ d ∈ ds ∧ st' = st.set i (.lst [.int o', .int s, .int c']) ∧ Pot st' i o' s c' (k + 1) := by
  have hl : 0 < ds.length := by cases ds with | nil => exact absurd rfl h0 | cons => simp
  obtain ⟨r, o', c', e, r0, r1, a0, a1, b0, b1⟩ := take_run (F := F) (n := n) (u := (ds.length : Int)) p hk (by omega) (by omega)
  have hr : r.toNat < ds.length := by omega
  have hat : atD ds r = some ds[r.toNat] := at_nat r0 hr
  refine ⟨ds[r.toNat], _, o', c', ?_, List.getElem_mem _, rfl, ⟨set_at p.at_, a0, a1, p.s0, p.s1, b0, by omega⟩⟩
  rw [call_eq (fn := f2) rfl, run0 rfl rfl]
  simp (decide := true) only [runBody, List.map, List.length_cons, List.length_nil, List.replicate, List.cons_append, List.nil_append, evSs, x_lit, x_var, x_glob, x_bin, x_neg, x_not, x_cmp, x_chain, x_and, x_or, x_ite, x_tup, x_lst, x_lstM, x_idx, x_slc, x_rev, x_call, x_bi, x_copyM, x_append, x_extend, x_popAt, x_pop, x_frz, x_dnew, x_rng1, x_rng2, x_dget, y_asg, y_par, y_aug, y_ex, y_setix, y_ite, y_ret, y_retN, y_brk, y_cont, y_pass, y_never, y_frzV, evEs, evAnd, evOr, evT, evO, rb, List.getElem?_cons_zero, List.getElem?_cons_succ, sn_int, sn_str, sn_bl, sn_tup, sn_lst, sn_non, sn_dic, sn_ro, ix_l, ix_t, ix_r, ro_some, c_gt, c_ge, c_lt, c_le, decide_true, decide_false, ab, if_true, if_false, Bool.false_eq_true, Bool.not_true, Bool.not_false, bi_int, bi_intb, bi_abs, bi_lenl, bi_lent, bi_lenr, bi_tupl, b_add, b_sub, a_name, a_tup, as_nil, as_cons, setAll, List.set_cons_zero, List.set_cons_succ, ir_int, ir_str, ir_tup, ir_lst, ir_bl, ir_non, ir_dic, ir_ro, List.length_set, tn0, tn1, tn2, tn3, lim_ok, cl_int, cl_str, cl_bl, cl_non, cl_tup, cl_lst, cls_nil, cls_cons, cls_ints, cls_strs, cls_pairs, Bool.and_self, Bool.true_and, Bool.and_true, Bool.or_self, Bool.or_false, f2, e, hat]
  exact fin_d (href _ (List.getElem_mem _)) (by simp)
def W300 : Int := (10 ^ 60) ^ 5
def W18 : Int := 10 ^ 18
theorem W300_eq : W300 = 10 ^ 300 := by decide +kernel
theorem W300_pos : 0 < W300 := by decide +kernel
theorem W300_lt : W300 < 2 ^ 997 := by decide +kernel
theorem ev_300 {Γ : Fns} {env : En.Env} {st : Sto} : evE Γ C (.bin .pow (.bin .pow (.lit (.int 10)) (.lit (.int 60))) (.lit (.int 5))) env st = .ok (.int W300, st) := by
  have h1 : bop .pow (.int 10) (.int 60) = .ok (.int (10 ^ 60)) := b_pow (i := 10) (j := 60) ⟨by decide, by decide +kernel⟩
  have h2 : bop .pow (.int (10 ^ 60)) (.int 5) = .ok (.int W300) := b_pow (i := 10 ^ 60) (j := 5) ⟨by decide, by decide +kernel⟩
  exact ev_bin (ev_bin (x_lit _ _ _) (x_lit _ _ _) h1) (x_lit _ _ _) h2
theorem ev_18 {Γ : Fns} {env : En.Env} {st : Sto} : evE Γ C (.bin .pow (.lit (.int 10)) (.lit (.int 18))) env st = .ok (.int W18, st) := by
  have h1 : bop .pow (.int 10) (.int 18) = .ok (.int W18) := b_pow (i := 10) (j := 18) ⟨by decide, by decide +kernel⟩
  exact ev_bin (x_lit _ _ _) (x_lit _ _ _) h1
theorem log_sm {a : Int} {n : Nat} (h0 : 0 ≤ a) (h : a < 2 ^ n) {b : Int} {m : Nat} (g0 : 0 ≤ b) (g : b < 2 ^ m) (hn : n + m < 1000000) : a.natAbs.log2 + b.natAbs.log2 < 1000000 := by
  have := log2_le h0 h
  have := log2_le g0 g
  omega
theorem pot_run {F n : Nat} {st : Sto} {zs : List Int} {p : Nat} (hp : p < 64) :
    ∃ o s, callN T C F (n + 1) 0 [.ro (zs.map .int), .int p] st = .ok (.mref st.length, st ++ [.lst [.int o, .int s, .int 0]]) ∧ 0 ≤ o ∧ o < 10 ^ 300 ∧ 0 ≤ s ∧ s < 2 ^ 61 := by
  rw [call_eq (fn := f0) rfl, run0 rfl rfl]
  generalize hΓ : callN T C F n = Γ
  obtain ⟨cell, e1⟩ : ∃ cell : Int, evS Γ C F (.asg (.name 2) (.ite (.cmp .lt (.var 1) (.bi .len [(.var 0)])) (.idx (.var 0) (.var 1)) (.bin .add (.bin .mul (.lit (.int 697)) (.var 1)) (.lit (.int 371))))) [some (.ro (zs.map .int)), some (.int p), none, none, none] st = .ok (.next, [some (.ro (zs.map .int)), some (.int p), some (.int cell), none, none], st) := by
    by_cases h : p < zs.length
    · have h1 : decide ((p : Int) < ((zs.map D.int).length : Int)) = true := by rw [decide_eq_true_eq, List.length_map]; omega
      have h2 : atD (zs.map D.int) (p : Int) = some (.int zs[p]) := by
        have := at_nat (ds := zs.map D.int) (r := (p : Int)) (by omega) (by rw [List.length_map]; omega)
        rw [this]
        simp
      exact ⟨zs[p], by simp (decide := true) only [runBody, List.map, List.length_cons, List.length_nil, List.replicate, List.cons_append, List.nil_append, evSs, x_lit, x_var, x_glob, x_bin, x_neg, x_not, x_cmp, x_chain, x_and, x_or, x_ite, x_tup, x_lst, x_lstM, x_idx, x_slc, x_rev, x_call, x_bi, x_copyM, x_append, x_extend, x_popAt, x_pop, x_frz, x_dnew, x_rng1, x_rng2, x_dget, y_asg, y_par, y_aug, y_ex, y_setix, y_ite, y_ret, y_retN, y_brk, y_cont, y_pass, y_never, y_frzV, evEs, evAnd, evOr, evT, evO, rb, List.getElem?_cons_zero, List.getElem?_cons_succ, sn_int, sn_str, sn_bl, sn_tup, sn_lst, sn_non, sn_dic, sn_ro, ix_l, ix_t, ix_r, ro_some, c_gt, c_ge, c_lt, c_le, decide_true, decide_false, ab, if_true, if_false, Bool.false_eq_true, Bool.not_true, Bool.not_false, bi_int, bi_intb, bi_abs, bi_lenl, bi_lent, bi_lenr, bi_tupl, b_add, b_sub, a_name, a_tup, as_nil, as_cons, setAll, List.set_cons_zero, List.set_cons_succ, ir_int, ir_str, ir_tup, ir_lst, ir_bl, ir_non, ir_dic, ir_ro, List.length_set, tn0, tn1, tn2, tn3, lim_ok, cl_int, cl_str, cl_bl, cl_non, cl_tup, cl_lst, cls_nil, cls_cons, cls_ints, cls_strs, cls_pairs, Bool.and_self, Bool.true_and, Bool.and_true, Bool.or_self, Bool.or_false, h1, h2]⟩
    · have h1 : decide ((p : Int) < ((zs.map D.int).length : Int)) = false := by rw [decide_eq_false_iff_not, List.length_map]; omega
      have h2 := b_mul (i := 697) (j := (p : Int)) (log_sm (n := 20) (m := 6) (by omega) (by omega) (by omega) (by omega) (by omega))
      exact ⟨697 * p + 371, by simp (decide := true) only [runBody, List.map, List.length_cons, List.length_nil, List.replicate, List.cons_append, List.nil_append, evSs, x_lit, x_var, x_glob, x_bin, x_neg, x_not, x_cmp, x_chain, x_and, x_or, x_ite, x_tup, x_lst, x_lstM, x_idx, x_slc, x_rev, x_call, x_bi, x_copyM, x_append, x_extend, x_popAt, x_pop, x_frz, x_dnew, x_rng1, x_rng2, x_dget, y_asg, y_par, y_aug, y_ex, y_setix, y_ite, y_ret, y_retN, y_brk, y_cont, y_pass, y_never, y_frzV, evEs, evAnd, evOr, evT, evO, rb, List.getElem?_cons_zero, List.getElem?_cons_succ, sn_int, sn_str, sn_bl, sn_tup, sn_lst, sn_non, sn_dic, sn_ro, ix_l, ix_t, ix_r, ro_some, c_gt, c_ge, c_lt, c_le, decide_true, decide_false, ab, if_true, if_false, Bool.false_eq_true, Bool.not_true, Bool.not_false, bi_int, bi_intb, bi_abs, bi_lenl, bi_lent, bi_lenr, bi_tupl, b_add, b_sub, a_name, a_tup, as_nil, as_cons, setAll, List.set_cons_zero, List.set_cons_succ, ir_int, ir_str, ir_tup, ir_lst, ir_bl, ir_non, ir_dic, ir_ro, List.length_set, tn0, tn1, tn2, tn3, lim_ok, cl_int, cl_str, cl_bl, cl_non, cl_tup, cl_lst, cls_nil, cls_cons, cls_ints, cls_strs, cls_pairs, Bool.and_self, Bool.true_and, Bool.and_true, Bool.or_self, Bool.or_false, h1, h2]⟩
  generalize hx : (if cell < 0 then -cell else cell) = x
  have x0 : 0 ≤ x := by rw [← hx]; split <;> omega
  have r0 : 0 ≤ x % W300 := Int.emod_nonneg _ (by have := W300_pos; omega)
  have r1 : x % W300 < W300 := Int.emod_lt_of_pos _ W300_pos
  generalize hr : x % W300 = r at *
  generalize hb : (if decide (W18 ≤ x) = true then (1 : Int) else 0) = b
  have b01 : b = 0 ∨ b = 1 := by rw [← hb]; split <;> simp
  have m1 : bop .mod (.int x) (.int W300) = .ok (.int r) := by rw [b_mod W300_pos, hr]
  have m2 := b_mul (i := r) (j := b) (log_sm (n := 997) (m := 1) r0 (Int.lt_trans r1 W300_lt) (by omega) (by omega) (by omega))
  have e2 : evS Γ C F (.asg (.name 3) (.bin .mul (.bin .mod (.bi .int [(.bi .abs [(.var 2)])]) (.bin .pow (.bin .pow (.lit (.int 10)) (.lit (.int 60))) (.lit (.int 5)))) (.bi .int [(.cmp .ge (.bi .abs [(.var 2)]) (.bin .pow (.lit (.int 10)) (.lit (.int 18))))]))) [some (.ro (zs.map .int)), some (.int p), some (.int cell), none, none] st = .ok (.next, [some (.ro (zs.map .int)), some (.int p), some (.int cell), some (.int (r * b)), none], st) := by
    simp (decide := true) only [runBody, List.map, List.length_cons, List.length_nil, List.replicate, List.cons_append, List.nil_append, evSs, x_lit, x_var, x_glob, x_bin, x_neg, x_not, x_cmp, x_chain, x_and, x_or, x_ite, x_tup, x_lst, x_lstM, x_idx, x_slc, x_rev, x_call, x_bi, x_copyM, x_append, x_extend, x_popAt, x_pop, x_frz, x_dnew, x_rng1, x_rng2, x_dget, y_asg, y_par, y_aug, y_ex, y_setix, y_ite, y_ret, y_retN, y_brk, y_cont, y_pass, y_never, y_frzV, evEs, evAnd, evOr, evT, evO, rb, List.getElem?_cons_zero, List.getElem?_cons_succ, sn_int, sn_str, sn_bl, sn_tup, sn_lst, sn_non, sn_dic, sn_ro, ix_l, ix_t, ix_r, ro_some, c_gt, c_ge, c_lt, c_le, decide_true, decide_false, ab, if_true, if_false, Bool.false_eq_true, Bool.not_true, Bool.not_false, bi_int, bi_intb, bi_abs, bi_lenl, bi_lent, bi_lenr, bi_tupl, b_add, b_sub, a_name, a_tup, as_nil, as_cons, setAll, List.set_cons_zero, List.set_cons_succ, ir_int, ir_str, ir_tup, ir_lst, ir_bl, ir_non, ir_dic, ir_ro, List.length_set, tn0, tn1, tn2, tn3, lim_ok, cl_int, cl_str, cl_bl, cl_non, cl_tup, cl_lst, cls_nil, cls_cons, cls_ints, cls_strs, cls_pairs, Bool.and_self, Bool.true_and, Bool.and_true, Bool.or_self, Bool.or_false, ↓ev_300, ↓ev_18, hx, m1, hb, m2]
  have c0 : 0 ≤ cell % 2305843009213693951 := Int.emod_nonneg _ (by omega)
  have c1 : cell % 2305843009213693951 < 2305843009213693951 := Int.emod_lt_of_pos _ (by omega)
  have m3 : bop .mod (.int cell) (.int 2305843009213693951) = .ok (.int (cell % 2305843009213693951)) := b_mod (by omega)
  generalize hc : cell % 2305843009213693951 = c at *
  have m4 := b_mul (i := c) (j := 82601) (log_sm (n := 61) (m := 20) c0 (by omega) (by omega) (by omega) (by omega))
  have m5 := b_mul (i := 9277) (j := (p : Int)) (log_sm (n := 20) (m := 6) (by omega) (by omega) (by omega) (by omega) (by omega))
  have m6 := b_mul (i := 9277 * (p : Int)) (j := (p : Int)) (log_sm (n := 40) (m := 6) (by omega) (by omega) (by omega) (by omega) (by omega))
  generalize hs : c * 82601 + 9277 * (p : Int) * (p : Int) + 113 = s
  have m7 : bop .mod (.int s) (.int 2305843009213693921) = .ok (.int (s % 2305843009213693921)) := b_mod (by omega)
  have e3 : evS Γ C F (.asg (.name 4) (.bin .mod (.bi .int [(.var 2)]) (.lit (.int 2305843009213693951)))) [some (.ro (zs.map .int)), some (.int p), some (.int cell), some (.int (r * b)), none] st = .ok (.next, [some (.ro (zs.map .int)), some (.int p), some (.int cell), some (.int (r * b)), some (.int c)], st) := by
    simp (decide := true) only [runBody, List.map, List.length_cons, List.length_nil, List.replicate, List.cons_append, List.nil_append, evSs, x_lit, x_var, x_glob, x_bin, x_neg, x_not, x_cmp, x_chain, x_and, x_or, x_ite, x_tup, x_lst, x_lstM, x_idx, x_slc, x_rev, x_call, x_bi, x_copyM, x_append, x_extend, x_popAt, x_pop, x_frz, x_dnew, x_rng1, x_rng2, x_dget, y_asg, y_par, y_aug, y_ex, y_setix, y_ite, y_ret, y_retN, y_brk, y_cont, y_pass, y_never, y_frzV, evEs, evAnd, evOr, evT, evO, rb, List.getElem?_cons_zero, List.getElem?_cons_succ, sn_int, sn_str, sn_bl, sn_tup, sn_lst, sn_non, sn_dic, sn_ro, ix_l, ix_t, ix_r, ro_some, c_gt, c_ge, c_lt, c_le, decide_true, decide_false, ab, if_true, if_false, Bool.false_eq_true, Bool.not_true, Bool.not_false, bi_int, bi_intb, bi_abs, bi_lenl, bi_lent, bi_lenr, bi_tupl, b_add, b_sub, a_name, a_tup, as_nil, as_cons, setAll, List.set_cons_zero, List.set_cons_succ, ir_int, ir_str, ir_tup, ir_lst, ir_bl, ir_non, ir_dic, ir_ro, List.length_set, tn0, tn1, tn2, tn3, lim_ok, cl_int, cl_str, cl_bl, cl_non, cl_tup, cl_lst, cls_nil, cls_cons, cls_ints, cls_strs, cls_pairs, Bool.and_self, Bool.true_and, Bool.and_true, Bool.or_self, Bool.or_false, m3]
  have e4 : evS Γ C F (.ret (.lstM [(.var 3), (.bin .mod (.bi .int [(.bin .add (.bin .add (.bin .mul (.var 4) (.lit (.int 82601))) (.bin .mul (.bin .mul (.lit (.int 9277)) (.var 1)) (.var 1))) (.lit (.int 113)))]) (.lit (.int 2305843009213693921))), (.lit (.int 0))])) [some (.ro (zs.map .int)), some (.int p), some (.int cell), some (.int (r * b)), some (.int c)] st = .ok (.ret (.mref st.length), [some (.ro (zs.map .int)), some (.int p), some (.int cell), some (.int (r * b)), some (.int c)], st ++ [.lst [.int (r * b), .int (s % 2305843009213693921), .int 0]]) := by
    simp (decide := true) only [runBody, List.map, List.length_cons, List.length_nil, List.replicate, List.cons_append, List.nil_append, evSs, x_lit, x_var, x_glob, x_bin, x_neg, x_not, x_cmp, x_chain, x_and, x_or, x_ite, x_tup, x_lst, x_lstM, x_idx, x_slc, x_rev, x_call, x_bi, x_copyM, x_append, x_extend, x_popAt, x_pop, x_frz, x_dnew, x_rng1, x_rng2, x_dget, y_asg, y_par, y_aug, y_ex, y_setix, y_ite, y_ret, y_retN, y_brk, y_cont, y_pass, y_never, y_frzV, evEs, evAnd, evOr, evT, evO, rb, List.getElem?_cons_zero, List.getElem?_cons_succ, sn_int, sn_str, sn_bl, sn_tup, sn_lst, sn_non, sn_dic, sn_ro, ix_l, ix_t, ix_r, ro_some, c_gt, c_ge, c_lt, c_le, decide_true, decide_false, ab, if_true, if_false, Bool.false_eq_true, Bool.not_true, Bool.not_false, bi_int, bi_intb, bi_abs, bi_lenl, bi_lent, bi_lenr, bi_tupl, b_add, b_sub, a_name, a_tup, as_nil, as_cons, setAll, List.set_cons_zero, List.set_cons_succ, ir_int, ir_str, ir_tup, ir_lst, ir_bl, ir_non, ir_dic, ir_ro, List.length_set, tn0, tn1, tn2, tn3, lim_ok, cl_int, cl_str, cl_bl, cl_non, cl_tup, cl_lst, cls_nil, cls_cons, cls_ints, cls_strs, cls_pairs, Bool.and_self, Bool.true_and, Bool.and_true, Bool.or_self, Bool.or_false, m4, m5, m6, hs, m7, noRefs, Bool.and_self]
  refine ⟨r * b, s % 2305843009213693921, ?_, ?_, ?_, Int.emod_nonneg _ (by omega), ?_⟩
  · rw [body_ret (fn := f0) (ds := [.ro (zs.map .int), .int p]) (d := .mref st.length) (st1 := st ++ [.lst [.int (r * b), .int (s % 2305843009213693921), .int 0]]) (env1 := [some (.ro (zs.map .int)), some (.int p), some (.int cell), some (.int (r * b)), some (.int c)])]
    · show En.finish true st.length (.mref st.length) _ = _
      simp [En.finish]
    · show evSs Γ C F f0.body [some (.ro (zs.map .int)), some (.int p), none, none, none] st = _
      unfold f0
      rw [ss_next e1, ss_next e2, ss_next e3, ss_ret e4]
  · rcases b01 with h | h <;> rw [h] <;> omega
  · have := W300_eq
    rcases b01 with h | h
    · rw [h, Int.mul_zero]; decide +kernel
    · rw [h, Int.mul_one, ← W300_eq]; exact r1
  · have := Int.emod_lt_of_pos s (b := 2305843009213693921) (by omega)
    omega
def mx (i j : Int) : Int := if j > i then j else i
theorem bi_max2 (i j : Int) : bi .max2 [.int i, .int j] = .ok (.int (mx i j)) := rfl
theorem ev_rng1 {Γ : Fns} {C : Nat → Option D} {t : Bool} {e : CE} {env : En.Env} {st st1 : Sto} {m : Nat} (h : evE Γ C e env st = .ok (.int m, st1)) (hm : m < 2000000) : evE Γ C (.rng1 t e) env st = .ok (rngT t (rngD 0 m), st1) := by
  rw [x_rng1, h, rb]
  exact (if_pos (small_rng hm)).trans (by rw [Int.toNat_natCast])
theorem cls_rng : ∀ (n : Nat) (a : Int), D.cleans (rngD a n) = true
  | 0, _ => rfl
  | n + 1, a => by rw [rngD, cls_cons, cls_rng n]; rfl
theorem cells_run {F n : Nat} {st : Sto} {zs : List Int} : ∃ m : Nat, m ≤ 2 ∧ callN T C F (n + 1) 3 [.ro (zs.map .int), .int 2] st = .ok (.lst (rngD 0 m), st) := by
  rw [call_eq (fn := f3) rfl, run0 rfl rfl]
  have hm : ∃ m : Nat, m ≤ 2 ∧ evE (callN T C F n) C (.bi .max2 [(.lit (.int 1)), (.bi .min2 [(.var 1), (.bi .len [(.var 0)])])]) [some (.ro (zs.map .int)), some (.int 2)] st = .ok (.int m, st) := by
    have hb : ∀ i j : Int, bi .min2 [.int i, .int j] = .ok (.int (if j < i then j else i)) := fun _ _ => rfl
    refine ⟨if zs.length = 0 then 1 else if zs.length < 2 then zs.length else 2, by split <;> (try split) <;> omega, ?_⟩
    simp (decide := true) only [runBody, List.map, List.length_cons, List.length_nil, List.replicate, List.cons_append, List.nil_append, evSs, x_lit, x_var, x_glob, x_bin, x_neg, x_not, x_cmp, x_chain, x_and, x_or, x_ite, x_tup, x_lst, x_lstM, x_idx, x_slc, x_rev, x_call, x_bi, x_copyM, x_append, x_extend, x_popAt, x_pop, x_frz, x_dnew, x_rng1, x_rng2, x_dget, y_asg, y_par, y_aug, y_ex, y_setix, y_ite, y_ret, y_retN, y_brk, y_cont, y_pass, y_never, y_frzV, evEs, evAnd, evOr, evT, evO, rb, List.getElem?_cons_zero, List.getElem?_cons_succ, sn_int, sn_str, sn_bl, sn_tup, sn_lst, sn_non, sn_dic, sn_ro, ix_l, ix_t, ix_r, ro_some, c_gt, c_ge, c_lt, c_le, decide_true, decide_false, ab, if_true, if_false, Bool.false_eq_true, Bool.not_true, Bool.not_false, bi_int, bi_intb, bi_abs, bi_lenl, bi_lent, bi_lenr, bi_tupl, b_add, b_sub, a_name, a_tup, as_nil, as_cons, setAll, List.set_cons_zero, List.set_cons_succ, ir_int, ir_str, ir_tup, ir_lst, ir_bl, ir_non, ir_dic, ir_ro, List.length_set, tn0, tn1, tn2, tn3, lim_ok, cl_int, cl_str, cl_bl, cl_non, cl_tup, cl_lst, cls_nil, cls_cons, cls_ints, cls_strs, cls_pairs, Bool.and_self, Bool.true_and, Bool.and_true, Bool.or_self, Bool.or_false, bi_max2, hb, List.length_map, mx]
    congr 3
    split <;> (try split) <;> (try split) <;> (try split) <;> omega
  obtain ⟨m, h4, h⟩ := hm
  refine ⟨m, h4, ?_⟩
  have e : evSs (callN T C F n) C F f3.body [some (.ro (zs.map .int)), some (.int 2)] st = .ok (.ret (.lst (rngD 0 m)), [some (.ro (zs.map .int)), some (.int 2)], st) := by
    have hr := ev_rng1 (t := false) h (by omega)
    unfold f3
    refine ss_ret ?_
    rw [y_ret, hr]
    rfl
  rw [body_ret (fn := f3) (ds := [.ro (zs.map .int), .int 2]) e]
  exact fin_d (cls_rng m 0) rfl
def PotX (st : Sto) (i k : Nat) : Prop := ∃ o s c, Pot st i o s c k
structure Adv (i : Nat) (st st' : Sto) : Prop where
  len : st'.length = st.length
  oth : ∀ m, m ≠ i → st'[m]? = st[m]?
theorem Adv.trans {i : Nat} {a b c : Sto} (h : Adv i a b) (g : Adv i b c) : Adv i a c := ⟨g.len.trans h.len, fun m hm => (g.oth m hm).trans (h.oth m hm)⟩
theorem adv_set {i : Nat} {st : Sto} {o : O} : Adv i st (st.set i o) := ⟨List.length_set .., fun m hm => List.getElem?_set_ne (Ne.symm hm)⟩
theorem PotX.up {st : Sto} {i k k' : Nat} (h : PotX st i k) (hk : k ≤ k') : PotX st i k' := by
  obtain ⟨o, s, c, p⟩ := h
  exact ⟨o, s, c, p.at_, p.o0, p.o1, p.s0, p.s1, p.c0, by have := p.c1; omega⟩
theorem PotX.of_at {st st' : Sto} {i k : Nat} (h : PotX st i k) (e : st'[i]? = st[i]?) : PotX st' i k := by
  obtain ⟨o, s, c, p⟩ := h
  exact ⟨o, s, c, e.trans p.at_, p.o0, p.o1, p.s0, p.s1, p.c0, p.c1⟩
theorem PotX.lt {st : Sto} {i k : Nat} (h : PotX st i k) : i < st.length := by
  obtain ⟨o, s, c, p⟩ := h
  exact st_lt p.at_
theorem take_x {F n : Nat} {st : Sto} {i k : Nat} {u : Int} (p : PotX st i k) (hk : k < 2 ^ 30) (u0 : 0 < u) (u1 : u < 2 ^ 30) :
    ∃ r st', callN T C F (n + 1) 1 [.mref i, .int u] st = .ok (.int r, st') ∧ 0 ≤ r ∧ r < u ∧ PotX st' i (k + 1) ∧ Adv i st st' := by
  obtain ⟨o, s, c, p⟩ := p
  obtain ⟨r, o', c', e, r0, r1, a0, a1, b0, b1⟩ := take_run (F := F) (n := n) p hk u0 u1
  exact ⟨r, _, e, r0, r1, ⟨o', s, c', set_at p.at_, a0, a1, p.s0, p.s1, b0, b1⟩, adv_set⟩
theorem of_x {F n : Nat} {st : Sto} {i k : Nat} {ds : List D} (p : PotX st i k) (hk : k < 2 ^ 30) (h0 : ds ≠ []) (h1 : ds.length < 2 ^ 20) (href : ∀ d ∈ ds, d.clean = true) :
    ∃ d st', callN T C F (n + 2) 2 [.mref i, .lst ds] st = .ok (d, st') ∧ d ∈ ds ∧ PotX st' i (k + 1) ∧ Adv i st st' := by
  obtain ⟨o, s, c, p⟩ := p
  obtain ⟨d, st', o', c', e, hd, est, p'⟩ := of_run (F := F) (n := n) p hk h0 h1 href
  exact ⟨d, st', e, hd, ⟨o', s, c', p'⟩, est ▸ adv_set⟩
end K00


set_option Elab.async false
set_option linter.all false
set_option maxRecDepth 100000
set_option maxHeartbeats 1000000
namespace K00
open PySem En
section
variable {Γ : Fns} {C : Nat → Option D}
theorem x_mkErr (x : Str) (e : CE) (env : En.Env) (st : Sto) : evE Γ C (.mkErr x e) env st = (evE Γ C e env st).bind fun (d, st1) => if d.clean then .ok (.err x d, st1) else .bad := by rw [evE]; try rfl
theorem x_isErr (x : Str) (e : CE) (env : En.Env) (st : Sto) : evE Γ C (.isErr x e) env st = (evE Γ C e env st).bind fun (d, st1) => match d with
      | .err y _ => .ok (.bl (errSub y x), st1)
      | .non => .ok (.bl false, st1)
      | _ => .bad := by rw [evE]; try rfl
theorem x_errVal (e : CE) (env : En.Env) (st : Sto) : evE Γ C (.errVal e) env st = (evE Γ C e env st).bind fun (d, st1) => match d with
      | .err _ v => .ok (v, st1)
      | _ => .bad := by rw [evE]; try rfl
end
def leaf : D → List D
  | .tup ds => [.lst ds, .tup (cutD ds (some 1) none), .tup (cutD ds none (some (-1))), .tup (ds ++ cutD ds (some (-1)) none), .tup ds.reverse, .tup [], .non, .tup (ds ++ [.str "a"])]
  | .int i => [.int (i + 1), .int (i - 1), .bl (PyData.eqv (D.int i).py (D.int 1).py), .int (-i), .str "1", .int 0, .non, .tup [.int i]]
  | .str x => [.str (x ++ "x"), .str (L2.cutS x none (some (-1))), .str (backS x), .str "a", .str "b", .str "then", .str "nosuch", .non, .int 0, .lst [.str x], .tup [.str x]]
  | _ => []
def bents : Nat → D → List D
  | 0, _ => []
  | n + 1, .tup ds => leaf (.tup ds) ++ (List.range ds.length).flatMap fun k => match ds[k]? with
    | some e => (bents n e).map fun d => .tup (cutD ds none (some (k : Int)) ++ [d] ++ cutD ds (some ((k : Int) + 1)) none)
    | none => []
  | _ + 1, d => leaf d
def neOk (ds : List D) : Bool := match cop .ne (.tup ds) (.tup []) with
  | .ok b => b == !ds.isEmpty
  | _ => false
def shOk (i : Int) : Bool := SeqAt.shaped (D.int i).py && SeqAt.shaped (D.int 1).py
def bd : Nat → D → Bool
  | 0, _ => false
  | n + 1, .tup ds => neOk ds && decide (ds.length ≤ 10) && D.cleans ds && ds.all (bd n) && (bents (n + 1) (.tup ds)).all D.clean && (leaf (.tup ds)).all D.clean
  | _ + 1, .int i => shOk i
  | _ + 1, .str x => decide (x.length ≤ 100)
  | _ + 1, _ => false
theorem bT (ds : List D) : bi .isTuple [.tup ds] = .ok (.bl true) := rfl
theorem bTi (i : Int) : bi .isTuple [.int i] = .ok (.bl false) := rfl
theorem bTs (x : Str) : bi .isTuple [.str x] = .ok (.bl false) := rfl
theorem bBi (i : Int) : bi .isBool [.int i] = .ok (.bl false) := rfl
theorem bBs (x : Str) : bi .isBool [.str x] = .ok (.bl false) := rfl
theorem bIi (i : Int) : bi .isInt [.int i] = .ok (.bl true) := rfl
theorem bIs (x : Str) : bi .isInt [.str x] = .ok (.bl false) := rfl
theorem bSs (x : Str) : bi .isStr [.str x] = .ok (.bl true) := rfl
theorem bLt (ds : List D) : bi .list [.tup ds] = .ok (.lst ds) := rfl
theorem sl1 (ds : List D) (j : Int) : slc (.tup ds) none (some (.int j)) = .ok (.tup (cutD ds none (some j))) := rfl
theorem sl2 (ds : List D) (j : Int) : slc (.tup ds) (some (.int j)) none = .ok (.tup (cutD ds (some j) none)) := rfl
theorem rv1 (ds : List D) : revD (.tup ds) = .ok (.tup ds.reverse) := rfl
theorem bat {i j : List D} (h : i.length + j.length ≤ LIM) : bop .add (.tup i) (.tup j) = .ok (.tup (i ++ j)) := if_pos h
theorem bas {i j : Str} (h : i.length + j.length ≤ LIM) : bop .add (.str i) (.str j) = .ok (.str (i ++ j)) := if_pos h
theorem sl1s {x : Str} (h : x.length ≤ LIM) (j : Int) : slc (.str x) none (some (.int j)) = .ok (.str (L2.cutS x none (some j))) := if_pos h
theorem rvs {x : Str} (h : x.length ≤ LIM) : revD (.str x) = .ok (.str (backS x)) := if_pos h
theorem cutD_le (ds : List D) (lo hi : Option Int) : (cutD ds lo hi).length ≤ ds.length := by
  unfold cutD
  simp only [List.length_take, List.length_drop]
  omega
theorem nrf (ds : List D) (h : D.cleans ds = true) : noRefs ds = true := by
  induction ds with
  | nil => rfl
  | cons d r ih =>
    rw [cls_cons, Bool.and_eq_true] at h
    show (!d.isRef && noRefs r) = true
    rw [ih h.2]
    cases d <;> first | rfl | (simp [D.clean] at h)
theorem cls_all {ds : List D} (h : ds.all D.clean = true) : D.cleans ds = true := by
  rw [cleans_iff]
  exact fun d hd => List.all_eq_true.mp h d hd
/-- a list by value, then one of it -/
theorem pick_of {F n : Nat} {st : Sto} {i k : Nat} {ds : List D} {e2 : CE} {env : En.Env} (p : PotX st i k) (hk : k < 2 ^ 30) (h0 : ds ≠ []) (h1 : ds.length < 2 ^ 20) (hc : ds.all D.clean = true)
    (he0 : env[0]? = some (some (.mref i))) (he : evE (callN T C F (n + 2)) C e2 env st = .ok (.lst ds, st)) :
    ∃ d st', evS (callN T C F (n + 2)) C F (.ret (.call 2 [(.var 0), e2])) env st = .ok (.ret d, env, st') ∧ d ∈ ds ∧ d.clean = true ∧ PotX st' i (k + 1) ∧ Adv i st st' := by
  obtain ⟨d, st', e, hd, p', v⟩ := of_x (F := F) (n := n) p hk h0 h1 fun d hd => List.all_eq_true.mp hc d hd
  refine ⟨d, st', ?_, hd, List.all_eq_true.mp hc d hd, p', v⟩
  simp (decide := true) only [runBody, List.map, List.length_cons, List.length_nil, List.replicate, List.cons_append, List.nil_append, evSs, x_lit, x_var, x_glob, x_bin, x_neg, x_not, x_cmp, x_chain, x_and, x_or, x_ite, x_tup, x_lst, x_lstM, x_idx, x_slc, x_rev, x_call, x_bi, x_copyM, x_append, x_extend, x_popAt, x_pop, x_frz, x_dnew, x_rng1, x_rng2, x_dget, y_asg, y_par, y_aug, y_ex, y_setix, y_ite, y_ret, y_retN, y_brk, y_cont, y_pass, y_never, y_frzV, evEs, evAnd, evOr, evT, evO, rb, List.getElem?_cons_zero, List.getElem?_cons_succ, sn_int, sn_str, sn_bl, sn_tup, sn_lst, sn_non, sn_dic, sn_ro, ix_l, ix_t, ix_r, ro_some, c_gt, c_ge, c_lt, c_le, decide_true, decide_false, ab, if_true, if_false, Bool.false_eq_true, Bool.not_true, Bool.not_false, bi_int, bi_intb, bi_abs, bi_lenl, bi_lent, bi_lenr, bi_tupl, b_add, b_sub, a_name, a_tup, as_nil, as_cons, setAll, List.set_cons_zero, List.set_cons_succ, ir_int, ir_str, ir_tup, ir_lst, ir_bl, ir_non, ir_dic, ir_ro, List.length_set, tn0, tn1, tn2, tn3, lim_ok, cl_int, cl_str, cl_bl, cl_non, cl_tup, cl_lst, cls_nil, cls_cons, cls_ints, cls_strs, cls_pairs, Bool.and_self, Bool.true_and, Bool.and_true, Bool.or_self, Bool.or_false, he0, he, e]
end K00

set_option Elab.async false
set_option linter.all false
set_option maxRecDepth 100000
set_option maxHeartbeats 1000000
namespace K00
open PySem En
def s0 : CS := .ite (.and [(.bi .isTuple [(.var 1)]), (.cmp .ne (.var 1) (.tup [])), (.cmp .gt (.call 1 [(.var 0), (.lit (.int 6))]) (.lit (.int 0)))]) [.asg (.name 2) (.call 1 [(.var 0), (.bi .len [(.var 1)])]), .ret (.bin .add (.bin .add (.slc (.var 1) none (some (.var 2))) (.tup [(.call 5 [(.var 0), (.idx (.var 1) (.var 2))])])) (.slc (.var 1) (some (.bin .add (.var 2) (.lit (.int 1)))) none))] []
def l1 : CE := .lst [(.bi .list [(.var 1)]), (.slc (.var 1) (some (.lit (.int 1))) none), (.slc (.var 1) none (some (.neg (.lit (.int 1))))), (.bin .add (.var 1) (.slc (.var 1) (some (.neg (.lit (.int 1)))) none)), (.rev (.var 1)), (.tup []), (.lit .non), (.bin .add (.var 1) (.tup [(.lit (.str "a"))]))]
def s1 : CS := .ite (.bi .isTuple [(.var 1)]) [.asg (.name 3) l1, .ret (.call 2 [(.var 0), (.var 3)])] []
def s2 : CS := .ite (.bi .isBool [(.var 1)]) [.ret (.call 2 [(.var 0), (.lst [(.not (.var 1)), (.bi .int [(.var 1)]), (.lit .non)])])] []
def l3 : CE := .lst [(.bin .add (.var 1) (.lit (.int 1))), (.bin .sub (.var 1) (.lit (.int 1))), (.cmp .eq (.var 1) (.lit (.int 1))), (.neg (.var 1)), (.lit (.str "1")), (.lit (.int 0)), (.lit .non), (.tup [(.var 1)])]
def s3 : CS := .ite (.bi .isInt [(.var 1)]) [.ret (.call 2 [(.var 0), l3])] []
def l4 : CE := .lst [(.bin .add (.var 1) (.lit (.str "x"))), (.slc (.var 1) none (some (.neg (.lit (.int 1))))), (.rev (.var 1)), (.lit (.str "a")), (.lit (.str "b")), (.lit (.str "then")), (.lit (.str "nosuch")), (.lit .non), (.lit (.int 0)), (.lst [(.var 1)]), (.tup [(.var 1)])]
def s4 : CS := .ite (.bi .isStr [(.var 1)]) [.asg (.name 3) l4, .ret (.call 2 [(.var 0), (.var 3)])] []
theorem f5_body : f5.body = [s0, s1, s2, s3, s4, .ret (.call 4 [(.var 0)])] := rfl
section
variable {Γ : Fns} {F : Nat} {st : Sto} {i : Nat} {a b : Option D}
theorem s0_no {d : D} (h : bi .isTuple [d] = .ok (.bl false)) (hs : snap st d = d) : evS Γ C F s0 [some (.mref i), some d, a, b] st = .ok (.next, [some (.mref i), some d, a, b], st) := by
  simp (decide := true) only [runBody, List.map, List.length_cons, List.length_nil, List.replicate, List.cons_append, List.nil_append, evSs, x_lit, x_var, x_glob, x_bin, x_neg, x_not, x_cmp, x_chain, x_and, x_or, x_ite, x_tup, x_lst, x_lstM, x_idx, x_slc, x_rev, x_call, x_bi, x_copyM, x_append, x_extend, x_popAt, x_pop, x_frz, x_dnew, x_rng1, x_rng2, x_dget, y_asg, y_par, y_aug, y_ex, y_setix, y_ite, y_ret, y_retN, y_brk, y_cont, y_pass, y_never, y_frzV, evEs, evAnd, evOr, evT, evO, rb, List.getElem?_cons_zero, List.getElem?_cons_succ, sn_int, sn_str, sn_bl, sn_tup, sn_lst, sn_non, sn_dic, sn_ro, ix_l, ix_t, ix_r, ro_some, c_gt, c_ge, c_lt, c_le, decide_true, decide_false, ab, if_true, if_false, Bool.false_eq_true, Bool.not_true, Bool.not_false, bi_int, bi_intb, bi_abs, bi_lenl, bi_lent, bi_lenr, bi_tupl, b_add, b_sub, a_name, a_tup, as_nil, as_cons, setAll, List.set_cons_zero, List.set_cons_succ, ir_int, ir_str, ir_tup, ir_lst, ir_bl, ir_non, ir_dic, ir_ro, List.length_set, tn0, tn1, tn2, tn3, lim_ok, cl_int, cl_str, cl_bl, cl_non, cl_tup, cl_lst, cls_nil, cls_cons, cls_ints, cls_strs, cls_pairs, Bool.and_self, Bool.true_and, Bool.and_true, Bool.or_self, Bool.or_false, s0, h, hs]
theorem s1_no {d : D} (h : bi .isTuple [d] = .ok (.bl false)) (hs : snap st d = d) : evS Γ C F s1 [some (.mref i), some d, a, b] st = .ok (.next, [some (.mref i), some d, a, b], st) := by
  simp (decide := true) only [runBody, List.map, List.length_cons, List.length_nil, List.replicate, List.cons_append, List.nil_append, evSs, x_lit, x_var, x_glob, x_bin, x_neg, x_not, x_cmp, x_chain, x_and, x_or, x_ite, x_tup, x_lst, x_lstM, x_idx, x_slc, x_rev, x_call, x_bi, x_copyM, x_append, x_extend, x_popAt, x_pop, x_frz, x_dnew, x_rng1, x_rng2, x_dget, y_asg, y_par, y_aug, y_ex, y_setix, y_ite, y_ret, y_retN, y_brk, y_cont, y_pass, y_never, y_frzV, evEs, evAnd, evOr, evT, evO, rb, List.getElem?_cons_zero, List.getElem?_cons_succ, sn_int, sn_str, sn_bl, sn_tup, sn_lst, sn_non, sn_dic, sn_ro, ix_l, ix_t, ix_r, ro_some, c_gt, c_ge, c_lt, c_le, decide_true, decide_false, ab, if_true, if_false, Bool.false_eq_true, Bool.not_true, Bool.not_false, bi_int, bi_intb, bi_abs, bi_lenl, bi_lent, bi_lenr, bi_tupl, b_add, b_sub, a_name, a_tup, as_nil, as_cons, setAll, List.set_cons_zero, List.set_cons_succ, ir_int, ir_str, ir_tup, ir_lst, ir_bl, ir_non, ir_dic, ir_ro, List.length_set, tn0, tn1, tn2, tn3, lim_ok, cl_int, cl_str, cl_bl, cl_non, cl_tup, cl_lst, cls_nil, cls_cons, cls_ints, cls_strs, cls_pairs, Bool.and_self, Bool.true_and, Bool.and_true, Bool.or_self, Bool.or_false, s1, h, hs]
theorem s2_no {d : D} (h : bi .isBool [d] = .ok (.bl false)) (hs : snap st d = d) : evS Γ C F s2 [some (.mref i), some d, a, b] st = .ok (.next, [some (.mref i), some d, a, b], st) := by
  simp (decide := true) only [runBody, List.map, List.length_cons, List.length_nil, List.replicate, List.cons_append, List.nil_append, evSs, x_lit, x_var, x_glob, x_bin, x_neg, x_not, x_cmp, x_chain, x_and, x_or, x_ite, x_tup, x_lst, x_lstM, x_idx, x_slc, x_rev, x_call, x_bi, x_copyM, x_append, x_extend, x_popAt, x_pop, x_frz, x_dnew, x_rng1, x_rng2, x_dget, y_asg, y_par, y_aug, y_ex, y_setix, y_ite, y_ret, y_retN, y_brk, y_cont, y_pass, y_never, y_frzV, evEs, evAnd, evOr, evT, evO, rb, List.getElem?_cons_zero, List.getElem?_cons_succ, sn_int, sn_str, sn_bl, sn_tup, sn_lst, sn_non, sn_dic, sn_ro, ix_l, ix_t, ix_r, ro_some, c_gt, c_ge, c_lt, c_le, decide_true, decide_false, ab, if_true, if_false, Bool.false_eq_true, Bool.not_true, Bool.not_false, bi_int, bi_intb, bi_abs, bi_lenl, bi_lent, bi_lenr, bi_tupl, b_add, b_sub, a_name, a_tup, as_nil, as_cons, setAll, List.set_cons_zero, List.set_cons_succ, ir_int, ir_str, ir_tup, ir_lst, ir_bl, ir_non, ir_dic, ir_ro, List.length_set, tn0, tn1, tn2, tn3, lim_ok, cl_int, cl_str, cl_bl, cl_non, cl_tup, cl_lst, cls_nil, cls_cons, cls_ints, cls_strs, cls_pairs, Bool.and_self, Bool.true_and, Bool.and_true, Bool.or_self, Bool.or_false, s2, h, hs]
theorem s3_no {d : D} (h : bi .isInt [d] = .ok (.bl false)) (hs : snap st d = d) : evS Γ C F s3 [some (.mref i), some d, a, b] st = .ok (.next, [some (.mref i), some d, a, b], st) := by
  simp (decide := true) only [runBody, List.map, List.length_cons, List.length_nil, List.replicate, List.cons_append, List.nil_append, evSs, x_lit, x_var, x_glob, x_bin, x_neg, x_not, x_cmp, x_chain, x_and, x_or, x_ite, x_tup, x_lst, x_lstM, x_idx, x_slc, x_rev, x_call, x_bi, x_copyM, x_append, x_extend, x_popAt, x_pop, x_frz, x_dnew, x_rng1, x_rng2, x_dget, y_asg, y_par, y_aug, y_ex, y_setix, y_ite, y_ret, y_retN, y_brk, y_cont, y_pass, y_never, y_frzV, evEs, evAnd, evOr, evT, evO, rb, List.getElem?_cons_zero, List.getElem?_cons_succ, sn_int, sn_str, sn_bl, sn_tup, sn_lst, sn_non, sn_dic, sn_ro, ix_l, ix_t, ix_r, ro_some, c_gt, c_ge, c_lt, c_le, decide_true, decide_false, ab, if_true, if_false, Bool.false_eq_true, Bool.not_true, Bool.not_false, bi_int, bi_intb, bi_abs, bi_lenl, bi_lent, bi_lenr, bi_tupl, b_add, b_sub, a_name, a_tup, as_nil, as_cons, setAll, List.set_cons_zero, List.set_cons_succ, ir_int, ir_str, ir_tup, ir_lst, ir_bl, ir_non, ir_dic, ir_ro, List.length_set, tn0, tn1, tn2, tn3, lim_ok, cl_int, cl_str, cl_bl, cl_non, cl_tup, cl_lst, cls_nil, cls_cons, cls_ints, cls_strs, cls_pairs, Bool.and_self, Bool.true_and, Bool.and_true, Bool.or_self, Bool.or_false, s3, h, hs]
theorem l1_run {ds : List D} (hl : ds.length ≤ 10) (hc : (leaf (.tup ds)).all D.clean = true) : evE Γ C l1 [some (.mref i), some (.tup ds), a, b] st = .ok (.lst (leaf (.tup ds)), st) := by
  have h1 : ds.length + (cutD ds (some (-1)) none).length ≤ LIM := by have := cutD_le ds (some (-1)) none; rw [LIM_val]; omega
  have h2 : ds.length + [D.str "a"].length ≤ LIM := by show ds.length + 1 ≤ _; rw [LIM_val]; omega
  have hn := nrf _ (cls_all hc)
  have e : evEs Γ C [(.bi .list [(.var 1)]), (.slc (.var 1) (some (.lit (.int 1))) none), (.slc (.var 1) none (some (.neg (.lit (.int 1))))), (.bin .add (.var 1) (.slc (.var 1) (some (.neg (.lit (.int 1)))) none)), (.rev (.var 1)), (.tup []), (.lit .non), (.bin .add (.var 1) (.tup [(.lit (.str "a"))]))] [some (.mref i), some (.tup ds), a, b] st = .ok (leaf (.tup ds), st) := by
    simp (decide := true) only [runBody, List.map, List.length_cons, List.length_nil, List.replicate, List.cons_append, List.nil_append, evSs, x_lit, x_var, x_glob, x_bin, x_neg, x_not, x_cmp, x_chain, x_and, x_or, x_ite, x_tup, x_lst, x_lstM, x_idx, x_slc, x_rev, x_call, x_bi, x_copyM, x_append, x_extend, x_popAt, x_pop, x_frz, x_dnew, x_rng1, x_rng2, x_dget, y_asg, y_par, y_aug, y_ex, y_setix, y_ite, y_ret, y_retN, y_brk, y_cont, y_pass, y_never, y_frzV, evEs, evAnd, evOr, evT, evO, rb, List.getElem?_cons_zero, List.getElem?_cons_succ, sn_int, sn_str, sn_bl, sn_tup, sn_lst, sn_non, sn_dic, sn_ro, ix_l, ix_t, ix_r, ro_some, c_gt, c_ge, c_lt, c_le, decide_true, decide_false, ab, if_true, if_false, Bool.false_eq_true, Bool.not_true, Bool.not_false, bi_int, bi_intb, bi_abs, bi_lenl, bi_lent, bi_lenr, bi_tupl, b_add, b_sub, a_name, a_tup, as_nil, as_cons, setAll, List.set_cons_zero, List.set_cons_succ, ir_int, ir_str, ir_tup, ir_lst, ir_bl, ir_non, ir_dic, ir_ro, List.length_set, tn0, tn1, tn2, tn3, lim_ok, cl_int, cl_str, cl_bl, cl_non, cl_tup, cl_lst, cls_nil, cls_cons, cls_ints, cls_strs, cls_pairs, Bool.and_self, Bool.true_and, Bool.and_true, Bool.or_self, Bool.or_false, bLt, sl1, sl2, rv1, bat h1, bat h2, leaf]
  unfold l1
  rw [x_lst, e, rb]
  show (if noRefs (leaf (.tup ds)) && decide ((leaf (.tup ds)).length ≤ LIM) then _ else _) = _
  rw [hn]
  rfl
theorem l3_run {j : Int} (hs : shOk j = true) : evE Γ C l3 [some (.mref i), some (.int j), a, b] st = .ok (.lst (leaf (.int j)), st) := by
  have he : cop .eq (.int j) (.int 1) = .ok (PyData.eqv (D.int j).py (D.int 1).py) := by
    show (if SeqAt.shaped (D.int j).py && SeqAt.shaped (D.int 1).py then Res.ok (PyData.eqv (D.int j).py (D.int 1).py) else .bad) = _
    exact if_pos hs
  simp (decide := true) only [runBody, List.map, List.length_cons, List.length_nil, List.replicate, List.cons_append, List.nil_append, evSs, x_lit, x_var, x_glob, x_bin, x_neg, x_not, x_cmp, x_chain, x_and, x_or, x_ite, x_tup, x_lst, x_lstM, x_idx, x_slc, x_rev, x_call, x_bi, x_copyM, x_append, x_extend, x_popAt, x_pop, x_frz, x_dnew, x_rng1, x_rng2, x_dget, y_asg, y_par, y_aug, y_ex, y_setix, y_ite, y_ret, y_retN, y_brk, y_cont, y_pass, y_never, y_frzV, evEs, evAnd, evOr, evT, evO, rb, List.getElem?_cons_zero, List.getElem?_cons_succ, sn_int, sn_str, sn_bl, sn_tup, sn_lst, sn_non, sn_dic, sn_ro, ix_l, ix_t, ix_r, ro_some, c_gt, c_ge, c_lt, c_le, decide_true, decide_false, ab, if_true, if_false, Bool.false_eq_true, Bool.not_true, Bool.not_false, bi_int, bi_intb, bi_abs, bi_lenl, bi_lent, bi_lenr, bi_tupl, b_add, b_sub, a_name, a_tup, as_nil, as_cons, setAll, List.set_cons_zero, List.set_cons_succ, ir_int, ir_str, ir_tup, ir_lst, ir_bl, ir_non, ir_dic, ir_ro, List.length_set, tn0, tn1, tn2, tn3, lim_ok, cl_int, cl_str, cl_bl, cl_non, cl_tup, cl_lst, cls_nil, cls_cons, cls_ints, cls_strs, cls_pairs, Bool.and_self, Bool.true_and, Bool.and_true, Bool.or_self, Bool.or_false, l3, he, leaf, noRefs]
theorem l4_run {x : Str} (hx : x.length ≤ 100) : evE Γ C l4 [some (.mref i), some (.str x), a, b] st = .ok (.lst (leaf (.str x)), st) := by
  have h1 : x.length ≤ LIM := by rw [LIM_val]; omega
  have h2 : x.length + (("x" : String) : Str).length ≤ LIM := by show x.length + 1 ≤ _; rw [LIM_val]; omega
  simp (decide := true) only [runBody, List.map, List.length_cons, List.length_nil, List.replicate, List.cons_append, List.nil_append, evSs, x_lit, x_var, x_glob, x_bin, x_neg, x_not, x_cmp, x_chain, x_and, x_or, x_ite, x_tup, x_lst, x_lstM, x_idx, x_slc, x_rev, x_call, x_bi, x_copyM, x_append, x_extend, x_popAt, x_pop, x_frz, x_dnew, x_rng1, x_rng2, x_dget, y_asg, y_par, y_aug, y_ex, y_setix, y_ite, y_ret, y_retN, y_brk, y_cont, y_pass, y_never, y_frzV, evEs, evAnd, evOr, evT, evO, rb, List.getElem?_cons_zero, List.getElem?_cons_succ, sn_int, sn_str, sn_bl, sn_tup, sn_lst, sn_non, sn_dic, sn_ro, ix_l, ix_t, ix_r, ro_some, c_gt, c_ge, c_lt, c_le, decide_true, decide_false, ab, if_true, if_false, Bool.false_eq_true, Bool.not_true, Bool.not_false, bi_int, bi_intb, bi_abs, bi_lenl, bi_lent, bi_lenr, bi_tupl, b_add, b_sub, a_name, a_tup, as_nil, as_cons, setAll, List.set_cons_zero, List.set_cons_succ, ir_int, ir_str, ir_tup, ir_lst, ir_bl, ir_non, ir_dic, ir_ro, List.length_set, tn0, tn1, tn2, tn3, lim_ok, cl_int, cl_str, cl_bl, cl_non, cl_tup, cl_lst, cls_nil, cls_cons, cls_ints, cls_strs, cls_pairs, Bool.and_self, Bool.true_and, Bool.and_true, Bool.or_self, Bool.or_false, l4, bas h2, sl1s h1, rvs h1, leaf, noRefs]
end
theorem tup_ne {ds : List D} (h : neOk ds = true) : cop .ne (.tup ds) (.tup []) = .ok (!ds.isEmpty) := by
  unfold neOk at h
  split at h
  · rename_i b e
    rw [e, eq_of_beq h]
  · cases h
theorem all_get {p : D → Bool} {ds : List D} {r : Nat} (h : ds.all p = true) (hr : r < ds.length) : p ds[r] = true := List.all_eq_true.mp h _ (List.getElem_mem hr)
/-- where a bent tuple's list is taken -/
theorem s1_run {F n : Nat} {st : Sto} {i k : Nat} {ds : List D} {a b : Option D} (p : PotX st i k) (hk : k < 2 ^ 30) (hl : ds.length ≤ 10) (hc : (leaf (.tup ds)).all D.clean = true) :
    ∃ d env st', evS (callN T C F (n + 2)) C F s1 [some (.mref i), some (.tup ds), a, b] st = .ok (.ret d, env, st') ∧ d ∈ leaf (.tup ds) ∧ d.clean = true ∧ PotX st' i (k + 1) ∧ Adv i st st' := by
  have e := l1_run (Γ := callN T C F (n + 2)) (st := st) (i := i) (a := a) (b := b) hl hc
  generalize hL : leaf (.tup ds) = L at *
  have hL0 : L ≠ [] := by rw [← hL]; simp [leaf]
  have hL1 : L.length < 2 ^ 20 := by rw [← hL]; simp [leaf]
  obtain ⟨d, st', e2, hd, hcl, p', v⟩ := pick_of (F := F) (n := n) (e2 := .var 3) (env := [some (.mref i), some (.tup ds), a, some (.lst L)]) p hk hL0 hL1 hc rfl (by simp only [x_var, List.getElem?_cons_zero, List.getElem?_cons_succ])
  refine ⟨d, [some (.mref i), some (.tup ds), a, some (.lst L)], st', ?_, hd, hcl, p', v⟩
  have e1 : evS (callN T C F (n + 2)) C F (.asg (.name 3) l1) [some (.mref i), some (.tup ds), a, b] st = .ok (.next, [some (.mref i), some (.tup ds), a, some (.lst L)], st) := by
    simp (decide := true) only [runBody, List.map, List.length_cons, List.length_nil, List.replicate, List.cons_append, List.nil_append, evSs, x_lit, x_var, x_glob, x_bin, x_neg, x_not, x_cmp, x_chain, x_and, x_or, x_ite, x_tup, x_lst, x_lstM, x_idx, x_slc, x_rev, x_call, x_bi, x_copyM, x_append, x_extend, x_popAt, x_pop, x_frz, x_dnew, x_rng1, x_rng2, x_dget, y_asg, y_par, y_aug, y_ex, y_setix, y_ite, y_ret, y_retN, y_brk, y_cont, y_pass, y_never, y_frzV, evEs, evAnd, evOr, evT, evO, rb, List.getElem?_cons_zero, List.getElem?_cons_succ, sn_int, sn_str, sn_bl, sn_tup, sn_lst, sn_non, sn_dic, sn_ro, ix_l, ix_t, ix_r, ro_some, c_gt, c_ge, c_lt, c_le, decide_true, decide_false, ab, if_true, if_false, Bool.false_eq_true, Bool.not_true, Bool.not_false, bi_int, bi_intb, bi_abs, bi_lenl, bi_lent, bi_lenr, bi_tupl, b_add, b_sub, a_name, a_tup, as_nil, as_cons, setAll, List.set_cons_zero, List.set_cons_succ, ir_int, ir_str, ir_tup, ir_lst, ir_bl, ir_non, ir_dic, ir_ro, List.length_set, tn0, tn1, tn2, tn3, lim_ok, cl_int, cl_str, cl_bl, cl_non, cl_tup, cl_lst, cls_nil, cls_cons, cls_ints, cls_strs, cls_pairs, Bool.and_self, Bool.true_and, Bool.and_true, Bool.or_self, Bool.or_false, e]
  have e3 : evSs (callN T C F (n + 2)) C F [.asg (.name 3) l1, .ret (.call 2 [(.var 0), (.var 3)])] [some (.mref i), some (.tup ds), a, b] st = .ok (.ret d, [some (.mref i), some (.tup ds), a, some (.lst L)], st') := by
    rw [ss_next e1, ss_ret e2]
  unfold s1
  rw [y_ite]
  have e0 : evE (callN T C F (n + 2)) C (.bi .isTuple [(.var 1)]) [some (.mref i), some (.tup ds), a, b] st = .ok (.bl true, st) := by
    simp (decide := true) only [runBody, List.map, List.length_cons, List.length_nil, List.replicate, List.cons_append, List.nil_append, evSs, x_lit, x_var, x_glob, x_bin, x_neg, x_not, x_cmp, x_chain, x_and, x_or, x_ite, x_tup, x_lst, x_lstM, x_idx, x_slc, x_rev, x_call, x_bi, x_copyM, x_append, x_extend, x_popAt, x_pop, x_frz, x_dnew, x_rng1, x_rng2, x_dget, y_asg, y_par, y_aug, y_ex, y_setix, y_ite, y_ret, y_retN, y_brk, y_cont, y_pass, y_never, y_frzV, evEs, evAnd, evOr, evT, evO, rb, List.getElem?_cons_zero, List.getElem?_cons_succ, sn_int, sn_str, sn_bl, sn_tup, sn_lst, sn_non, sn_dic, sn_ro, ix_l, ix_t, ix_r, ro_some, c_gt, c_ge, c_lt, c_le, decide_true, decide_false, ab, if_true, if_false, Bool.false_eq_true, Bool.not_true, Bool.not_false, bi_int, bi_intb, bi_abs, bi_lenl, bi_lent, bi_lenr, bi_tupl, b_add, b_sub, a_name, a_tup, as_nil, as_cons, setAll, List.set_cons_zero, List.set_cons_succ, ir_int, ir_str, ir_tup, ir_lst, ir_bl, ir_non, ir_dic, ir_ro, List.length_set, tn0, tn1, tn2, tn3, lim_ok, cl_int, cl_str, cl_bl, cl_non, cl_tup, cl_lst, cls_nil, cls_cons, cls_ints, cls_strs, cls_pairs, Bool.and_self, Bool.true_and, Bool.and_true, Bool.or_self, Bool.or_false, bT]
  rw [e0, rb]
  show ((asBool (.bl true)).bind fun r => _) = _
  rw [ab, rb, if_pos rfl]
  exact e3
theorem bent_run {F : Nat} : ∀ (n : Nat) (d : D), bd n d = true → ∀ (m : Nat) (st : Sto) (i k : Nat), PotX st i k → k + 3 * n < 2 ^ 30 →
    ∃ d' st', callN T C F (n + m + 2) 5 [.mref i, d] st = .ok (d', st') ∧ d' ∈ bents n d ∧ PotX st' i (k + 3 * n) ∧ Adv i st st'
  | 0, d, h => by simp [bd] at h
  | n + 1, .tup ds, h => by
    intro m st i k p hk
    simp only [bd, Bool.and_eq_true, decide_eq_true_eq] at h
    obtain ⟨⟨⟨⟨⟨h1, h2⟩, h3⟩, h4⟩, h5⟩, h6⟩ := h
    have hne := tup_ne h1
    have el : n + 1 + m + 2 = (n + m + 2) + 1 := by omega
    rw [el, call_eq (fn := f5) rfl, run0 rfl rfl]
    have fin : ∀ {d' : D} {env : En.Env} {st' : Sto}, evSs (callN T C F (n + m + 2)) C F f5.body [some (.mref i), some (.tup ds), none, none] st = .ok (.ret d', env, st') → d'.clean = true → st'.length = st.length → runBody (callN T C F (n + m + 2)) C F f5 [.mref i, .tup ds] st = .ok (d', st') := fun {d' env st'} e hc hl => by
      rw [body_ret (fn := f5) (ds := [.mref i, .tup ds]) e]
      exact fin_d hc hl
    cases hds : ds.isEmpty with
    | true =>
      rw [hds] at hne
      obtain ⟨d', env, st', e, hd, hc, p', v⟩ := s1_run (F := F) (n := n + m) (a := none) (b := none) p (by omega) h2 h6
      refine ⟨d', st', fin (env := env) ?_ hc v.len, ?_, p'.up (by omega), v⟩
      · have e0 : evS (callN T C F (n + m + 2)) C F s0 [some (.mref i), some (.tup ds), none, none] st = .ok (.next, [some (.mref i), some (.tup ds), none, none], st) := by
          simp (decide := true) only [runBody, List.map, List.length_cons, List.length_nil, List.replicate, List.cons_append, List.nil_append, evSs, x_lit, x_var, x_glob, x_bin, x_neg, x_not, x_cmp, x_chain, x_and, x_or, x_ite, x_tup, x_lst, x_lstM, x_idx, x_slc, x_rev, x_call, x_bi, x_copyM, x_append, x_extend, x_popAt, x_pop, x_frz, x_dnew, x_rng1, x_rng2, x_dget, y_asg, y_par, y_aug, y_ex, y_setix, y_ite, y_ret, y_retN, y_brk, y_cont, y_pass, y_never, y_frzV, evEs, evAnd, evOr, evT, evO, rb, List.getElem?_cons_zero, List.getElem?_cons_succ, sn_int, sn_str, sn_bl, sn_tup, sn_lst, sn_non, sn_dic, sn_ro, ix_l, ix_t, ix_r, ro_some, c_gt, c_ge, c_lt, c_le, decide_true, decide_false, ab, if_true, if_false, Bool.false_eq_true, Bool.not_true, Bool.not_false, bi_int, bi_intb, bi_abs, bi_lenl, bi_lent, bi_lenr, bi_tupl, b_add, b_sub, a_name, a_tup, as_nil, as_cons, setAll, List.set_cons_zero, List.set_cons_succ, ir_int, ir_str, ir_tup, ir_lst, ir_bl, ir_non, ir_dic, ir_ro, List.length_set, tn0, tn1, tn2, tn3, lim_ok, cl_int, cl_str, cl_bl, cl_non, cl_tup, cl_lst, cls_nil, cls_cons, cls_ints, cls_strs, cls_pairs, Bool.and_self, Bool.true_and, Bool.and_true, Bool.or_self, Bool.or_false, s0, bT, hne]
        rw [f5_body, ss_next e0, ss_ret e]
      · exact List.mem_append_left _ hd
    | false =>
      rw [hds] at hne
      have hpos : 0 < ds.length := by cases ds with | nil => cases hds | cons => simp
      obtain ⟨r, st1, t1, r0, r1, p1, v1⟩ := take_x (F := F) (n := n + m + 1) (u := 6) p (by omega) (by omega) (by omega)
      by_cases hr : 0 < r
      · obtain ⟨q, st2, t2, q0, q1, p2, v2⟩ := take_x (F := F) (n := n + m + 1) (u := (ds.length : Int)) p1 (by omega) (by omega) (by omega)
        have hq : q.toNat < ds.length := by omega
        have hat : atD ds q = some ds[q.toNat] := at_nat q0 hq
        obtain ⟨d', st', t3, hd, p3, v3⟩ := bent_run (F := F) n ds[q.toNat] (all_get h4 hq) m st2 i _ p2 (by omega)
        have eq : ((q.toNat : Nat) : Int) = q := by omega
        have hmem : D.tup (cutD ds none (some q) ++ [d'] ++ cutD ds (some (q + 1)) none) ∈ bents (n + 1) (.tup ds) := by
          refine List.mem_append_right _ (List.mem_flatMap.mpr ⟨q.toNat, List.mem_range.mpr hq, ?_⟩)
          rw [List.getElem?_eq_getElem hq]
          show _ ∈ (bents n ds[q.toNat]).map _
          refine List.mem_map.mpr ⟨d', hd, ?_⟩
          rw [eq]
        have hcl := List.all_eq_true.mp h5 _ hmem
        have b1 : bop .add (.tup (cutD ds none (some q))) (.tup [d']) = .ok (.tup (cutD ds none (some q) ++ [d'])) := bat (by have := cutD_le ds none (some q); show _ + 1 ≤ _; rw [LIM_val]; omega)
        have b2 : bop .add (.tup (cutD ds none (some q) ++ [d'])) (.tup (cutD ds (some (q + 1)) none)) = .ok (.tup (cutD ds none (some q) ++ [d'] ++ cutD ds (some (q + 1)) none)) := bat (by
          have := cutD_le ds none (some q)
          have := cutD_le ds (some (q + 1)) none
          rw [List.length_append]
          show _ + 1 + _ ≤ _
          rw [LIM_val]; omega)
        refine ⟨_, st', fin (env := [some (.mref i), some (.tup ds), some (.int q), none]) ?_ hcl (by rw [v3.len, v2.len, v1.len]), hmem, p3.up (by omega), (v1.trans v2).trans v3⟩
        have e0 : evS (callN T C F (n + m + 2)) C F s0 [some (.mref i), some (.tup ds), none, none] st = .ok (.ret (.tup (cutD ds none (some q) ++ [d'] ++ cutD ds (some (q + 1)) none)), [some (.mref i), some (.tup ds), some (.int q), none], st') := by
          simp (decide := true) only [runBody, List.map, List.length_cons, List.length_nil, List.replicate, List.cons_append, List.nil_append, evSs, x_lit, x_var, x_glob, x_bin, x_neg, x_not, x_cmp, x_chain, x_and, x_or, x_ite, x_tup, x_lst, x_lstM, x_idx, x_slc, x_rev, x_call, x_bi, x_copyM, x_append, x_extend, x_popAt, x_pop, x_frz, x_dnew, x_rng1, x_rng2, x_dget, y_asg, y_par, y_aug, y_ex, y_setix, y_ite, y_ret, y_retN, y_brk, y_cont, y_pass, y_never, y_frzV, evEs, evAnd, evOr, evT, evO, rb, List.getElem?_cons_zero, List.getElem?_cons_succ, sn_int, sn_str, sn_bl, sn_tup, sn_lst, sn_non, sn_dic, sn_ro, ix_l, ix_t, ix_r, ro_some, c_gt, c_ge, c_lt, c_le, decide_true, decide_false, ab, if_true, if_false, Bool.false_eq_true, Bool.not_true, Bool.not_false, bi_int, bi_intb, bi_abs, bi_lenl, bi_lent, bi_lenr, bi_tupl, b_add, b_sub, a_name, a_tup, as_nil, as_cons, setAll, List.set_cons_zero, List.set_cons_succ, ir_int, ir_str, ir_tup, ir_lst, ir_bl, ir_non, ir_dic, ir_ro, List.length_set, tn0, tn1, tn2, tn3, lim_ok, cl_int, cl_str, cl_bl, cl_non, cl_tup, cl_lst, cls_nil, cls_cons, cls_ints, cls_strs, cls_pairs, Bool.and_self, Bool.true_and, Bool.and_true, Bool.or_self, Bool.or_false, s0, bT, hne, t1, hr, t2, sl1, sl2, hat, t3, b1, b2]
        rw [f5_body, ss_ret e0]
      · obtain ⟨d', env, st', e, hd, hc, p', v⟩ := s1_run (F := F) (n := n + m) (a := none) (b := none) p1 (by omega) h2 h6
        refine ⟨d', st', fin (env := env) ?_ hc (by rw [v.len, v1.len]), ?_, p'.up (by omega), v1.trans v⟩
        · have e0 : evS (callN T C F (n + m + 2)) C F s0 [some (.mref i), some (.tup ds), none, none] st = .ok (.next, [some (.mref i), some (.tup ds), none, none], st1) := by
            simp (decide := true) only [runBody, List.map, List.length_cons, List.length_nil, List.replicate, List.cons_append, List.nil_append, evSs, x_lit, x_var, x_glob, x_bin, x_neg, x_not, x_cmp, x_chain, x_and, x_or, x_ite, x_tup, x_lst, x_lstM, x_idx, x_slc, x_rev, x_call, x_bi, x_copyM, x_append, x_extend, x_popAt, x_pop, x_frz, x_dnew, x_rng1, x_rng2, x_dget, y_asg, y_par, y_aug, y_ex, y_setix, y_ite, y_ret, y_retN, y_brk, y_cont, y_pass, y_never, y_frzV, evEs, evAnd, evOr, evT, evO, rb, List.getElem?_cons_zero, List.getElem?_cons_succ, sn_int, sn_str, sn_bl, sn_tup, sn_lst, sn_non, sn_dic, sn_ro, ix_l, ix_t, ix_r, ro_some, c_gt, c_ge, c_lt, c_le, decide_true, decide_false, ab, if_true, if_false, Bool.false_eq_true, Bool.not_true, Bool.not_false, bi_int, bi_intb, bi_abs, bi_lenl, bi_lent, bi_lenr, bi_tupl, b_add, b_sub, a_name, a_tup, as_nil, as_cons, setAll, List.set_cons_zero, List.set_cons_succ, ir_int, ir_str, ir_tup, ir_lst, ir_bl, ir_non, ir_dic, ir_ro, List.length_set, tn0, tn1, tn2, tn3, lim_ok, cl_int, cl_str, cl_bl, cl_non, cl_tup, cl_lst, cls_nil, cls_cons, cls_ints, cls_strs, cls_pairs, Bool.and_self, Bool.true_and, Bool.and_true, Bool.or_self, Bool.or_false, s0, bT, hne, t1, hr]
          rw [f5_body, ss_next e0, ss_ret e]
        · exact List.mem_append_left _ hd
  | n + 1, .int j, h => by
    intro m st i k p hk
    have hs : shOk j = true := h
    have el : n + 1 + m + 2 = (n + m + 2) + 1 := by omega
    rw [el, call_eq (fn := f5) rfl, run0 rfl rfl]
    have e := l3_run (Γ := callN T C F (n + m + 2)) (st := st) (i := i) (a := none) (b := none) hs
    obtain ⟨d, st', e2, hd, hcl, p', v⟩ := pick_of (F := F) (n := n + m) (e2 := l3) (env := [some (.mref i), some (.int j), none, none]) p (by omega) (by simp [leaf]) (by simp [leaf]) (by simp [leaf, D.clean, D.cleans]) rfl e
    refine ⟨d, st', ?_, hd, p'.up (by omega), v⟩
    have e3 : evS (callN T C F (n + m + 2)) C F s3 [some (.mref i), some (.int j), none, none] st = .ok (.ret d, [some (.mref i), some (.int j), none, none], st') := by
      unfold s3
      rw [y_ite]
      have e0 : evE (callN T C F (n + m + 2)) C (.bi .isInt [(.var 1)]) [some (.mref i), some (.int j), none, none] st = .ok (.bl true, st) := by
        simp (decide := true) only [runBody, List.map, List.length_cons, List.length_nil, List.replicate, List.cons_append, List.nil_append, evSs, x_lit, x_var, x_glob, x_bin, x_neg, x_not, x_cmp, x_chain, x_and, x_or, x_ite, x_tup, x_lst, x_lstM, x_idx, x_slc, x_rev, x_call, x_bi, x_copyM, x_append, x_extend, x_popAt, x_pop, x_frz, x_dnew, x_rng1, x_rng2, x_dget, y_asg, y_par, y_aug, y_ex, y_setix, y_ite, y_ret, y_retN, y_brk, y_cont, y_pass, y_never, y_frzV, evEs, evAnd, evOr, evT, evO, rb, List.getElem?_cons_zero, List.getElem?_cons_succ, sn_int, sn_str, sn_bl, sn_tup, sn_lst, sn_non, sn_dic, sn_ro, ix_l, ix_t, ix_r, ro_some, c_gt, c_ge, c_lt, c_le, decide_true, decide_false, ab, if_true, if_false, Bool.false_eq_true, Bool.not_true, Bool.not_false, bi_int, bi_intb, bi_abs, bi_lenl, bi_lent, bi_lenr, bi_tupl, b_add, b_sub, a_name, a_tup, as_nil, as_cons, setAll, List.set_cons_zero, List.set_cons_succ, ir_int, ir_str, ir_tup, ir_lst, ir_bl, ir_non, ir_dic, ir_ro, List.length_set, tn0, tn1, tn2, tn3, lim_ok, cl_int, cl_str, cl_bl, cl_non, cl_tup, cl_lst, cls_nil, cls_cons, cls_ints, cls_strs, cls_pairs, Bool.and_self, Bool.true_and, Bool.and_true, Bool.or_self, Bool.or_false, bIi]
      rw [e0, rb]
      show ((asBool (.bl true)).bind fun r => _) = _
      rw [ab, rb, if_pos rfl, ss_ret e2]
    rw [body_ret (fn := f5) (ds := [.mref i, .int j]) (d := d) (st1 := st') (env1 := [some (.mref i), some (.int j), none, none])]
    · exact fin_d hcl v.len
    · show evSs _ _ _ f5.body [some (.mref i), some (.int j), none, none] st = _
      rw [f5_body, ss_next (s0_no (bTi j) rfl), ss_next (s1_no (bTi j) rfl), ss_next (s2_no (bBi j) rfl), ss_ret e3]
  | n + 1, .str x, h => by
    intro m st i k p hk
    have hs : x.length ≤ 100 := of_decide_eq_true h
    have el : n + 1 + m + 2 = (n + m + 2) + 1 := by omega
    rw [el, call_eq (fn := f5) rfl, run0 rfl rfl]
    have e := l4_run (Γ := callN T C F (n + m + 2)) (st := st) (i := i) (a := none) (b := none) hs
    generalize hL : leaf (.str x) = L at *
    have hL0 : L ≠ [] := by rw [← hL]; simp [leaf]
    have hL1 : L.length < 2 ^ 20 := by rw [← hL]; simp [leaf]
    have hLc : L.all D.clean = true := by rw [← hL]; simp [leaf, D.clean, D.cleans]
    obtain ⟨d, st', e2, hd, hcl, p', v⟩ := pick_of (F := F) (n := n + m) (e2 := .var 3) (env := [some (.mref i), some (.str x), none, some (.lst L)]) p (by omega) hL0 hL1 hLc rfl (by simp only [x_var, List.getElem?_cons_zero, List.getElem?_cons_succ])
    refine ⟨d, st', ?_, by show d ∈ leaf (.str x); rw [hL]; exact hd, p'.up (by omega), v⟩
    have e1 : evS (callN T C F (n + m + 2)) C F (.asg (.name 3) l4) [some (.mref i), some (.str x), none, none] st = .ok (.next, [some (.mref i), some (.str x), none, some (.lst L)], st) := by
      simp (decide := true) only [runBody, List.map, List.length_cons, List.length_nil, List.replicate, List.cons_append, List.nil_append, evSs, x_lit, x_var, x_glob, x_bin, x_neg, x_not, x_cmp, x_chain, x_and, x_or, x_ite, x_tup, x_lst, x_lstM, x_idx, x_slc, x_rev, x_call, x_bi, x_copyM, x_append, x_extend, x_popAt, x_pop, x_frz, x_dnew, x_rng1, x_rng2, x_dget, y_asg, y_par, y_aug, y_ex, y_setix, y_ite, y_ret, y_retN, y_brk, y_cont, y_pass, y_never, y_frzV, evEs, evAnd, evOr, evT, evO, rb, List.getElem?_cons_zero, List.getElem?_cons_succ, sn_int, sn_str, sn_bl, sn_tup, sn_lst, sn_non, sn_dic, sn_ro, ix_l, ix_t, ix_r, ro_some, c_gt, c_ge, c_lt, c_le, decide_true, decide_false, ab, if_true, if_false, Bool.false_eq_true, Bool.not_true, Bool.not_false, bi_int, bi_intb, bi_abs, bi_lenl, bi_lent, bi_lenr, bi_tupl, b_add, b_sub, a_name, a_tup, as_nil, as_cons, setAll, List.set_cons_zero, List.set_cons_succ, ir_int, ir_str, ir_tup, ir_lst, ir_bl, ir_non, ir_dic, ir_ro, List.length_set, tn0, tn1, tn2, tn3, lim_ok, cl_int, cl_str, cl_bl, cl_non, cl_tup, cl_lst, cls_nil, cls_cons, cls_ints, cls_strs, cls_pairs, Bool.and_self, Bool.true_and, Bool.and_true, Bool.or_self, Bool.or_false, e]
    have e3 : evS (callN T C F (n + m + 2)) C F s4 [some (.mref i), some (.str x), none, none] st = .ok (.ret d, [some (.mref i), some (.str x), none, some (.lst L)], st') := by
      unfold s4
      rw [y_ite]
      have e0 : evE (callN T C F (n + m + 2)) C (.bi .isStr [(.var 1)]) [some (.mref i), some (.str x), none, none] st = .ok (.bl true, st) := by
        simp (decide := true) only [runBody, List.map, List.length_cons, List.length_nil, List.replicate, List.cons_append, List.nil_append, evSs, x_lit, x_var, x_glob, x_bin, x_neg, x_not, x_cmp, x_chain, x_and, x_or, x_ite, x_tup, x_lst, x_lstM, x_idx, x_slc, x_rev, x_call, x_bi, x_copyM, x_append, x_extend, x_popAt, x_pop, x_frz, x_dnew, x_rng1, x_rng2, x_dget, y_asg, y_par, y_aug, y_ex, y_setix, y_ite, y_ret, y_retN, y_brk, y_cont, y_pass, y_never, y_frzV, evEs, evAnd, evOr, evT, evO, rb, List.getElem?_cons_zero, List.getElem?_cons_succ, sn_int, sn_str, sn_bl, sn_tup, sn_lst, sn_non, sn_dic, sn_ro, ix_l, ix_t, ix_r, ro_some, c_gt, c_ge, c_lt, c_le, decide_true, decide_false, ab, if_true, if_false, Bool.false_eq_true, Bool.not_true, Bool.not_false, bi_int, bi_intb, bi_abs, bi_lenl, bi_lent, bi_lenr, bi_tupl, b_add, b_sub, a_name, a_tup, as_nil, as_cons, setAll, List.set_cons_zero, List.set_cons_succ, ir_int, ir_str, ir_tup, ir_lst, ir_bl, ir_non, ir_dic, ir_ro, List.length_set, tn0, tn1, tn2, tn3, lim_ok, cl_int, cl_str, cl_bl, cl_non, cl_tup, cl_lst, cls_nil, cls_cons, cls_ints, cls_strs, cls_pairs, Bool.and_self, Bool.true_and, Bool.and_true, Bool.or_self, Bool.or_false, bSs]
      rw [e0, rb]
      show ((asBool (.bl true)).bind fun r => _) = _
      rw [ab, rb, if_pos rfl, ss_next e1, ss_ret e2]
    rw [body_ret (fn := f5) (ds := [.mref i, .str x]) (d := d) (st1 := st') (env1 := [some (.mref i), some (.str x), none, some (.lst L)])]
    · exact fin_d hcl v.len
    · show evSs _ _ _ f5.body [some (.mref i), some (.str x), none, none] st = _
      rw [f5_body, ss_next (s0_no (bTs x) rfl), ss_next (s1_no (bTs x) rfl), ss_next (s2_no (bBs x) rfl), ss_next (s3_no (bIs x) rfl), ss_ret e3]
end K00

set_option Elab.async false
set_option linter.all false
set_option maxRecDepth 100000
set_option maxHeartbeats 1000000
namespace K00
open PySem En
def bodyOf (mk : Str → CE) (g0 : List Str) (gs : List (List Str)) (gl : List Str) : List CS :=
  .asg (.name 1) (.lstM (g0.map mk)) :: ((gs.map fun g => CS.ex (.extend (.var 1) (.lst (g.map mk)))) ++ [.ret (.bin .add (.var 1) (.lst (gl.map mk)))])
section
variable {Γ : Fns} {F : Nat} {mk : Str → CE} {g : Str → D} {d : D}
theorem evEs_map {env : En.Env} {st : Sto} (h : ∀ x, evE Γ C (mk x) env st = .ok (g x, st)) : ∀ l : List Str, evEs Γ C (l.map mk) env st = .ok (l.map g, st)
  | [] => by simp only [List.map, evEs]
  | x :: r => by simp only [List.map, evEs, h x, rb, evEs_map h r]
theorem cl_map {l : List Str} (hg : ∀ x, (g x).clean = true) : D.cleans (l.map g) = true := cls_map fun x _ => hg x
theorem lst_map {env : En.Env} {st : Sto} (h : ∀ x, evE Γ C (mk x) env st = .ok (g x, st)) (hg : ∀ x, (g x).clean = true) {l : List Str} (hl : l.length ≤ 100) : evE Γ C (.lst (l.map mk)) env st = .ok (.lst (l.map g), st) := by
  rw [x_lst, evEs_map h l, rb]
  show (if noRefs (l.map g) && decide ((l.map g).length ≤ LIM) then _ else _) = _
  have h2 : decide ((l.map g).length ≤ LIM) = true := decide_eq_true (by rw [List.length_map, LIM_val]; omega)
  rw [nrf _ (cl_map hg), h2]
  rfl
theorem ext_one {st : Sto} {ds : List D} (h : ∀ x v st, evE Γ C (mk x) [some d, v] st = .ok (g x, st)) (hg : ∀ x, (g x).clean = true) {l : List Str} (hl : l.length ≤ 100) (hd : ds.length ≤ 1000) :
    evS Γ C F (.ex (.extend (.var 1) (.lst (l.map mk)))) [some d, some (.mref st.length)] (st ++ [.lst ds]) = .ok (.next, [some d, some (.mref st.length)], st ++ [.lst (ds ++ l.map g)]) := by
  have e := lst_map (Γ := Γ) (env := [some d, some (.mref st.length)]) (st := st ++ [.lst ds]) (fun x => h x _ _) hg hl
  have hat : (st ++ [O.lst ds])[st.length]? = some (.lst ds) := by simp
  have hgl : getLst (st ++ [O.lst ds]) (.mref st.length) = .ok (st.length, ds) := gl_at hat
  have hset : (st ++ [O.lst ds]).set st.length (.lst (ds ++ l.map g)) = st ++ [.lst (ds ++ l.map g)] := by
    rw [List.set_append_right _ _ (Nat.le_refl _)]
    simp
  have hc := cl_map (g := g) (l := l) hg
  have hlim : decide (LIM < ds.length + (l.map g).length) = false := decide_eq_false (by rw [List.length_map, LIM_val]; omega)
  generalize l.map g = ys at *
  generalize CE.lst (l.map mk) = ce at *
  simp (decide := true) only [runBody, List.map, List.length_cons, List.length_nil, List.replicate, List.cons_append, List.nil_append, evSs, x_lit, x_var, x_glob, x_bin, x_neg, x_not, x_cmp, x_chain, x_and, x_or, x_ite, x_tup, x_lst, x_lstM, x_idx, x_slc, x_rev, x_call, x_bi, x_copyM, x_append, x_extend, x_popAt, x_pop, x_frz, x_dnew, x_rng1, x_rng2, x_dget, y_asg, y_par, y_aug, y_ex, y_setix, y_ite, y_ret, y_retN, y_brk, y_cont, y_pass, y_never, y_frzV, evEs, evAnd, evOr, evT, evO, rb, List.getElem?_cons_zero, List.getElem?_cons_succ, sn_int, sn_str, sn_bl, sn_tup, sn_lst, sn_non, sn_dic, sn_ro, ix_l, ix_t, ix_r, ro_some, c_gt, c_ge, c_lt, c_le, decide_true, decide_false, ab, if_true, if_false, Bool.false_eq_true, Bool.not_true, Bool.not_false, bi_int, bi_intb, bi_abs, bi_lenl, bi_lent, bi_lenr, bi_tupl, b_add, b_sub, a_name, a_tup, as_nil, as_cons, setAll, List.set_cons_zero, List.set_cons_succ, ir_int, ir_str, ir_tup, ir_lst, ir_bl, ir_non, ir_dic, ir_ro, List.length_set, tn0, tn1, tn2, tn3, lim_ok, cl_int, cl_str, cl_bl, cl_non, cl_tup, cl_lst, cls_nil, cls_cons, cls_ints, cls_strs, cls_pairs, Bool.and_self, Bool.true_and, Bool.and_true, Bool.or_self, Bool.or_false, hgl, e, hc, hlim, hset]
theorem exts {st : Sto} (h : ∀ x v st, evE Γ C (mk x) [some d, v] st = .ok (g x, st)) (hg : ∀ x, (g x).clean = true) (r : List CS) : ∀ (gs : List (List Str)) (ds : List D), (∀ l ∈ gs, l.length ≤ 10) → ds.length + 10 * gs.length ≤ 1000 →
    evSs Γ C F ((gs.map fun g => CS.ex (.extend (.var 1) (.lst (g.map mk)))) ++ r) [some d, some (.mref st.length)] (st ++ [.lst ds]) = evSs Γ C F r [some d, some (.mref st.length)] (st ++ [.lst (ds ++ gs.flatten.map g)])
  | [], ds, _, _ => by simp
  | l :: gs, ds, hl, hd => by
    have hll := hl l (List.mem_cons_self ..)
    simp only [List.length_cons] at hd
    rw [List.map_cons, List.cons_append, ss_next (ext_one (st := st) h hg (by omega) (by omega)), exts h hg r gs (ds ++ l.map g) (fun l' h' => hl l' (List.mem_cons_of_mem _ h')) (by rw [List.length_append, List.length_map]; omega)]
    rw [List.flatten_cons, List.map_append, List.append_assoc]
theorem bodyOf_run {st : Sto} {g0 gl : List Str} {gs : List (List Str)} (h : ∀ x v st, evE Γ C (mk x) [some d, v] st = .ok (g x, st)) (hg : ∀ x, (g x).clean = true) (h0 : g0.length ≤ 10) (hl : gl.length ≤ 10) (hgs : ∀ l ∈ gs, l.length ≤ 10) (hn : gs.length ≤ 50) :
    ∃ env st1, evSs Γ C F (bodyOf mk g0 gs gl) [some d, none] st = .ok (.ret (.lst ((g0 ++ gs.flatten ++ gl).map g)), env, st1) ∧ st1.take st.length = st := by
  refine ⟨[some d, some (.mref st.length)], st ++ [.lst (g0.map g ++ gs.flatten.map g)], ?_, by simp⟩
  have e1 : evS Γ C F (.asg (.name 1) (.lstM (g0.map mk))) [some d, none] st = .ok (.next, [some d, some (.mref st.length)], st ++ [.lst (g0.map g)]) := by
    have e := evEs_map (Γ := Γ) (env := [some d, none]) (st := st) (fun x => h x _ _) g0
    have hc := cl_map (g := g) (l := g0) hg
    have h2 : decide ((g0.map g).length ≤ LIM) = true := decide_eq_true (by rw [List.length_map, LIM_val]; omega)
    generalize g0.map g = ys at *
    rw [y_asg, x_lstM, e, rb]
    show ((if D.cleans ys && decide (ys.length ≤ LIM) then Res.ok (D.mref st.length, st ++ [O.lst ys]) else .bad).bind _) = _
    rw [hc, h2]
    rfl
  have e3 : evS Γ C F (.ret (.bin .add (.var 1) (.lst (gl.map mk)))) [some d, some (.mref st.length)] (st ++ [.lst (g0.map g ++ gs.flatten.map g)]) = .ok (.ret (.lst ((g0 ++ gs.flatten ++ gl).map g)), [some d, some (.mref st.length)], st ++ [.lst (g0.map g ++ gs.flatten.map g)]) := by
    have hfl : gs.flatten.length ≤ 10 * gs.length := by
      clear e1 hn
      induction gs with
      | nil => simp
      | cons l r ih =>
        have := hgs l (List.mem_cons_self ..)
        have := ih fun l' h' => hgs l' (List.mem_cons_of_mem _ h')
        simp only [List.flatten_cons, List.length_append, List.length_cons]
        omega
    have e := lst_map (Γ := Γ) (env := [some d, some (.mref st.length)]) (st := st ++ [.lst (g0.map g ++ gs.flatten.map g)]) (fun x => h x _ _) hg (l := gl) (by omega)
    have hb : bop .add (.lst (g0.map g ++ gs.flatten.map g)) (.lst (gl.map g)) = .ok (.lst ((g0.map g ++ gs.flatten.map g) ++ gl.map g)) := if_pos (by simp only [List.length_append, List.length_map, LIM_val]; omega)
    have hsn : snap (st ++ [.lst (g0.map g ++ gs.flatten.map g)]) (.mref st.length) = .lst (g0.map g ++ gs.flatten.map g) := sn_ml (by simp)
    rw [List.map_append, List.map_append]
    generalize g0.map g ++ gs.flatten.map g = ys at *
    generalize CE.lst (gl.map mk) = ce at *
    simp (decide := true) only [runBody, List.map, List.length_cons, List.length_nil, List.replicate, List.cons_append, List.nil_append, evSs, x_lit, x_var, x_glob, x_bin, x_neg, x_not, x_cmp, x_chain, x_and, x_or, x_ite, x_tup, x_lst, x_lstM, x_idx, x_slc, x_rev, x_call, x_bi, x_copyM, x_append, x_extend, x_popAt, x_pop, x_frz, x_dnew, x_rng1, x_rng2, x_dget, y_asg, y_par, y_aug, y_ex, y_setix, y_ite, y_ret, y_retN, y_brk, y_cont, y_pass, y_never, y_frzV, evEs, evAnd, evOr, evT, evO, rb, List.getElem?_cons_zero, List.getElem?_cons_succ, sn_int, sn_str, sn_bl, sn_tup, sn_lst, sn_non, sn_dic, sn_ro, ix_l, ix_t, ix_r, ro_some, c_gt, c_ge, c_lt, c_le, decide_true, decide_false, ab, if_true, if_false, Bool.false_eq_true, Bool.not_true, Bool.not_false, bi_int, bi_intb, bi_abs, bi_lenl, bi_lent, bi_lenr, bi_tupl, b_add, b_sub, a_name, a_tup, as_nil, as_cons, setAll, List.set_cons_zero, List.set_cons_succ, ir_int, ir_str, ir_tup, ir_lst, ir_bl, ir_non, ir_dic, ir_ro, List.length_set, tn0, tn1, tn2, tn3, lim_ok, cl_int, cl_str, cl_bl, cl_non, cl_tup, cl_lst, cls_nil, cls_cons, cls_ints, cls_strs, cls_pairs, Bool.and_self, Bool.true_and, Bool.and_true, Bool.or_self, Bool.or_false, e, hsn, hb]
  unfold bodyOf
  rw [ss_next e1, exts (st := st) h hg _ gs (g0.map g) hgs (by rw [List.length_map]; omega), ss_ret e3]
end
end K00

set_option Elab.async false
set_option linter.all false
set_option maxRecDepth 100000
set_option maxHeartbeats 1000000
namespace K00
open PySem En
def m0 : List Str := (["BadPlan", "BadChoice", "BadDone", "BadNumber", "BadRun", "TooMany"] : List Str)
def ms : List (List Str) := [(["Unlike", "NoTask", "Same", "BadPairs", "Wide", "BadLot"] : List Str), (["BadOther", "BadName", "BadTrade", "BadStock", "BadTasks"] : List Str), (["BadSteps", "BadStairs", "BadBase", "NotEnough", "BadRow"] : List Str), (["NotPlain", "BadRows", "BadStep", "BadCrew", "NoPerson", "BadTask"] : List Str), (["Known", "Full", "NotKnown", "Last", "BadDuty", "Held"] : List Str), (["NoDuty", "BadDeal", "Nobody", "BadAway", "BadStand", "BadShare"] : List Str), (["NoDeal", "NotSimple", "Stuck", "Away", "NotNow", "Short"] : List Str), (["NotKept", "Here", "NothingToUndo", "NothingToRedo", "NoTrial"] : List Str), (["BadJournal", "BadSaying", "NotLet", "NoRun", "BadForeign"] : List Str), (["BadTold", "BadStanding", "BadWorks", "BadDay", "NoRest"] : List Str)]
def ml : List Str := (["BadOffers", "NoRests", "OtherWorks", "Apart", "BadPeople"] : List Str)
theorem f6_body : f6.body = bodyOf (fun x => .mkErr x (.var 0)) m0 ms ml := rfl
def k0 : List Str := (["BadPlan", "BadChoice", "BadDone"] : List Str)
def ks : List (List Str) := [(["BadNumber", "BadRun", "TooMany"] : List Str), (["Unlike", "NoTask", "Same"] : List Str), (["BadPairs", "Wide", "BadLot"] : List Str), (["BadOther", "BadName", "BadTrade"] : List Str), (["BadStock", "BadTasks", "BadSteps"] : List Str), (["BadStairs", "BadBase", "NotEnough"] : List Str), (["BadRow", "NotPlain", "BadRows"] : List Str), (["BadStep", "BadCrew", "NoPerson"] : List Str), (["BadTask", "Known", "Full"] : List Str), (["NotKnown", "Last", "BadDuty"] : List Str), (["Held", "NoDuty", "BadDeal"] : List Str), (["Nobody", "BadAway", "BadStand"] : List Str), (["BadShare", "NoDeal", "NotSimple"] : List Str), (["Stuck", "Away", "NotNow"] : List Str), (["Short", "NotKept", "Here"] : List Str), (["NothingToUndo", "NothingToRedo", "NoTrial"] : List Str), (["BadJournal", "BadSaying", "NotLet"] : List Str), (["NoRun", "BadForeign", "BadTold"] : List Str), (["BadStanding", "BadWorks", "BadDay"] : List Str), (["NoRest", "BadOffers", "NoRests"] : List Str)]
def kl : List Str := (["OtherWorks", "Apart", "BadPeople"] : List Str)
theorem f7_body : f7.body = bodyOf (fun x => .isErr x (.var 0)) k0 ks kl := rfl
/-- the names of the errors -/
def nms : List Str := m0 ++ ms.flatten ++ ml
theorem nms_k : k0 ++ ks.flatten ++ kl = nms := by decide +kernel
theorem nms_len : nms.length = 66 := by decide +kernel
theorem made_run {F n : Nat} {st : Sto} {d : D} (hc : d.clean = true) : callN T C F (n + 1) 6 [d] st = .ok (.lst (nms.map fun x => .err x d), st) := by
  rw [call_eq (fn := f6) rfl, run0 rfl rfl]
  obtain ⟨env, st1, e, ht⟩ := bodyOf_run (Γ := callN T C F n) (F := F) (st := st) (mk := fun x => .mkErr x (.var 0)) (g := fun x => .err x d) (d := d) (g0 := m0) (gs := ms) (gl := ml)
    (fun x v st => by simp only [x_mkErr, x_var, List.getElem?_cons_zero, rb, hc, if_true]) (fun x => hc) (by decide) (by decide) (by decide) (by decide)
  rw [body_ret (fn := f6) (ds := [d]) (st1 := st1) (env1 := env) (d := .lst (nms.map fun x => .err x d))]
  · rw [fin_t (by exact cl_map (g := fun x => D.err x d) (fun x => hc)), ht]
  · show evSs _ _ _ f6.body [some d, none] st = _
    rw [f6_body]
    exact e
theorem marks_run {F n : Nat} {st : Sto} {y : Str} {d : D} : callN T C F (n + 1) 7 [.err y d] st = .ok (.lst (nms.map fun x => .bl (errSub y x)), st) := by
  rw [call_eq (fn := f7) rfl, run0 rfl rfl]
  obtain ⟨env, st1, e, ht⟩ := bodyOf_run (Γ := callN T C F n) (F := F) (st := st) (mk := fun x => .isErr x (.var 0)) (g := fun x => .bl (errSub y x)) (d := .err y d) (g0 := k0) (gs := ks) (gl := kl)
    (fun x v st => by simp only [x_isErr, x_var, List.getElem?_cons_zero, rb]) (fun x => rfl) (by decide) (by decide) (by decide) (by decide)
  rw [nms_k] at e
  rw [body_ret (fn := f7) (ds := [.err y d]) (st1 := st1) (env1 := env) (d := .lst (nms.map fun x => .bl (errSub y x)))]
  · rw [fin_t (by exact cl_map (g := fun x => D.bl (errSub y x)) (fun x => rfl)), ht]
  · show evSs _ _ _ f7.body [some (.err y d), none] st = _
    rw [f7_body]
    exact e
def RRb (d : D) : Bool := d.clean && !d.isRef && (match bi .repr [d] with
  | .ok (.str t) => (match cop .ne (.str t) (.str t) with
    | .ok b => !b
    | _ => false)
  | _ => false)
structure RR (d : D) : Prop where
  cl : d.clean = true
  rp : ∃ t, bi .repr [d] = .ok (.str t) ∧ cop .ne (.str t) (.str t) = .ok false
  rf : d.isRef = false
  sn : ∀ st, snap st d = d
theorem RR_of {d : D} (h : RRb d = true) : RR d := by
  unfold RRb at h
  simp only [Bool.and_eq_true, Bool.not_eq_true'] at h
  obtain ⟨⟨h1, h2⟩, h3⟩ := h
  refine ⟨h1, ?_, h2, fun st => ?_⟩
  · split at h3
    · rename_i t e
      split at h3
      · rename_i b e2
        refine ⟨t, e, ?_⟩
        rw [e2]
        simpa using h3
      · cases h3
    · cases h3
  · cases d with
    | mref i => cases h2
    | _ => rfl
def odds : List D := [.non, .bl true, .bl false, .int 0, .int 1, .int (-1), .int 7, .str "", .str "a", .str "then", .str "nosuch", .tup [], .lst [], .dic [], .tup [.int 0], .tup [.tup []], .lst [.int 0], .tup [.str "a"], .str "a b",
  .tup [.str "a", .str "b"], .tup [.tup [.str "a", .str "b"]], .tup [.non], .dic [(.inr "a", .int 1)], .str "A", .tup [.str "run", .tup []], .str "then(a,b)", .tup [.int 0, .int 0], .int (10 ^ 8)]
theorem odds_rr : odds.all RRb = true := by decide +kernel
def v1 : D := .tup [.int 2, .tup [.str "a", .str "b"]]
def v2 : D := .tup [.tup [.str "a"], .tup [], .int 3]
theorem bd1 : bd 3 v1 = true := by decide +kernel
theorem bd2 : bd 3 v2 = true := by decide +kernel
theorem be1 : (bents 3 v1).all RRb = true := by decide +kernel
theorem be2 : (bents 3 v2).all RRb = true := by decide +kernel
end K00

set_option Elab.async false
set_option linter.all false
set_option maxRecDepth 100000
set_option maxHeartbeats 1000000
namespace K00
open PySem En
def oA : List CE := [(.lit .non), (.lit (.bl true)), (.lit (.bl false)), (.lit (.int 0)), (.lit (.int 1)), (.neg (.lit (.int 1))), (.lit (.int 7)), (.lit (.str "")), (.lit (.str "a")), (.lit (.str "then")), (.lit (.str "nosuch")), (.tup []), (.lst []), (.dlit []), (.tup [(.lit (.int 0))]), (.tup [(.tup [])]), (.lst [(.lit (.int 0))]), (.tup [(.lit (.str "a"))]), (.lit (.str "a b"))]
def oB : List CE := [(.tup [(.lit (.str "a")), (.lit (.str "b"))]), (.tup [(.tup [(.lit (.str "a")), (.lit (.str "b"))])]), (.tup [(.lit .non)]), (.dlit [(.inr "a", .int 1)]), (.lit (.str "A")), (.tup [(.lit (.str "run")), (.tup [])]), (.lit (.str "then(a,b)")), (.tup [(.lit (.int 0)), (.lit (.int 0))]), (.bin .pow (.lit (.int 10)) (.lit (.int 8)))]
theorem f4_body : f4.body = [.asg (.name 1) (.lst oA), .asg (.name 1) (.bin .add (.var 1) (.lst oB)), .ret (.call 2 [(.var 0), (.var 1)])] := rfl
theorem x_dlit {Γ : Fns} {C : Nat → Option D} (kvs : List (L2.Key × D)) (env : En.Env) (st : Sto) : evE Γ C (.dlit kvs) env st = match intKvs kvs with
      | some _ => .ok (.dic kvs, st)
      | none => .bad := by rw [evE]; try rfl
theorem dl0 {Γ : Fns} {C : Nat → Option D} (env : En.Env) (st : Sto) : evE Γ C (.dlit []) env st = .ok (.dic [], st) := by rw [x_dlit]; rfl
theorem dl1 {Γ : Fns} {C : Nat → Option D} (env : En.Env) (st : Sto) : evE Γ C (.dlit [(.inr "a", .int 1)]) env st = .ok (.dic [(.inr "a", .int 1)], st) := by rw [x_dlit]; rfl
theorem bal {i j : List D} (h : i.length + j.length ≤ LIM) : bop .add (.lst i) (.lst j) = .ok (.lst (i ++ j)) := if_pos h
theorem odds_cl : odds.all D.clean = true := by decide +kernel
theorem odd_run {F n : Nat} {st : Sto} {i k : Nat} (p : PotX st i k) (hk : k < 2 ^ 30) : ∃ d st', callN T C F (n + 3) 4 [.mref i] st = .ok (d, st') ∧ RR d ∧ PotX st' i (k + 1) ∧ Adv i st st' := by
  rw [call_eq (fn := f4) rfl, run0 rfl rfl]
  generalize hΓ : callN T C F (n + 2) = Γ
  have hp : bop .pow (.int 10) (.int 8) = .ok (.int (10 ^ 8)) := b_pow (i := 10) (j := 8) ⟨by decide, by decide +kernel⟩
  have eA : ∀ env st, evEs Γ C oA env st = .ok (odds.take 19, st) := fun env st => by
    simp (decide := true) only [oA, runBody, List.map, List.length_cons, List.length_nil, List.replicate, List.cons_append, List.nil_append, evSs, x_lit, x_var, x_glob, x_bin, x_neg, x_not, x_cmp, x_chain, x_and, x_or, x_ite, x_tup, x_lst, x_lstM, x_idx, x_slc, x_rev, x_call, x_bi, x_copyM, x_append, x_extend, x_popAt, x_pop, x_frz, x_dnew, x_rng1, x_rng2, x_dget, y_asg, y_par, y_aug, y_ex, y_setix, y_ite, y_ret, y_retN, y_brk, y_cont, y_pass, y_never, y_frzV, evEs, evAnd, evOr, evT, evO, rb, List.getElem?_cons_zero, List.getElem?_cons_succ, sn_int, sn_str, sn_bl, sn_tup, sn_lst, sn_non, sn_dic, sn_ro, ix_l, ix_t, ix_r, ro_some, c_gt, c_ge, c_lt, c_le, decide_true, decide_false, ab, if_true, if_false, Bool.false_eq_true, Bool.not_true, Bool.not_false, bi_int, bi_intb, bi_abs, bi_lenl, bi_lent, bi_lenr, bi_tupl, b_add, b_sub, a_name, a_tup, as_nil, as_cons, setAll, List.set_cons_zero, List.set_cons_succ, ir_int, ir_str, ir_tup, ir_lst, ir_bl, ir_non, ir_dic, ir_ro, List.length_set, tn0, tn1, tn2, tn3, lim_ok, cl_int, cl_str, cl_bl, cl_non, cl_tup, cl_lst, cls_nil, cls_cons, cls_ints, cls_strs, cls_pairs, Bool.and_self, Bool.true_and, Bool.and_true, Bool.or_self, Bool.or_false, dl0, dl1, noRefs]
    rfl
  have eB : ∀ env st, evEs Γ C oB env st = .ok (odds.drop 19, st) := fun env st => by
    simp (decide := true) only [oB, runBody, List.map, List.length_cons, List.length_nil, List.replicate, List.cons_append, List.nil_append, evSs, x_lit, x_var, x_glob, x_bin, x_neg, x_not, x_cmp, x_chain, x_and, x_or, x_ite, x_tup, x_lst, x_lstM, x_idx, x_slc, x_rev, x_call, x_bi, x_copyM, x_append, x_extend, x_popAt, x_pop, x_frz, x_dnew, x_rng1, x_rng2, x_dget, y_asg, y_par, y_aug, y_ex, y_setix, y_ite, y_ret, y_retN, y_brk, y_cont, y_pass, y_never, y_frzV, evEs, evAnd, evOr, evT, evO, rb, List.getElem?_cons_zero, List.getElem?_cons_succ, sn_int, sn_str, sn_bl, sn_tup, sn_lst, sn_non, sn_dic, sn_ro, ix_l, ix_t, ix_r, ro_some, c_gt, c_ge, c_lt, c_le, decide_true, decide_false, ab, if_true, if_false, Bool.false_eq_true, Bool.not_true, Bool.not_false, bi_int, bi_intb, bi_abs, bi_lenl, bi_lent, bi_lenr, bi_tupl, b_add, b_sub, a_name, a_tup, as_nil, as_cons, setAll, List.set_cons_zero, List.set_cons_succ, ir_int, ir_str, ir_tup, ir_lst, ir_bl, ir_non, ir_dic, ir_ro, List.length_set, tn0, tn1, tn2, tn3, lim_ok, cl_int, cl_str, cl_bl, cl_non, cl_tup, cl_lst, cls_nil, cls_cons, cls_ints, cls_strs, cls_pairs, Bool.and_self, Bool.true_and, Bool.and_true, Bool.or_self, Bool.or_false, dl0, dl1, noRefs, hp]
    rfl
  have nA : noRefs (odds.take 19) && decide ((odds.take 19).length ≤ LIM) = true := by decide +kernel
  have nB : noRefs (odds.drop 19) && decide ((odds.drop 19).length ≤ LIM) = true := by decide +kernel
  have lA : ∀ env st, evE Γ C (.lst oA) env st = .ok (.lst (odds.take 19), st) := fun env st => by
    rw [x_lst, eA, rb]
    exact if_pos nA
  have lB : ∀ env st, evE Γ C (.lst oB) env st = .ok (.lst (odds.drop 19), st) := fun env st => by
    rw [x_lst, eB, rb]
    exact if_pos nB
  have hb : bop .add (.lst (odds.take 19)) (.lst (odds.drop 19)) = .ok (.lst odds) := (bal (by decide +kernel)).trans (by rw [List.take_append_drop])
  obtain ⟨d, st', e, hd, hc, p', v⟩ := pick_of (F := F) (n := n) (ds := odds) (e2 := .var 1) (env := [some (.mref i), some (.lst odds)]) p hk (by simp [odds]) (by simp [odds]) odds_cl rfl (by simp only [x_var, List.getElem?_cons_zero, List.getElem?_cons_succ])
  rw [hΓ] at e
  refine ⟨d, st', ?_, RR_of (List.all_eq_true.mp odds_rr d hd), p', v⟩
  generalize odds.take 19 = A at *
  generalize odds.drop 19 = B at *
  have e1 : evS Γ C F (.asg (.name 1) (.lst oA)) [some (.mref i), none] st = .ok (.next, [some (.mref i), some (.lst A)], st) := by
    generalize CE.lst oA = cA at *
    simp (decide := true) only [runBody, List.map, List.length_cons, List.length_nil, List.replicate, List.cons_append, List.nil_append, evSs, x_lit, x_var, x_glob, x_bin, x_neg, x_not, x_cmp, x_chain, x_and, x_or, x_ite, x_tup, x_lst, x_lstM, x_idx, x_slc, x_rev, x_call, x_bi, x_copyM, x_append, x_extend, x_popAt, x_pop, x_frz, x_dnew, x_rng1, x_rng2, x_dget, y_asg, y_par, y_aug, y_ex, y_setix, y_ite, y_ret, y_retN, y_brk, y_cont, y_pass, y_never, y_frzV, evEs, evAnd, evOr, evT, evO, rb, List.getElem?_cons_zero, List.getElem?_cons_succ, sn_int, sn_str, sn_bl, sn_tup, sn_lst, sn_non, sn_dic, sn_ro, ix_l, ix_t, ix_r, ro_some, c_gt, c_ge, c_lt, c_le, decide_true, decide_false, ab, if_true, if_false, Bool.false_eq_true, Bool.not_true, Bool.not_false, bi_int, bi_intb, bi_abs, bi_lenl, bi_lent, bi_lenr, bi_tupl, b_add, b_sub, a_name, a_tup, as_nil, as_cons, setAll, List.set_cons_zero, List.set_cons_succ, ir_int, ir_str, ir_tup, ir_lst, ir_bl, ir_non, ir_dic, ir_ro, List.length_set, tn0, tn1, tn2, tn3, lim_ok, cl_int, cl_str, cl_bl, cl_non, cl_tup, cl_lst, cls_nil, cls_cons, cls_ints, cls_strs, cls_pairs, Bool.and_self, Bool.true_and, Bool.and_true, Bool.or_self, Bool.or_false, lA]
  have e2 : evS Γ C F (.asg (.name 1) (.bin .add (.var 1) (.lst oB))) [some (.mref i), some (.lst A)] st = .ok (.next, [some (.mref i), some (.lst odds)], st) := by
    generalize CE.lst oB = cB at *
    simp (decide := true) only [runBody, List.map, List.length_cons, List.length_nil, List.replicate, List.cons_append, List.nil_append, evSs, x_lit, x_var, x_glob, x_bin, x_neg, x_not, x_cmp, x_chain, x_and, x_or, x_ite, x_tup, x_lst, x_lstM, x_idx, x_slc, x_rev, x_call, x_bi, x_copyM, x_append, x_extend, x_popAt, x_pop, x_frz, x_dnew, x_rng1, x_rng2, x_dget, y_asg, y_par, y_aug, y_ex, y_setix, y_ite, y_ret, y_retN, y_brk, y_cont, y_pass, y_never, y_frzV, evEs, evAnd, evOr, evT, evO, rb, List.getElem?_cons_zero, List.getElem?_cons_succ, sn_int, sn_str, sn_bl, sn_tup, sn_lst, sn_non, sn_dic, sn_ro, ix_l, ix_t, ix_r, ro_some, c_gt, c_ge, c_lt, c_le, decide_true, decide_false, ab, if_true, if_false, Bool.false_eq_true, Bool.not_true, Bool.not_false, bi_int, bi_intb, bi_abs, bi_lenl, bi_lent, bi_lenr, bi_tupl, b_add, b_sub, a_name, a_tup, as_nil, as_cons, setAll, List.set_cons_zero, List.set_cons_succ, ir_int, ir_str, ir_tup, ir_lst, ir_bl, ir_non, ir_dic, ir_ro, List.length_set, tn0, tn1, tn2, tn3, lim_ok, cl_int, cl_str, cl_bl, cl_non, cl_tup, cl_lst, cls_nil, cls_cons, cls_ints, cls_strs, cls_pairs, Bool.and_self, Bool.true_and, Bool.and_true, Bool.or_self, Bool.or_false, lB, hb]
  rw [body_ret (fn := f4) (ds := [.mref i]) (d := d) (st1 := st') (env1 := [some (.mref i), some (.lst odds)])]
  · exact fin_d hc v.len
  · show evSs _ _ _ f4.body [some (.mref i), none] st = _
    rw [f4_body, ss_next e1, ss_next e2, ss_ret e]
end K00

set_option Elab.async false
set_option linter.all false
set_option maxRecDepth 100000
set_option maxHeartbeats 1000000
namespace K00
open PySem En
theorem fg_next {bind : D → En.Env → Option En.Env} {body : En.Env → Sto → Res (Fl × En.Env × Sto)} {x : D} {r : List D} {env env1 env2 : En.Env} {st st2 : Sto} (h1 : bind x env = some env1) (h2 : body env1 st = .ok (.next, env2, st2)) : forGo bind body (x :: r) env st = forGo bind body r env2 st2 := by
  simp only [forGo, h1, ro_some, rb, h2]
def cmpE : CE := .comp (.name 6) (.range1 (.bi .len [(.var 2)])) none (.cmp .eq (.var 4) (.var 6)) [6]
def i1 : CS := .ite (.or [(.not (.isErr "HandError" (.var 5))), (.not (.isErr "ValueError" (.var 5)))]) [.ret (.lit (.bl false))] []
def i2 : CS := .ite (.or [(.cmp .ne (.bi .repr [(.errVal (.var 5))]) (.bi .repr [(.var 1)])), (.cmp .ne (.call 7 [(.var 5)]) cmpE)]) [.ret (.lit (.bl false))] []
def o4 : CS := .ite (.or [(.cmp .ne (.bi .repr [(.errVal (.var 3))]) (.bi .repr [(.var 1)])), (.cmp .isin (.lit (.bl true)) (.call 7 [(.var 3)])), (.not (.isErr "ValueError" (.var 3)))]) [.ret (.lit (.bl false))] []
def oBody : List CS := [.asg (.name 2) (.call 6 [(.var 1)]), .for_ (.tup [(.name 4), (.name 5)]) (.enum (.var 2)) [i1, i2], .asg (.name 3) (.mkErr "HandError" (.var 1)), o4]
def three : CI := .seq (.tup [(.call 4 [(.var 0)]), (.call 5 [(.var 0), (.tup [(.lit (.int 2)), (.tup [(.lit (.str "a")), (.lit (.str "b"))])])]), (.call 5 [(.var 0), (.tup [(.tup [(.lit (.str "a"))]), (.tup []), (.lit (.int 3))])])])
theorem f8_body : f8.body = [.for_ (.name 1) three oBody, .ret (.lit (.bl true))] := rfl
theorem sub_H (y : Str) : errSub y "HandError" = true := by
  have h : (("HandError" : Str) == ("HandError" : Str)) = true := by decide +kernel
  unfold errSub
  rw [h]
  simp
theorem sub_V (y : Str) : errSub y "ValueError" = true := by
  have h : (("ValueError" : Str) == ("ValueError" : Str)) = true := by decide +kernel
  unfold errSub
  rw [h]
  simp
def markB (y : Str) : List Bool := nms.map (errSub y)
def eqB (k p : Nat) : Bool := PyData.eqv (D.int (k : Int)).py (D.int (p : Int)).py
def rowB (k : Nat) : List Bool := (List.range 66).map (eqB k)
theorem rows_ok : (List.range 66).all (fun k => match nms[k]? with | some y => markB y == rowB k | none => false) = true := by decide +kernel
theorem row_at {k : Nat} {y : Str} (h : nms[k]? = some y) : markB y = rowB k := by
  have hk : k < 66 := by
    by_cases q : k < nms.length
    · rw [nms_len] at q; exact q
    · rw [List.getElem?_eq_none (by omega)] at h; cases h
  have := List.all_eq_true.mp rows_ok k (List.mem_range.mpr hk)
  simp only [h] at this
  exact eq_of_beq this
theorem rng66 : rngD 0 66 = (List.range 66).map fun p => D.int ((p : Nat) : Int) := rfl
theorem bare_ok : (match isin (.bl true) (.lst ((markB "HandError").map .bl)) with | .ok b => !b | _ => false) = true := by decide +kernel
theorem bare_no : isin (.bl true) (.lst ((markB "HandError").map .bl)) = .ok false := by
  have h := bare_ok
  split at h
  · rename_i b e
    rw [e]
    simpa using h
  · cases h
theorem flat_bl (b : Bool) : Flat 0 (.bl b) := ⟨by simp only [D.py, PyData.canLay0], by simp only [D.py, PyData.depth]; omega⟩
theorem ne_bls (l : List Bool) : cop .ne (.lst (l.map .bl)) (.lst (l.map .bl)) = .ok false := ne_self (n := 1) (flat_lst fun d hd => by
  obtain ⟨b, _, rfl⟩ := List.mem_map.mp hd
  exact flat_bl b) (by omega)
theorem marks_b {F n : Nat} {st : Sto} {y : Str} {d : D} : callN T C F (n + 1) 7 [.err y d] st = .ok (.lst ((markB y).map .bl), st) := by
  rw [marks_run]
  unfold markB
  rw [List.map_map]
  rfl
theorem eq_int (k p : Nat) : cop .eq (.int (k : Int)) (.int (p : Int)) = .ok (eqB k p) := by
  have h : (SeqAt.shaped (D.int (k : Int)).py && SeqAt.shaped (D.int (p : Int)).py) = true := by
    rw [(flat_int (k : Int)).shaped (by omega), (flat_int (p : Int)).shaped (by omega)]
    rfl
  show (if SeqAt.shaped (D.int (k : Int)).py && SeqAt.shaped (D.int (p : Int)).py then Res.ok (PyData.eqv (D.int (k : Int)).py (D.int (p : Int)).py) else .bad) = _
  exact if_pos h
section
variable {F n : Nat} {st : Sto} {P v : D}
theorem comp_run {Γ : Fns} {k : Nat} {E : List D} {b c : Option D} (hE : E.length = 66) : evE Γ C cmpE [some P, some v, some (.lst E), b, some (.int (k : Int)), c, none] st = .ok (.lst ((rowB k).map .bl), st) := by
  have hi : evI Γ C (.range1 (.bi .len [(.var 2)])) [some P, some v, some (.lst E), b, some (.int (k : Int)), c, none] st = .ok (rngD 0 66, st) := by
    refine ev_range1 (m := 66) ?_ (by omega)
    rw [← hE]
    simp (decide := true) only [runBody, List.map, List.length_cons, List.length_nil, List.replicate, List.cons_append, List.nil_append, evSs, x_lit, x_var, x_glob, x_bin, x_neg, x_not, x_cmp, x_chain, x_and, x_or, x_ite, x_tup, x_lst, x_lstM, x_idx, x_slc, x_rev, x_call, x_bi, x_copyM, x_append, x_extend, x_popAt, x_pop, x_frz, x_dnew, x_rng1, x_rng2, x_dget, y_asg, y_par, y_aug, y_ex, y_setix, y_ite, y_ret, y_retN, y_brk, y_cont, y_pass, y_never, y_frzV, evEs, evAnd, evOr, evT, evO, rb, List.getElem?_cons_zero, List.getElem?_cons_succ, sn_int, sn_str, sn_bl, sn_tup, sn_lst, sn_non, sn_dic, sn_ro, ix_l, ix_t, ix_r, ro_some, c_gt, c_ge, c_lt, c_le, decide_true, decide_false, ab, if_true, if_false, Bool.false_eq_true, Bool.not_true, Bool.not_false, bi_int, bi_intb, bi_abs, bi_lenl, bi_lent, bi_lenr, bi_tupl, b_add, b_sub, a_name, a_tup, as_nil, as_cons, setAll, List.set_cons_zero, List.set_cons_succ, ir_int, ir_str, ir_tup, ir_lst, ir_bl, ir_non, ir_dic, ir_ro, List.length_set, tn0, tn1, tn2, tn3, lim_ok, cl_int, cl_str, cl_bl, cl_non, cl_tup, cl_lst, cls_nil, cls_cons, cls_ints, cls_strs, cls_pairs, Bool.and_self, Bool.true_and, Bool.and_true, Bool.or_self, Bool.or_false]
  have h := ev_comp (Γ := Γ) (C := C) (t := .name 6) (e := .cmp .eq (.var 4) (.var 6)) (own := [6]) (f := fun x => match x with | .int p => .bl (eqB k p.toNat) | _ => .non) hi fun x hx => by
    rw [rng66] at hx
    obtain ⟨p, _, rfl⟩ := List.mem_map.mp hx
    refine ⟨[some P, some v, some (.lst E), b, some (.int (k : Int)), c, some (.int (p : Int))], rfl, ?_, rfl⟩
    have e := eq_int k p
    show _ = Res.ok (D.bl (eqB k ((p : Int).toNat)), st)
    rw [Int.toNat_natCast]
    simp (decide := true) only [runBody, List.map, List.length_cons, List.length_nil, List.replicate, List.cons_append, List.nil_append, evSs, x_lit, x_var, x_glob, x_bin, x_neg, x_not, x_cmp, x_chain, x_and, x_or, x_ite, x_tup, x_lst, x_lstM, x_idx, x_slc, x_rev, x_call, x_bi, x_copyM, x_append, x_extend, x_popAt, x_pop, x_frz, x_dnew, x_rng1, x_rng2, x_dget, y_asg, y_par, y_aug, y_ex, y_setix, y_ite, y_ret, y_retN, y_brk, y_cont, y_pass, y_never, y_frzV, evEs, evAnd, evOr, evT, evO, rb, List.getElem?_cons_zero, List.getElem?_cons_succ, sn_int, sn_str, sn_bl, sn_tup, sn_lst, sn_non, sn_dic, sn_ro, ix_l, ix_t, ix_r, ro_some, c_gt, c_ge, c_lt, c_le, decide_true, decide_false, ab, if_true, if_false, Bool.false_eq_true, Bool.not_true, Bool.not_false, bi_int, bi_intb, bi_abs, bi_lenl, bi_lent, bi_lenr, bi_tupl, b_add, b_sub, a_name, a_tup, as_nil, as_cons, setAll, List.set_cons_zero, List.set_cons_succ, ir_int, ir_str, ir_tup, ir_lst, ir_bl, ir_non, ir_dic, ir_ro, List.length_set, tn0, tn1, tn2, tn3, lim_ok, cl_int, cl_str, cl_bl, cl_non, cl_tup, cl_lst, cls_nil, cls_cons, cls_ints, cls_strs, cls_pairs, Bool.and_self, Bool.true_and, Bool.and_true, Bool.or_self, Bool.or_false, e]
  unfold cmpE
  rw [h, rng66, List.map_map]
  unfold rowB
  rw [List.map_map]
  rfl
theorem i1_run {Γ : Fns} {y : Str} {a2 a3 a4 : Option D} : evS Γ C F i1 [some P, some v, a2, a3, a4, some (.err y v), none] st = .ok (.next, [some P, some v, a2, a3, a4, some (.err y v), none], st) := by
  have hH := sub_H y
  have hV := sub_V y
  generalize hh : ("HandError" : Str) = xh at *
  generalize hw : ("ValueError" : Str) = xw at *
  have ei : i1 = .ite (.or [(.not (.isErr xh (.var 5))), (.not (.isErr xw (.var 5)))]) [.ret (.lit (.bl false))] [] := by rw [← hh, ← hw]; rfl
  rw [ei]
  clear ei hh hw
  simp (decide := true) only [runBody, List.map, List.length_cons, List.length_nil, List.replicate, List.cons_append, List.nil_append, evSs, x_lit, x_var, x_glob, x_bin, x_neg, x_not, x_cmp, x_chain, x_and, x_or, x_ite, x_tup, x_lst, x_lstM, x_idx, x_slc, x_rev, x_call, x_bi, x_copyM, x_append, x_extend, x_popAt, x_pop, x_frz, x_dnew, x_rng1, x_rng2, x_dget, y_asg, y_par, y_aug, y_ex, y_setix, y_ite, y_ret, y_retN, y_brk, y_cont, y_pass, y_never, y_frzV, evEs, evAnd, evOr, evT, evO, rb, List.getElem?_cons_zero, List.getElem?_cons_succ, sn_int, sn_str, sn_bl, sn_tup, sn_lst, sn_non, sn_dic, sn_ro, ix_l, ix_t, ix_r, ro_some, c_gt, c_ge, c_lt, c_le, decide_true, decide_false, ab, if_true, if_false, Bool.false_eq_true, Bool.not_true, Bool.not_false, bi_int, bi_intb, bi_abs, bi_lenl, bi_lent, bi_lenr, bi_tupl, b_add, b_sub, a_name, a_tup, as_nil, as_cons, setAll, List.set_cons_zero, List.set_cons_succ, ir_int, ir_str, ir_tup, ir_lst, ir_bl, ir_non, ir_dic, ir_ro, List.length_set, tn0, tn1, tn2, tn3, lim_ok, cl_int, cl_str, cl_bl, cl_non, cl_tup, cl_lst, cls_nil, cls_cons, cls_ints, cls_strs, cls_pairs, Bool.and_self, Bool.true_and, Bool.and_true, Bool.or_self, Bool.or_false, x_isErr, hH, hV]
theorem i2_run {Γ : Fns} {y t : Str} {L : List D} {a2 a3 a4 : Option D} (hs : snap st v = v) (t1 : bi .repr [v] = .ok (.str t)) (t2 : cop .ne (.str t) (.str t) = .ok false) (em : Γ 7 [.err y v] st = .ok (.lst L, st)) (ec : evE Γ C cmpE [some P, some v, a2, a3, a4, some (.err y v), none] st = .ok (.lst L, st)) (en : cop .ne (.lst L) (.lst L) = .ok false) :
    evS Γ C F i2 [some P, some v, a2, a3, a4, some (.err y v), none] st = .ok (.next, [some P, some v, a2, a3, a4, some (.err y v), none], st) := by
  unfold i2
  generalize cmpE = cc at *
  simp (decide := true) only [runBody, List.map, List.length_cons, List.length_nil, List.replicate, List.cons_append, List.nil_append, evSs, x_lit, x_var, x_glob, x_bin, x_neg, x_not, x_cmp, x_chain, x_and, x_or, x_ite, x_tup, x_lst, x_lstM, x_idx, x_slc, x_rev, x_call, x_bi, x_copyM, x_append, x_extend, x_popAt, x_pop, x_frz, x_dnew, x_rng1, x_rng2, x_dget, y_asg, y_par, y_aug, y_ex, y_setix, y_ite, y_ret, y_retN, y_brk, y_cont, y_pass, y_never, y_frzV, evEs, evAnd, evOr, evT, evO, rb, List.getElem?_cons_zero, List.getElem?_cons_succ, sn_int, sn_str, sn_bl, sn_tup, sn_lst, sn_non, sn_dic, sn_ro, ix_l, ix_t, ix_r, ro_some, c_gt, c_ge, c_lt, c_le, decide_true, decide_false, ab, if_true, if_false, Bool.false_eq_true, Bool.not_true, Bool.not_false, bi_int, bi_intb, bi_abs, bi_lenl, bi_lent, bi_lenr, bi_tupl, b_add, b_sub, a_name, a_tup, as_nil, as_cons, setAll, List.set_cons_zero, List.set_cons_succ, ir_int, ir_str, ir_tup, ir_lst, ir_bl, ir_non, ir_dic, ir_ro, List.length_set, tn0, tn1, tn2, tn3, lim_ok, cl_int, cl_str, cl_bl, cl_non, cl_tup, cl_lst, cls_nil, cls_cons, cls_ints, cls_strs, cls_pairs, Bool.and_self, Bool.true_and, Bool.and_true, Bool.or_self, Bool.or_false, x_errVal, hs, t1, t2, em, ec, en]
theorem inner_one {k : Nat} {y : Str} {E : List D} {b : Option D} (hE : E.length = 66) (hv : RR v) (hy : nms[k]? = some y) :
    evSs (callN T C F (n + 1)) C F [i1, i2] [some P, some v, some (.lst E), b, some (.int (k : Int)), some (.err y v), none] st = .ok (.next, [some P, some v, some (.lst E), b, some (.int (k : Int)), some (.err y v), none], st) := by
  obtain ⟨t, t1, t2⟩ := hv.rp
  have ec := comp_run (Γ := callN T C F (n + 1)) (st := st) (P := P) (v := v) (k := k) (b := b) (c := some (.err y v)) hE
  have em := marks_b (F := F) (n := n) (st := st) (y := y) (d := v)
  rw [row_at hy] at em
  rw [ss_next i1_run, ss_next (i2_run (hv.sn st) t1 t2 em ec (ne_bls (rowB k))), evSs]
theorem inner_loop {E : List D} {b : Option D} (hE : E.length = 66) (hv : RR v) : ∀ (l : List Str) (a : Nat) (c4 c5 : Option D), (∀ i y, l[i]? = some y → nms[a + i]? = some y) →
    ∃ c4' c5', forGo (asgT (.tup [(.name 4), (.name 5)])) (fun e s => evSs (callN T C F (n + 1)) C F [i1, i2] e s) (enumD a (l.map fun x => .err x v)) [some P, some v, some (.lst E), b, c4, c5, none] st = .ok (.next, [some P, some v, some (.lst E), b, c4', c5', none], st)
  | [], a, c4, c5, _ => ⟨c4, c5, rfl⟩
  | y :: r, a, c4, c5, h => by
    obtain ⟨c4', c5', ih⟩ := inner_loop hE hv r (a + 1) (some (.int (a : Int))) (some (.err y v)) fun i z hz => by
      have := h (i + 1) z (by simpa using hz)
      rw [← this]
      congr 1
      omega
    refine ⟨c4', c5', ?_⟩
    have hy : nms[a]? = some y := h 0 y rfl
    exact (fg_next (env1 := [some P, some v, some (.lst E), b, some (.int (a : Int)), some (.err y v), none]) rfl (inner_one hE hv hy)).trans ih
theorem o_run {c2 c3 c4 c5 : Option D} (hv : RR v) : ∃ c2' c3' c4' c5', evSs (callN T C F (n + 1)) C F oBody [some P, some v, c2, c3, c4, c5, none] st = .ok (.next, [some P, some v, c2', c3', c4', c5', none], st) := by
  obtain ⟨t, t1, t2⟩ := hv.rp
  have hs := hv.sn st
  have hc := hv.cl
  have hl : (nms.map fun x => D.err x v).length = 66 := by rw [List.length_map, nms_len]
  have em := made_run (F := F) (n := n) (st := st) hc
  obtain ⟨c4', c5', lp⟩ := inner_loop (F := F) (n := n) (st := st) (P := P) (v := v) (E := nms.map fun x => .err x v) (b := c3) hl hv nms 0 c4 c5 fun i y h => by rw [Nat.zero_add]; exact h
  generalize nms.map (fun x => D.err x v) = E at *
  have eb := marks_b (F := F) (n := n) (st := st) (y := "HandError") (d := v)
  have en := bare_no
  generalize (markB "HandError").map D.bl = L at *
  refine ⟨some (.lst E), some (.err "HandError" v), c4', c5', ?_⟩
  have s1 : evS (callN T C F (n + 1)) C F (.asg (.name 2) (.call 6 [(.var 1)])) [some P, some v, c2, c3, c4, c5, none] st = .ok (.next, [some P, some v, some (.lst E), c3, c4, c5, none], st) := by
    simp (decide := true) only [runBody, List.map, List.length_cons, List.length_nil, List.replicate, List.cons_append, List.nil_append, evSs, x_lit, x_var, x_glob, x_bin, x_neg, x_not, x_cmp, x_chain, x_and, x_or, x_ite, x_tup, x_lst, x_lstM, x_idx, x_slc, x_rev, x_call, x_bi, x_copyM, x_append, x_extend, x_popAt, x_pop, x_frz, x_dnew, x_rng1, x_rng2, x_dget, y_asg, y_par, y_aug, y_ex, y_setix, y_ite, y_ret, y_retN, y_brk, y_cont, y_pass, y_never, y_frzV, evEs, evAnd, evOr, evT, evO, rb, List.getElem?_cons_zero, List.getElem?_cons_succ, sn_int, sn_str, sn_bl, sn_tup, sn_lst, sn_non, sn_dic, sn_ro, ix_l, ix_t, ix_r, ro_some, c_gt, c_ge, c_lt, c_le, decide_true, decide_false, ab, if_true, if_false, Bool.false_eq_true, Bool.not_true, Bool.not_false, bi_int, bi_intb, bi_abs, bi_lenl, bi_lent, bi_lenr, bi_tupl, b_add, b_sub, a_name, a_tup, as_nil, as_cons, setAll, List.set_cons_zero, List.set_cons_succ, ir_int, ir_str, ir_tup, ir_lst, ir_bl, ir_non, ir_dic, ir_ro, List.length_set, tn0, tn1, tn2, tn3, lim_ok, cl_int, cl_str, cl_bl, cl_non, cl_tup, cl_lst, cls_nil, cls_cons, cls_ints, cls_strs, cls_pairs, Bool.and_self, Bool.true_and, Bool.and_true, Bool.or_self, Bool.or_false, em]
  have hi : evI (callN T C F (n + 1)) C (.enum (.var 2)) [some P, some v, some (.lst E), c3, c4, c5, none] st = .ok (enumD 0 E, st) := by
    simp (decide := true) only [evI, runBody, List.map, List.length_cons, List.length_nil, List.replicate, List.cons_append, List.nil_append, evSs, x_lit, x_var, x_glob, x_bin, x_neg, x_not, x_cmp, x_chain, x_and, x_or, x_ite, x_tup, x_lst, x_lstM, x_idx, x_slc, x_rev, x_call, x_bi, x_copyM, x_append, x_extend, x_popAt, x_pop, x_frz, x_dnew, x_rng1, x_rng2, x_dget, y_asg, y_par, y_aug, y_ex, y_setix, y_ite, y_ret, y_retN, y_brk, y_cont, y_pass, y_never, y_frzV, evEs, evAnd, evOr, evT, evO, rb, List.getElem?_cons_zero, List.getElem?_cons_succ, sn_int, sn_str, sn_bl, sn_tup, sn_lst, sn_non, sn_dic, sn_ro, ix_l, ix_t, ix_r, ro_some, c_gt, c_ge, c_lt, c_le, decide_true, decide_false, ab, if_true, if_false, Bool.false_eq_true, Bool.not_true, Bool.not_false, bi_int, bi_intb, bi_abs, bi_lenl, bi_lent, bi_lenr, bi_tupl, b_add, b_sub, a_name, a_tup, as_nil, as_cons, setAll, List.set_cons_zero, List.set_cons_succ, ir_int, ir_str, ir_tup, ir_lst, ir_bl, ir_non, ir_dic, ir_ro, List.length_set, tn0, tn1, tn2, tn3, lim_ok, cl_int, cl_str, cl_bl, cl_non, cl_tup, cl_lst, cls_nil, cls_cons, cls_ints, cls_strs, cls_pairs, Bool.and_self, Bool.true_and, Bool.and_true, Bool.or_self, Bool.or_false]
  have s3 : evS (callN T C F (n + 1)) C F (.asg (.name 3) (.mkErr "HandError" (.var 1))) [some P, some v, some (.lst E), c3, c4', c5', none] st = .ok (.next, [some P, some v, some (.lst E), some (.err "HandError" v), c4', c5', none], st) := by
    simp (decide := true) only [runBody, List.map, List.length_cons, List.length_nil, List.replicate, List.cons_append, List.nil_append, evSs, x_lit, x_var, x_glob, x_bin, x_neg, x_not, x_cmp, x_chain, x_and, x_or, x_ite, x_tup, x_lst, x_lstM, x_idx, x_slc, x_rev, x_call, x_bi, x_copyM, x_append, x_extend, x_popAt, x_pop, x_frz, x_dnew, x_rng1, x_rng2, x_dget, y_asg, y_par, y_aug, y_ex, y_setix, y_ite, y_ret, y_retN, y_brk, y_cont, y_pass, y_never, y_frzV, evEs, evAnd, evOr, evT, evO, rb, List.getElem?_cons_zero, List.getElem?_cons_succ, sn_int, sn_str, sn_bl, sn_tup, sn_lst, sn_non, sn_dic, sn_ro, ix_l, ix_t, ix_r, ro_some, c_gt, c_ge, c_lt, c_le, decide_true, decide_false, ab, if_true, if_false, Bool.false_eq_true, Bool.not_true, Bool.not_false, bi_int, bi_intb, bi_abs, bi_lenl, bi_lent, bi_lenr, bi_tupl, b_add, b_sub, a_name, a_tup, as_nil, as_cons, setAll, List.set_cons_zero, List.set_cons_succ, ir_int, ir_str, ir_tup, ir_lst, ir_bl, ir_non, ir_dic, ir_ro, List.length_set, tn0, tn1, tn2, tn3, lim_ok, cl_int, cl_str, cl_bl, cl_non, cl_tup, cl_lst, cls_nil, cls_cons, cls_ints, cls_strs, cls_pairs, Bool.and_self, Bool.true_and, Bool.and_true, Bool.or_self, Bool.or_false, x_mkErr, hc]
  have hci : cop .isin (.bl true) (.lst L) = .ok false := en
  have s4 : evS (callN T C F (n + 1)) C F o4 [some P, some v, some (.lst E), some (.err "HandError" v), c4', c5', none] st = .ok (.next, [some P, some v, some (.lst E), some (.err "HandError" v), c4', c5', none], st) := by
    simp (decide := true) only [runBody, List.map, List.length_cons, List.length_nil, List.replicate, List.cons_append, List.nil_append, evSs, x_lit, x_var, x_glob, x_bin, x_neg, x_not, x_cmp, x_chain, x_and, x_or, x_ite, x_tup, x_lst, x_lstM, x_idx, x_slc, x_rev, x_call, x_bi, x_copyM, x_append, x_extend, x_popAt, x_pop, x_frz, x_dnew, x_rng1, x_rng2, x_dget, y_asg, y_par, y_aug, y_ex, y_setix, y_ite, y_ret, y_retN, y_brk, y_cont, y_pass, y_never, y_frzV, evEs, evAnd, evOr, evT, evO, rb, List.getElem?_cons_zero, List.getElem?_cons_succ, sn_int, sn_str, sn_bl, sn_tup, sn_lst, sn_non, sn_dic, sn_ro, ix_l, ix_t, ix_r, ro_some, c_gt, c_ge, c_lt, c_le, decide_true, decide_false, ab, if_true, if_false, Bool.false_eq_true, Bool.not_true, Bool.not_false, bi_int, bi_intb, bi_abs, bi_lenl, bi_lent, bi_lenr, bi_tupl, b_add, b_sub, a_name, a_tup, as_nil, as_cons, setAll, List.set_cons_zero, List.set_cons_succ, ir_int, ir_str, ir_tup, ir_lst, ir_bl, ir_non, ir_dic, ir_ro, List.length_set, tn0, tn1, tn2, tn3, lim_ok, cl_int, cl_str, cl_bl, cl_non, cl_tup, cl_lst, cls_nil, cls_cons, cls_ints, cls_strs, cls_pairs, Bool.and_self, Bool.true_and, Bool.and_true, Bool.or_self, Bool.or_false, o4, x_errVal, x_isErr, hs, t1, t2, eb, hci, sub_V]
  unfold oBody
  rw [ss_next s1, ss_next ((s_for hi).trans lp), ss_next s3, ss_next s4, evSs]
theorem o_loop : ∀ (ds : List D) (c1 c2 c3 c4 c5 : Option D), (∀ d ∈ ds, RR d) → ∃ c1' c2' c3' c4' c5', forGo (asgT (.name 1)) (fun e s => evSs (callN T C F (n + 1)) C F oBody e s) ds [some P, c1, c2, c3, c4, c5, none] st = .ok (.next, [some P, c1', c2', c3', c4', c5', none], st)
  | [], c1, c2, c3, c4, c5, _ => ⟨c1, c2, c3, c4, c5, rfl⟩
  | d :: r, c1, c2, c3, c4, c5, h => by
    obtain ⟨a2, a3, a4, a5, e⟩ := o_run (F := F) (n := n) (st := st) (P := P) (c2 := c2) (c3 := c3) (c4 := c4) (c5 := c5) (h d (List.mem_cons_self ..))
    obtain ⟨b1, b2, b3, b4, b5, ih⟩ := o_loop r (some d) a2 a3 a4 a5 fun x hx => h x (List.mem_cons_of_mem _ hx)
    exact ⟨b1, b2, b3, b4, b5, (fg_next (env1 := [some P, some d, c2, c3, c4, c5, none]) rfl e).trans ih⟩
end
theorem right_x {F m : Nat} {st : Sto} {i k : Nat} (p : PotX st i k) (hk : k + 30 < 2 ^ 30) : ∃ st', callN T C F (3 + m + 2 + 1) 8 [.mref i] st = .ok (.bl true, st') ∧ PotX st' i (k + 30) ∧ Adv i st st' := by
  rw [call_eq (fn := f8) rfl, run0 rfl rfl]
  obtain ⟨d1, st1, e1, r1, p1, w1⟩ := odd_run (F := F) (n := m + 2) p (by omega)
  obtain ⟨d2, st2, e2, r2, p2, w2⟩ := bent_run (F := F) 3 v1 bd1 m st1 i _ p1 (by omega)
  obtain ⟨d3, st3, e3, r3, p3, w3⟩ := bent_run (F := F) 3 v2 bd2 m st2 i _ p2 (by omega)
  have el : m + 2 + 3 = 3 + m + 2 := by omega
  rw [el] at e1
  have g2 := RR_of (List.all_eq_true.mp be1 _ r2)
  have g3 := RR_of (List.all_eq_true.mp be2 _ r3)
  have hi : evI (callN T C F (3 + m + 2)) C three [some (.mref i), none, none, none, none, none, none] st = .ok ([d1, d2, d3], st3) := by
    unfold v1 at e2
    unfold v2 at e3
    simp (decide := true) only [evI, three, runBody, List.map, List.length_cons, List.length_nil, List.replicate, List.cons_append, List.nil_append, evSs, x_lit, x_var, x_glob, x_bin, x_neg, x_not, x_cmp, x_chain, x_and, x_or, x_ite, x_tup, x_lst, x_lstM, x_idx, x_slc, x_rev, x_call, x_bi, x_copyM, x_append, x_extend, x_popAt, x_pop, x_frz, x_dnew, x_rng1, x_rng2, x_dget, y_asg, y_par, y_aug, y_ex, y_setix, y_ite, y_ret, y_retN, y_brk, y_cont, y_pass, y_never, y_frzV, evEs, evAnd, evOr, evT, evO, rb, List.getElem?_cons_zero, List.getElem?_cons_succ, sn_int, sn_str, sn_bl, sn_tup, sn_lst, sn_non, sn_dic, sn_ro, ix_l, ix_t, ix_r, ro_some, c_gt, c_ge, c_lt, c_le, decide_true, decide_false, ab, if_true, if_false, Bool.false_eq_true, Bool.not_true, Bool.not_false, bi_int, bi_intb, bi_abs, bi_lenl, bi_lent, bi_lenr, bi_tupl, b_add, b_sub, a_name, a_tup, as_nil, as_cons, setAll, List.set_cons_zero, List.set_cons_succ, ir_int, ir_str, ir_tup, ir_lst, ir_bl, ir_non, ir_dic, ir_ro, List.length_set, tn0, tn1, tn2, tn3, lim_ok, cl_int, cl_str, cl_bl, cl_non, cl_tup, cl_lst, cls_nil, cls_cons, cls_ints, cls_strs, cls_pairs, Bool.and_self, Bool.true_and, Bool.and_true, Bool.or_self, Bool.or_false, e1, e2, e3, seqItems]
  have el2 : 3 + m + 2 = (m + 4) + 1 := by omega
  obtain ⟨c1, c2, c3, c4, c5, lp⟩ := o_loop (F := F) (n := m + 4) (st := st3) (P := .mref i) [d1, d2, d3] none none none none none fun d hd => by
    simp only [List.mem_cons, List.not_mem_nil, or_false] at hd
    rcases hd with rfl | rfl | rfl
    · exact r1
    · exact g2
    · exact g3
  rw [← el2] at lp
  refine ⟨st3, ?_, p3.up (by omega), (w1.trans w2).trans w3⟩
  rw [body_ret (fn := f8) (ds := [.mref i]) (d := .bl true) (st1 := st3) (env1 := [some (.mref i), c1, c2, c3, c4, c5, none])]
  · exact fin_d rfl (((w1.trans w2).trans w3).len)
  · show evSs _ _ _ f8.body [some (.mref i), none, none, none, none, none, none] st = _
    rw [f8_body, ss_next ((s_for hi).trans lp)]
    simp (decide := true) only [runBody, List.map, List.length_cons, List.length_nil, List.replicate, List.cons_append, List.nil_append, evSs, x_lit, x_var, x_glob, x_bin, x_neg, x_not, x_cmp, x_chain, x_and, x_or, x_ite, x_tup, x_lst, x_lstM, x_idx, x_slc, x_rev, x_call, x_bi, x_copyM, x_append, x_extend, x_popAt, x_pop, x_frz, x_dnew, x_rng1, x_rng2, x_dget, y_asg, y_par, y_aug, y_ex, y_setix, y_ite, y_ret, y_retN, y_brk, y_cont, y_pass, y_never, y_frzV, evEs, evAnd, evOr, evT, evO, rb, List.getElem?_cons_zero, List.getElem?_cons_succ, sn_int, sn_str, sn_bl, sn_tup, sn_lst, sn_non, sn_dic, sn_ro, ix_l, ix_t, ix_r, ro_some, c_gt, c_ge, c_lt, c_le, decide_true, decide_false, ab, if_true, if_false, Bool.false_eq_true, Bool.not_true, Bool.not_false, bi_int, bi_intb, bi_abs, bi_lenl, bi_lent, bi_lenr, bi_tupl, b_add, b_sub, a_name, a_tup, as_nil, as_cons, setAll, List.set_cons_zero, List.set_cons_succ, ir_int, ir_str, ir_tup, ir_lst, ir_bl, ir_non, ir_dic, ir_ro, List.length_set, tn0, tn1, tn2, tn3, lim_ok, cl_int, cl_str, cl_bl, cl_non, cl_tup, cl_lst, cls_nil, cls_cons, cls_ints, cls_strs, cls_pairs, Bool.and_self, Bool.true_and, Bool.and_true, Bool.or_self, Bool.or_false]
theorem cg_some {g : D → Sto → Res (Option D × Sto)} {x d : D} {r ds : List D} {st st1 st2 : Sto} (h1 : g x st = .ok (some d, st1)) (h2 : compGo g r st1 = .ok (ds, st2)) : compGo g (x :: r) st = .ok (d :: ds, st2) := by
  simp only [compGo, h1, rb, h2]
theorem laps {F : Nat} {zs : List Int} : ∀ (m lo : Nat) (st : Sto), lo + m ≤ 60 →
    ∃ st', compGo (fun x s => (Res.of (asgT (.name 1) x (wipeD [some (.ro (zs.map .int)), none] [1]))).bind fun env1 => (evT (callN T C F (3 + 6 + 2 + 1)) C none env1 s).bind fun (b, s1) =>
        if b then (evE (callN T C F (3 + 6 + 2 + 1)) C (.call 8 [(.call 0 [(.var 0), (.var 1)])]) env1 s1).bind fun (d, s2) => if d.isRef then .bad else .ok (some d, s2) else .ok (none, s1)) (rngD lo m) st = .ok (List.replicate m (.bl true), st')
  | 0, lo, st, h => ⟨st, rfl⟩
  | m + 1, lo, st, h => by
    obtain ⟨o, s, e1, o0, o1, s0, s1⟩ := pot_run (F := F) (n := 3 + 6 + 2) (st := st) (zs := zs) (p := lo) (by omega)
    have p : PotX (st ++ [.lst [.int o, .int s, .int 0]]) st.length 0 := ⟨o, s, 0, by simp, o0, o1, s0, s1, by omega, by omega⟩
    obtain ⟨st2, e2, p2, w2⟩ := right_x (F := F) (m := 6) p (by omega)
    obtain ⟨st3, e3⟩ := laps (F := F) (zs := zs) m (lo + 1) st2 (by omega)
    refine ⟨st3, ?_⟩
    refine cg_some (st1 := st2) ?_ e3
    generalize callN T C F (3 + 6 + 2 + 1) = Γ at *
    simp (decide := true) only [wipeD, runBody, List.map, List.length_cons, List.length_nil, List.replicate, List.cons_append, List.nil_append, evSs, x_lit, x_var, x_glob, x_bin, x_neg, x_not, x_cmp, x_chain, x_and, x_or, x_ite, x_tup, x_lst, x_lstM, x_idx, x_slc, x_rev, x_call, x_bi, x_copyM, x_append, x_extend, x_popAt, x_pop, x_frz, x_dnew, x_rng1, x_rng2, x_dget, y_asg, y_par, y_aug, y_ex, y_setix, y_ite, y_ret, y_retN, y_brk, y_cont, y_pass, y_never, y_frzV, evEs, evAnd, evOr, evT, evO, rb, List.getElem?_cons_zero, List.getElem?_cons_succ, sn_int, sn_str, sn_bl, sn_tup, sn_lst, sn_non, sn_dic, sn_ro, ix_l, ix_t, ix_r, ro_some, c_gt, c_ge, c_lt, c_le, decide_true, decide_false, ab, if_true, if_false, Bool.false_eq_true, Bool.not_true, Bool.not_false, bi_int, bi_intb, bi_abs, bi_lenl, bi_lent, bi_lenr, bi_tupl, b_add, b_sub, a_name, a_tup, as_nil, as_cons, setAll, List.set_cons_zero, List.set_cons_succ, ir_int, ir_str, ir_tup, ir_lst, ir_bl, ir_non, ir_dic, ir_ro, List.length_set, tn0, tn1, tn2, tn3, lim_ok, cl_int, cl_str, cl_bl, cl_non, cl_tup, cl_lst, cls_nil, cls_cons, cls_ints, cls_strs, cls_pairs, Bool.and_self, Bool.true_and, Bool.and_true, Bool.or_self, Bool.or_false, e1, e2]
theorem all_true (m : Nat) : bi .all [.lst (List.replicate m (.bl true))] = .ok (.bl true) := by
  have h : List.replicate m (D.bl true) = (List.replicate m ()).map fun _ => D.bl true := by simp
  rw [h, bi_all (fun _ => true)]
  simp
theorem plain : ∀ zs : List Int, zs.length ≤ 63 → (∀ z ∈ zs, PySem.Builtin.Int.intBits z ≤ 1048576) → ∃ st', runBody (callN (rows.map Row.fn) (conOf cons) 100 12) (conOf cons) 100 f9 [.ro (zs.map D.int)] [] = .ok (.bl true, st') := by
  intro zs _ _
  obtain ⟨m, hm, e1⟩ := cells_run (F := 100) (n := 11) (st := []) (zs := zs)
  obtain ⟨st', e2⟩ := laps (F := 100) (zs := zs) m 0 [] (by omega)
  have hi : evI (callN T C 100 12) C (.seq (.call 3 [(.var 0), (.lit (.int 2))])) [some (.ro (zs.map .int)), none] [] = .ok (rngD 0 m, []) := by
    simp (decide := true) only [evI, runBody, List.map, List.length_cons, List.length_nil, List.replicate, List.cons_append, List.nil_append, evSs, x_lit, x_var, x_glob, x_bin, x_neg, x_not, x_cmp, x_chain, x_and, x_or, x_ite, x_tup, x_lst, x_lstM, x_idx, x_slc, x_rev, x_call, x_bi, x_copyM, x_append, x_extend, x_popAt, x_pop, x_frz, x_dnew, x_rng1, x_rng2, x_dget, y_asg, y_par, y_aug, y_ex, y_setix, y_ite, y_ret, y_retN, y_brk, y_cont, y_pass, y_never, y_frzV, evEs, evAnd, evOr, evT, evO, rb, List.getElem?_cons_zero, List.getElem?_cons_succ, sn_int, sn_str, sn_bl, sn_tup, sn_lst, sn_non, sn_dic, sn_ro, ix_l, ix_t, ix_r, ro_some, c_gt, c_ge, c_lt, c_le, decide_true, decide_false, ab, if_true, if_false, Bool.false_eq_true, Bool.not_true, Bool.not_false, bi_int, bi_intb, bi_abs, bi_lenl, bi_lent, bi_lenr, bi_tupl, b_add, b_sub, a_name, a_tup, as_nil, as_cons, setAll, List.set_cons_zero, List.set_cons_succ, ir_int, ir_str, ir_tup, ir_lst, ir_bl, ir_non, ir_dic, ir_ro, List.length_set, tn0, tn1, tn2, tn3, lim_ok, cl_int, cl_str, cl_bl, cl_non, cl_tup, cl_lst, cls_nil, cls_cons, cls_ints, cls_strs, cls_pairs, Bool.and_self, Bool.true_and, Bool.and_true, Bool.or_self, Bool.or_false, e1, seqItems]
  have hc : evE (callN T C 100 12) C (.comp (.name 1) (.seq (.call 3 [(.var 0), (.lit (.int 2))])) none (.call 8 [(.call 0 [(.var 0), (.var 1)])]) [1]) [some (.ro (zs.map .int)), none] [] = .ok (.lst (List.replicate m (.bl true)), st') := by
    rw [evE, hi, rb]
    dsimp only
    have e3 : callN T C 100 (3 + 6 + 2 + 1) = callN T C 100 12 := rfl
    rw [e3] at e2
    rw [show ((0 : Nat) : Int) = 0 from rfl] at e2
    rw [e2]
    rfl
  have hb := all_true m
  generalize List.replicate m (D.bl true) = bs at hc hb
  refine ⟨[], ?_⟩
  show runBody (callN T C 100 12) C 100 f9 [.ro (zs.map D.int)] [] = _
  rw [body_ret (fn := f9) (ds := [.ro (zs.map .int)]) (d := .bl true) (st1 := st') (env1 := [some (.ro (zs.map .int)), none])]
  · show En.finish false 0 (.bl true) st' = _
    simp [En.finish]
    rfl
  · show evSs _ _ _ [.ret (.bi .all [_])] [some (.ro (zs.map .int)), none] [] = _
    simp (decide := true) only [runBody, List.map, List.length_cons, List.length_nil, List.replicate, List.cons_append, List.nil_append, evSs, x_lit, x_var, x_glob, x_bin, x_neg, x_not, x_cmp, x_chain, x_and, x_or, x_ite, x_tup, x_lst, x_lstM, x_idx, x_slc, x_rev, x_call, x_bi, x_copyM, x_append, x_extend, x_popAt, x_pop, x_frz, x_dnew, x_rng1, x_rng2, x_dget, y_asg, y_par, y_aug, y_ex, y_setix, y_ite, y_ret, y_retN, y_brk, y_cont, y_pass, y_never, y_frzV, evEs, evAnd, evOr, evT, evO, rb, List.getElem?_cons_zero, List.getElem?_cons_succ, sn_int, sn_str, sn_bl, sn_tup, sn_lst, sn_non, sn_dic, sn_ro, ix_l, ix_t, ix_r, ro_some, c_gt, c_ge, c_lt, c_le, decide_true, decide_false, ab, if_true, if_false, Bool.false_eq_true, Bool.not_true, Bool.not_false, bi_int, bi_intb, bi_abs, bi_lenl, bi_lent, bi_lenr, bi_tupl, b_add, b_sub, a_name, a_tup, as_nil, as_cons, setAll, List.set_cons_zero, List.set_cons_succ, ir_int, ir_str, ir_tup, ir_lst, ir_bl, ir_non, ir_dic, ir_ro, List.length_set, tn0, tn1, tn2, tn3, lim_ok, cl_int, cl_str, cl_bl, cl_non, cl_tup, cl_lst, cls_nil, cls_cons, cls_ints, cls_strs, cls_pairs, Bool.and_self, Bool.true_and, Bool.and_true, Bool.or_self, Bool.or_false, hc, hb]
end K00

set_option Elab.async false
set_option linter.all false
set_option maxRecDepth 100000
set_option maxHeartbeats 2000000
namespace En
open PySem PySem.Spec PyProof.Rows L2
def isTab : Option Obj → Bool
  | some ⟨.none, _, .fields _, _⟩ => true
  | none => true
  | _ => false
def growR (g : Addr → Option Obj) (as : List Addr) : List Addr := (as ++ as.flatMap fun a => match g a with
  | some o => (He.refsD o).filter fun b => !isTab (g b)
  | none => []).eraseDups
def reachR (g : Addr → Option Obj) : Nat → List Addr
  | 0 => [mainGlobals]
  | n + 1 => growR g (reachR g n)
abbrev FV : Type := Option (Str × Str × Arguments × FuncBody × Scope)
def fvAt (K : PySem.W.Frag) (a : Addr) : FV := match K.lookup a with
  | some ⟨_, _, .func fd, _⟩ => some (fd.name, fd.qualname, fd.params, fd.body, fd.scope)
  | _ => none
def flatB : List D → List Value → Bool
  | [], [] => true
  | .int i :: r, .int j _ :: q => i == j && flatB r q
  | .str i :: r, .str j _ :: q => i == j && flatB r q
  | .bl i :: r, .bool j :: q => i == j && flatB r q
  | .non :: r, .none :: q => flatB r q
  | _, _ => false
def flV : D → V
  | .int i => .int i
  | .str x => .str x
  | .bl b => .bl b
  | _ => .non
theorem flatB_ok {K : PySem.W.Frag} {as : Ads} {H : Hp} : ∀ {ds : List D} {us : List Value}, flatB ds us = true → Vals (ds.map flV) us ∧ DReps K as H (ds.map flV) ds := by
  intro ds
  induction ds with
  | nil =>
    intro us h
    cases us with
    | nil => exact ⟨.nil, .nil⟩
    | cons u r => cases h
  | cons d r ih =>
    intro us h
    cases us with
    | nil => cases d <;> cases h
    | cons u q =>
      cases d <;> cases u <;> first | cases h | skip
      all_goals simp only [flatB, Bool.and_eq_true, beq_iff_eq] at h
      · obtain ⟨a, b⟩ := ih h
        exact ⟨.cons rfl a, .cons .non b⟩
      · obtain ⟨rfl, h⟩ := h
        obtain ⟨a, b⟩ := ih h
        exact ⟨.cons rfl a, .cons (.bl _) b⟩
      · obtain ⟨rfl, h⟩ := h
        obtain ⟨a, b⟩ := ih h
        exact ⟨.cons ⟨_, rfl⟩ a, .cons (.int _) b⟩
      · obtain ⟨rfl, h⟩ := h
        obtain ⟨a, b⟩ := ih h
        exact ⟨.cons ⟨_, rfl⟩ a, .cons (.str _) b⟩
/-- a name of the module that is a plain datum -/
def conB (K : PySem.W.Frag) (x : Str) (d : D) : Bool := match d with
  | .tup ds => (match PySem.W.nsIn K mainGlobals x with
    | some (some (.ref T)) => (match K.lookup T with
      | some ⟨.type c, _, .seq its _, _⟩ => c == "tuple" && decide (its.size ≤ sizeLine) && flatB ds its.toList
      | _ => false)
    | _ => false)
  | d => (match PySem.W.nsIn K mainGlobals x with
    | some (some u) => flatB [d] [u]
    | _ => false)
section
variable {P : Program} {K : PySem.W.Frag} {h : Heap} {mg : Str → Option Value}
theorem conB_ok (X : K.In h) (Gm : h.Ns mainGlobals mg) {x : Str} {d : D} (c : conB K x d = true) : HasCon K mg x d := by
  have one : ∀ d : D, (match PySem.W.nsIn K mainGlobals x with
    | some (some u) => flatB [d] [u]
    | _ => false) = true → HasCon K mg x d := by
    intro d c
    split at c
    · rename_i u hu
      refine ⟨u, flV d, PySem.W.mg_of X Gm hu, ?_, fun as H => ?_⟩
      · have := (flatB_ok (K := K) (as := ⟨[], []⟩) (H := fun _ => none) c).1
        cases this with
        | cons a _ => exact a
      · have := (flatB_ok (K := K) (as := as) (H := H) c).2
        cases this with
        | cons a _ => exact a
    · cases c
  unfold conB at c
  split at c
  · rename_i ds
    split at c
    · rename_i T hT
      split at c
      · rename_i cc od its n sl hl
        simp only [Bool.and_eq_true, beq_iff_eq, decide_eq_true_eq] at c
        obtain ⟨⟨rfl, hz⟩, hf⟩ := c
        refine ⟨.ref T, .ref T, PySem.W.mg_of X Gm hT, rfl, fun as H => ?_⟩
        obtain ⟨a, b⟩ := flatB_ok (K := K) (as := as) (H := H) hf
        exact .tup (.inr ⟨_, its, n, hl, rfl, rfl, hz, a⟩) (by rw [a.length]; simpa using hz) b
      · cases c
    · cases c
  · exact one _ c
theorem cons_ok (X : K.In h) (Gm : h.Ns mainGlobals mg) : ∀ {l : List (Str × D)}, (l.all fun p => conB K p.1 p.2) = true → AllP (fun p => HasCon K mg p.1 p.2) l := by
  intro l
  induction l with
  | nil => intro _; exact .nil
  | cons p r ih =>
    intro c
    simp only [List.all_cons, Bool.and_eq_true] at c
    exact .cons (conB_ok X Gm c.1) (ih c.2)
theorem blt_ok (X : K.In h) (Gm : h.Ns mainGlobals mg) (c : (bltNames.all fun x => PySem.W.nsIn K mainGlobals x == some none) = true) : ∀ x ∈ bltNames, mg x = none := fun x hx => by
  have := List.all_eq_true.mp c x hx
  exact PySem.W.mg_none_of X Gm (by simpa using this)
end
/-- how a def's arguments are bound -/
inductive RowBind (r : Row) : Prop
  | none : r.fn.defs = [] → r.fn.np = r.ps.length → (∀ (kV doc pm : Value) (an : Option Addr) (cdv ct : Value) (us : List Value), us.length = r.ps.length → bindArgs (PySem.W.fnOf r.x r.x (defArgs r.st) (defBody r.st) (defScope r.st) .none kV doc pm an cdv ct) ⟨us, []⟩ = pure (r.ps.zip us)) → RowBind r
  | some : r.fn.defs ≠ [] → r.fn.np = r.ps.length → (∀ m, m ≤ r.fn.np → r.fn.np ≤ m + r.fn.defs.length → ∀ (T : Addr) (kV doc pm : Value) (an : Option Addr) (cdv ct : Value) (us its : List Value), us.length = m → its.length = r.fn.defs.length →
      ∃ k, bindArgs (PySem.W.fnOf r.x r.x (defArgs r.st) (defBody r.st) (defScope r.st) (.ref T) kV doc pm an cdv ct) ⟨us, []⟩ = seqItems? (.ref T) >>= k ∧ k (some its.toArray) = pure (r.ps.zip (us ++ its.drop (m + r.fn.defs.length - r.fn.np)))) → RowBind r
def dflOk (K : PySem.W.Frag) (dV : Value) : List D → Bool
  | [] => dV == .none
  | d :: r => match dV with
    | .ref T => (match K.lookup T with
      | some ⟨_, _, .seq its _, _⟩ => flatB (d :: r) its.toList
      | _ => false)
    | _ => false
theorem dflOk_some {K : PySem.W.Frag} {dV : Value} {d : D} {r : List D} (h : dflOk K dV (d :: r) = true) : ∃ (T : Addr) (oc : Value) (od : Option Addr) (its : Array Value) (n : Nat) (sl : Array (Option Value)), dV = .ref T ∧ K.lookup T = some ⟨oc, od, .seq its n, sl⟩ ∧ flatB (d :: r) its.toList = true := by
  unfold dflOk at h
  cases dV with
  | ref T =>
    simp only at h
    split at h
    · rename_i oc od its n sl hT
      exact ⟨T, oc, od, its, n, sl, rfl, hT, h⟩
    · cases h
  | _ => cases h
def rowB (K : PySem.W.Frag) (x : Str) (defs : List D) : Bool := match PySem.W.nsIn K mainGlobals x with
  | some (some (.ref f)) => (match K.lookup f with
    | some ⟨_, _, .func fd, _⟩ => fd.globals == mainGlobals && fd.closure.isEmpty && fd.builtins == builtinsNs && PySem.W.codeIn K fd.code x && dflOk K fd.defaults defs
    | _ => false)
  | _ => false
def gAt (K : PySem.W.Frag) (x : Str) : Addr := match PySem.W.nsIn K mainGlobals x with
  | some (some (.ref f)) => f
  | _ => 0
section
variable {P : Program} {K : PySem.W.Frag} {h : Heap} {mg : Str → Option Value}
theorem row_says (X : K.In h) (Gm : h.Ns mainGlobals mg) {r : Row} (B : RowBind r) (c : rowB K r.x r.fn.defs = true) (v : fvAt K (gAt K r.x) = some (r.x, r.x, defArgs r.st, .stmts (defBody r.st), defScope r.st)) : ∃ f fd, RowOk K mg r f fd := by
  unfold rowB at c
  split at c
  · rename_i f hf
    have eg : gAt K r.x = f := by unfold gAt; rw [hf]
    rw [eg] at v
    unfold fvAt at v
    split at c
    · rename_i oc od fd sl hl
      rw [hl] at v
      obtain ⟨n1, n2, n3, n4, n5, n6, n7, n8, n9, n10, n11, n12, n13, n14, n15⟩ := fd
      simp only [Option.some.injEq, Prod.mk.injEq] at v
      obtain ⟨h1, h2, h3, h4, h5⟩ := v
      simp only [Bool.and_eq_true, beq_iff_eq, List.isEmpty_iff] at c
      obtain ⟨⟨⟨⟨h6, h7⟩, h8⟩, h9⟩, h10⟩ := c
      subst h1 h2 h3 h4 h5 h6 h7 h8
      have kp : PySem.W.keepIn K (.ref f) = true := by
        show (match K.lookup f with
          | some ⟨_, _, .func _, _⟩ => true
          | some ⟨_, _, .cls _, _⟩ => PySem.W.specialIn K (.ref f) "__call__" == some (some (.builtin "type.__call__"))
          | _ => false) = true
        rw [hl]
      cases B with
      | none d0 np hb =>
        rw [d0] at h10
        have e8 : n8 = .none := by simpa [dflOk] using h10
        subst e8
        exact rowOk0 X Gm hf hl h9 kp d0 np hb
      | some dn np hb =>
        cases hd : r.fn.defs with
        | nil => exact absurd hd dn
        | cons d0 dr =>
          rw [hd] at h10
          obtain ⟨T, oc2, od2, its, n, sl2, rfl, hT, hq⟩ := dflOk_some h10
          have hf2 : flatB r.fn.defs its.toList = true := by rw [hd]; exact hq
          exact rowOkD (dvs := r.fn.defs.map flV) X Gm hf hl h9 kp hT (by rfl) (flatB_ok (K := K) (as := ⟨[], []⟩) (H := fun _ => none) hf2).1 (by rw [hd]; simp) (fun as H => (flatB_ok hf2).2) np hb
    · cases c
  · cases c
theorem rows_say (X : K.In h) (Gm : h.Ns mainGlobals mg) : ∀ {rows : List Row}, AllP RowBind rows → (rows.all fun r => rowB K r.x r.fn.defs) = true → rows.map (fun r => fvAt K (gAt K r.x)) = rows.map (fun r => (some (r.x, r.x, defArgs r.st, .stmts (defBody r.st), defScope r.st) : FV)) → AllP (fun r => ∃ f fd, RowOk K mg r f fd) rows := by
  intro rows
  induction rows with
  | nil => intro _ _ _; exact .nil
  | cons r q ih =>
    intro B c v
    simp only [List.all_cons, Bool.and_eq_true] at c
    simp only [List.map_cons, List.cons.injEq] at v
    cases B with
    | cons b B => exact .cons (row_says X Gm b c.1 v.1) (ih B c.2 v.2)
end
def iniAt (K : PySem.W.Frag) : Addr := match PySem.W.findIn K (.ref (gAt K "HandError")) "__init__" with
  | some (some (.ref f)) => f
  | _ => 0
def iniB (K : PySem.W.Frag) (file : Str) : Bool := (PySem.W.nsIn K mainGlobals "HandError" == some (some (.ref (gAt K "HandError")))) && (PySem.W.findIn K (.ref (gAt K "HandError")) "__init__" == some (some (.ref (iniAt K)))) &&
  (PySem.W.typeIn K (.ref (iniAt K)) == some (.type "function")) && (PySem.W.nsIn K cStatics "thirdparty.any" == some none) && (PySem.W.clsIn K (gAt K "HandError")).isSome &&
  (match K.lookup (iniAt K) with
    | some ⟨_, _, .func fd, _⟩ => fd.globals == mainGlobals && fd.builtins == builtinsNs && fd.defaults == .none && PySem.W.codeIn K fd.code "HandError.__init__" && (match fd.closure, fd.code with
      | [(nm, cc)], .ref cda => nm == "__class__" && (match K.lookup cc with
          | some ⟨_, _, .cell (some (.ref E)), _⟩ => E == gAt K "HandError"
          | _ => false) && (match K.lookup cda with
          | some ⟨_, _, .fields vs, _⟩ => (match (vs[2]? : Option Value) with
            | some (.str f _) => f == file
            | _ => false)
          | _ => false)
      | _, _ => false)
    | _ => false)
/-- what the walk of __init__ asks of the written part -/
def IniK (K : PySem.W.Frag) (params : Arguments) (body : List Stmt) (scope : Scope) (file : Str) : Prop :=
  ∃ (fI CH cc cda : Addr) (kV doc pm ct oc ccl cl : Value) (an od cdd cld : Option Addr) (osl ccs csl : Array (Option Value)) (vs : Array Value) (tf : Tok) (cdD : ClassData), fI = iniAt K ∧ CH = gAt K "HandError" ∧
    PySem.W.nsIn K mainGlobals "HandError" = some (some (.ref CH)) ∧ PySem.W.findIn K (.ref CH) "__init__" = some (some (.ref fI)) ∧
    K.lookup fI = some ⟨oc, od, .func (PySem.W.ksFn "__init__" "HandError.__init__" params body scope .none kV doc pm an (.ref cda) ct cc), osl⟩ ∧ PySem.W.codeIn K (.ref cda) "HandError.__init__" = true ∧
    K.lookup cda = some ⟨ccl, cdd, .fields vs, ccs⟩ ∧ vs[2]? = some (.str file tf) ∧ K.lookup cc = some ⟨cl, cld, .cell (some (.ref CH)), csl⟩ ∧ PySem.W.clsIn K CH = some cdD ∧ PySem.W.typeIn K (.ref fI) = some (.type "function") ∧ PySem.W.nsIn K cStatics "thirdparty.any" = some none
theorem iniB_ok {K : PySem.W.Frag} {file : Str} {params : Arguments} {body : List Stmt} {scope : Scope} (c : iniB K file = true) (v : fvAt K (iniAt K) = (some (("__init__" : Str), ("HandError.__init__" : Str), params, .stmts body, scope) : FV)) : IniK K params body scope file := by
  unfold iniB at c
  simp only [Bool.and_eq_true, beq_iff_eq] at c
  obtain ⟨⟨⟨⟨⟨c1, c2⟩, c3⟩, c4⟩, c5⟩, c6⟩ := c
  obtain ⟨cdD, c5⟩ := Option.isSome_iff_exists.mp c5
  unfold fvAt at v
  split at c6
  · rename_i oc od fd osl hl
    rw [hl] at v
    obtain ⟨n1, n2, n3, n4, n5, n6, n7, n8, n9, n10, n11, n12, n13, n14, n15⟩ := fd
    simp only [Option.some.injEq, Prod.mk.injEq] at v
    obtain ⟨h1, h2, h3, h4, h5⟩ := v
    simp only [Bool.and_eq_true, beq_iff_eq] at c6
    obtain ⟨⟨⟨⟨h6, h7⟩, h8⟩, h9⟩, h10⟩ := c6
    subst h1 h2 h3 h4 h5 h6 h7 h8
    split at h10
    · rename_i _ _ nm cc cda
      simp only [Bool.and_eq_true, beq_iff_eq] at h10
      obtain ⟨⟨hn, k1⟩, k2⟩ := h10
      subst hn
      split at k1
      · rename_i cl cld E csl hcc
        have hE : E = gAt K "HandError" := by simpa using k1
        subst hE
        split at k2
        · rename_i ccl cdd vs ccs hcda
          split at k2
          · rename_i f tf hvs
            have hf : f = file := by simpa using k2
            subst hf
            exact ⟨_, _, cc, cda, n9, n10, n11, n14, oc, ccl, cl, n12, od, cdd, cld, osl, ccs, csl, vs, tf, cdD, rfl, rfl, c1, c2, hl, h9, hcda, hvs, hcc, c5, c3, c4⟩
          · cases k2
        · cases k2
      · cases k1
    · cases h10
  · cases c6
abbrev SeenR : Type := Bool × List FV
def lookB (cons : List (Str × D)) (rows : List Row) (errs : List Str) (file : Str) (K : PySem.W.Frag) : Bool :=
  (bltNames.all fun x => PySem.W.nsIn K mainGlobals x == some none) && (cons.all fun p => conB K p.1 p.2) && (rows.all fun r => rowB K r.x r.fn.defs) && (errs.isEmpty || (iniB K file && errs.all (errB K (iniAt K) (gAt K "HandError"))))
def lookR (cons : List (Str × D)) (rows : List Row) (errs : List Str) (file : Str) (K : PySem.W.Frag) : SeenR := (lookB cons rows errs file K, (if errs.isEmpty then none else fvAt K (iniAt K)) :: rows.map fun r => fvAt K (gAt K r.x))
def goodR (rows : List Row) (ini : FV) : SeenR := (true, ini :: rows.map fun r => some (r.x, r.x, defArgs r.st, .stmts (defBody r.st), defScope r.st))
def fragR (n : Nat) (g : Addr → Option Obj) : PySem.W.Frag := He.frG g (cStatics :: reachR g n)
def hookR (n : Nat) (cons : List (Str × D)) (rows : List Row) (errs : List Str) (file : Str) (ini : FV) : PySem.W.Hook where
  α := SeenR
  obs := fun s => lookR cons rows errs file (fragR n s.heap.get?)
  val := fun _ => goodR rows ini
  says := fun _ h => ∃ K : PySem.W.Frag, K.In h ∧ lookR cons rows errs file K = goodR rows ini
  of := fun _ _ e => ⟨_, He.frG_in, e⟩
  keeps := fun _ _ _ ⟨K, hK, c⟩ k => ⟨K, PySem.W.Frag.In.keeps hK k, c⟩
def obR (n : Nat) (cons : List (Str × D)) (rows : List Row) (errs : List Str) (file : Str) (s : PySem.W.SharedT) : SeenR := lookR cons rows errs file (fragR n (HandSHeadRun.getT s))
theorem obR_eq {n : Nat} {cons : List (Str × D)} {rows : List Row} {errs : List Str} {file : Str} {ini : FV} (s : PySem.W.SharedT) : obR n cons rows errs file s = (hookR n cons rows errs file ini).obs s.abs := by
  have e : HandSHeadRun.getT s = s.abs.heap.get? := funext (HandSHeadRun.getT_eq s)
  show lookR cons rows errs file (fragR n (HandSHeadRun.getT s)) = lookR cons rows errs file (fragR n s.abs.heap.get?)
  rw [e]
section
variable {P : Program} {K : PySem.W.Frag} {h : Heap} {mg : Str → Option Value} {cons : List (Str × D)} {rows : List Row} {errs : List Str} {file : Str} {ini : FV} {G : List (Str × GK)} {fuel : Nat}
theorem look_mod (X : K.In h) (Gm : h.Ns mainGlobals mg) (chk : AllP (RowChk G fuel) rows) (bnd : AllP RowBind rows) (hg : gC rows cons errs G = true) (c : lookR cons rows errs file K = goodR rows ini)
    (hI : ∀ b : errs.isEmpty = false, iniB K file = true → fvAt K (iniAt K) = ini → IniF P K (iniAt K) (gAt K "HandError")) : ModOk P K mg rows cons errs G fuel := by
  unfold lookR goodR at c
  obtain ⟨c1, c2⟩ := Prod.mk.inj c
  unfold lookB at c1
  simp only [Bool.and_eq_true] at c1
  obtain ⟨⟨⟨k1, k2⟩, k3⟩, k4⟩ := c1
  obtain ⟨v1, v2⟩ := List.cons.inj c2
  refine ⟨chk, rows_say X Gm bnd k3 v2, cons_ok X Gm k2, hg, ?_, blt_ok X Gm k1⟩
  cases he : errs.isEmpty with
  | true =>
    have : errs = [] := by simpa using he
    rw [this]
    exact .nil
  | false =>
    rw [he] at k4 v1
    simp only [Bool.false_or, Bool.and_eq_true] at k4
    exact errs_ok X Gm (hI he k4.1 (by simpa using v1)) k4.2
end
theorem map_and {α : Type} {o : Option α} {f g : α → Bool} (hf : o.map f = some true) (hg : o.map g = some true) : o.map (fun s => f s && g s) = some true := by
  cases o with
  | none => cases hf
  | some s =>
    have h1 : f s = true := Option.some.inj hf
    have h2 : g s = true := Option.some.inj hg
    show some (f s && g s) = _
    rw [h1, h2]; rfl
theorem map_pair {α β γ : Type} {o : Option α} {f : α → β} {g : α → γ} {b : β} {c : γ} (hf : o.map f = some b) (hg : o.map g = some c) : o.map (fun s => (f s, g s)) = some (b, c) := by
  cases o with
  | none => cases hf
  | some s =>
    have h1 : f s = b := Option.some.inj hf
    have h2 : g s = c := Option.some.inj hg
    show some (f s, g s) = _
    rw [h1, h2]
noncomputable abbrev endR (R : PySem.W.OpenRow) (M : Nat) (w : World) (os : OsState) : Option PySem.W.SharedT := HandSHeadRun.endF (HandSHeadRun.stepQ (HandSHeadRun.denQ HandSHeadRun.tabQ) R.prog w) M R.prog w os
def fragT (s : PySem.W.SharedT) : PySem.W.Frag := fragR 6 (HandSHeadRun.getT s)
def partB (cons : List (Str × D)) (rows : List Row) (K : PySem.W.Frag) : Bool := (bltNames.all fun x => PySem.W.nsIn K mainGlobals x == some none) && (cons.all fun p => conB K p.1 p.2) && (rows.all fun r => rowB K r.x r.fn.defs)
def partE (errs : List Str) (file : Str) (K : PySem.W.Frag) : Bool := iniB K file && errs.all (errB K (iniAt K) (gAt K "HandError"))
def partV (rows : List Row) (errs : List Str) (K : PySem.W.Frag) : List FV := (if errs.isEmpty then none else fvAt K (iniAt K)) :: rows.map fun r => fvAt K (gAt K r.x)
theorem map_errs {o : Option PySem.W.SharedT} {a b : List Str} {file : Str} (ha : o.map (fun s => partE a file (fragT s)) = some true) (hb : o.map (fun s => partE b file (fragT s)) = some true) : o.map (fun s => partE (a ++ b) file (fragT s)) = some true := by
  cases o with
  | none => cases ha
  | some s =>
    have h1 : partE a file (fragT s) = true := Option.some.inj ha
    have h2 : partE b file (fragT s) = true := Option.some.inj hb
    show some (partE (a ++ b) file (fragT s)) = _
    unfold partE at *
    simp only [Bool.and_eq_true] at h1 h2
    rw [List.all_append, h1.1, h1.2, h2.2]
    rfl
theorem run_parts {R : PySem.W.OpenRow} {q : Program} {cons : List (Str × D)} {rows : List Row} {errs : List Str} {file : Str} {ini : FV} {M : Nat} {loose : List Str} {w : World}
    (h1 : ∀ os, (endR R M w os).map (fun s => HandSHeadRun.looksF R.prog (PySem.W.boot_heap w.params) s.abs) = some true)
    (h2 : ∀ os, (endR R M w os).map (fun s => HandSHeadRun.seenQ q loose (importedModules R.prog.main.body) (fun s => PySem.W.xlAt q [] s && PySem.W.recOk R.toRowW.records s) s.abs) = some (PySem.W.openGood q loose))
    (h3 : ∀ os, (endR R M w os).map (fun s => partB cons rows (fragT s)) = some true)
    (h4 : errs.isEmpty = true ∨ ∀ os, (endR R M w os).map (fun s => partE errs file (fragT s)) = some true)
    (h5 : ∀ os, (endR R M w os).map (fun s => partV rows errs (fragT s)) = some (goodR rows ini).2) :
    HandSHeadRun.RunEq R q (hookR 6 cons rows errs file ini) (obR 6 cons rows errs file) M loose w := by
  intro os
  refine map_pair (h1 os) (map_pair (h2 os) ?_)
  have hb : (endR R M w os).map (fun s => lookB cons rows errs file (fragT s)) = some true := by
    have e3 := h3 os
    cases o : endR R M w os with
    | none => rw [o] at e3; cases e3
    | some s =>
      rw [o] at e3
      have e3' : partB cons rows (fragT s) = true := Option.some.inj e3
      show some (lookB cons rows errs file (fragT s)) = _
      unfold lookB
      unfold partB at e3'
      rw [e3']
      rcases h4 with h4 | h4
      · rw [h4]; rfl
      · have e4 := h4 os
        rw [o] at e4
        have e4' : partE errs file (fragT s) = true := Option.some.inj e4
        unfold partE at e4'
        rw [e4']
        simp
  exact map_pair hb (h5 os)
/-- the law's end over such a head -/
theorem walkE {l : PySem.W.OpenLaw} {n k : Nat} {q : Program} {loose : List Str} {XP : (Str → Option Value) → Heap → Prop} {YP : World → Heap → Prop} {d : DefRec} {x : Str} {g : List D → Sto → Res (D × Sto)}
    (hn : l.most = some n) (hn2 : n ≤ sizeLine) (hdf : d.params.defaults = []) (room : Room k callerA)
    (F : ∀ (w : World) (mg : Str → Option Value) (fa : Addr) (h : Heap), YP w h → h.Ns mainGlobals mg → mg d.name = some (.ref fa) →
      ∃ (K : PySem.W.Frag) (fd : FuncData), K.In h ∧ (∀ (s : Shared) (u : Value), K.In s.heap → BindsTo s fd ⟨[u], []⟩ [(x, u)]) ∧ ∀ base : Heap, K.In base → base.Ns mainGlobals mg → FnG l.prog w K mg base k fa fd [x] (spF K 1 g))
    (hg : ∀ zs : List Int, zs.length ≤ n → (∀ z ∈ zs, Builtin.Int.intBits z ≤ 1048576) → ∃ st', g [.ro (zs.map D.int)] [] = .ok (.bl true, st')) :
    PySem.W.WalkO q loose XP YP l.row.toRowW d [] (fun f vs => PySem.call f vs) := by
  refine Att.attach_callB hn hdf fun w s₀ s₁ mg mb fa o pm cd doc a us zs G Y ho hd hcd hmg hobj hints hlen hbits hgn => ?_
  obtain ⟨K, fd, kin, hb, hF⟩ := F w mg fa _ Y G.T.g hmg
  obtain ⟨st', hst⟩ := hg zs hlen hbits
  exact lawG_call kin G.T.g G.T.b G.T.builtins G.T.nolimit hgn hobj hints (Nat.le_trans hlen hn2) room hF hb hst
end En

set_option Elab.async false
set_option maxRecDepth 100000
namespace K00
open PySem En L2 PyProof.Rows
theorem bnd0 : RowBind r0 := .none rfl rfl (fun _ _ _ _ _ _ us hl => match us, hl with | [_, _], _ => rfl)
theorem bnd1 : RowBind r1 := .none rfl rfl (fun _ _ _ _ _ _ us hl => match us, hl with | [_, _], _ => rfl)
theorem bnd2 : RowBind r2 := .none rfl rfl (fun _ _ _ _ _ _ us hl => match us, hl with | [_, _], _ => rfl)
theorem bnd3 : RowBind r3 := .none rfl rfl (fun _ _ _ _ _ _ us hl => match us, hl with | [_, _], _ => rfl)
theorem bnd4 : RowBind r4 := .none rfl rfl (fun _ _ _ _ _ _ us hl => match us, hl with | [_], _ => rfl)
theorem bnd5 : RowBind r5 := .none rfl rfl (fun _ _ _ _ _ _ us hl => match us, hl with | [_, _], _ => rfl)
theorem bnd6 : RowBind r6 := .none rfl rfl (fun _ _ _ _ _ _ us hl => match us, hl with | [_], _ => rfl)
theorem bnd7 : RowBind r7 := .none rfl rfl (fun _ _ _ _ _ _ us hl => match us, hl with | [_], _ => rfl)
theorem bnd8 : RowBind r8 := .none rfl rfl (fun _ _ _ _ _ _ us hl => match us, hl with | [_], _ => rfl)
theorem bnd9 : RowBind r9 := .none rfl rfl (fun _ _ _ _ _ _ us hl => match us, hl with | [_], _ => rfl)
theorem bnds : En.AllP RowBind rows := .cons bnd0 (.cons bnd1 (.cons bnd2 (.cons bnd3 (.cons bnd4 (.cons bnd5 (.cons bnd6 (.cons bnd7 (.cons bnd8 (.cons bnd9 (.nil))))))))))
abbrev file : Str := PySem.Challenge.pw_enoughhands_k00_errors_of_plans.main.file
def iniV : FV := some ("__init__", "HandError.__init__", defArgs (iniOf (topS 1)), .stmts (defBody (iniOf (topS 1))), defScope (iniOf (topS 1)))
def lo0 : List Str := [gS "HandError", gS "BadPlan", gS "BadChoice", gS "BadDone", gS "BadNumber", gS "BadRun", gS "TooMany", gS "Unlike", gS "NoTask", gS "Same", gS "BadPairs", gS "Wide", gS "BadLot", gS "BadOther", gS "BadName", gS "BadTrade", gS "BadStock", gS "BadTasks", gS "BadSteps", gS "BadStairs", gS "BadBase", gS "NotEnough", gS "BadRow", gS "NotPlain", gS "BadRows", gS "BadStep", gS "BadCrew", gS "NoPerson", gS "BadTask", gS "Known", gS "Full", gS "NotKnown", gS "Last", gS "BadDuty", gS "Held", gS "NoDuty", gS "BadDeal", gS "Nobody", gS "BadAway", gS "BadStand"]
def lo1 : List Str := [gS "BadShare", gS "NoDeal", gS "NotSimple", gS "Stuck", gS "Away", gS "NotNow", gS "Short", gS "NotKept", gS "Here", gS "NothingToUndo", gS "NothingToRedo", gS "NoTrial", gS "BadJournal", gS "BadSaying", gS "NotLet", gS "NoRun", gS "BadForeign", gS "BadTold", gS "BadStanding", gS "BadWorks", gS "BadDay", gS "NoRest", gS "BadOffers", gS "NoRests", gS "OtherWorks", gS "Apart", gS "BadPeople", gS "_law_pot", gS "_law_take", gS "_law_of", gS "_law_cells", gS "_law_odd", gS "_law_bent", gS "_law_made", gS "_law_marks", gS "_law_right"]
def loose : List Str := lo0 ++ lo1
abbrev R : PySem.W.OpenRow := PySem.W.OpenLaw.row PySem.Challenge.rw_enoughhands_k00_errors_of_plans
abbrev hk : PySem.W.Hook := hookR 6 cons rows errs file iniV
def ob (s : PySem.W.SharedT) : En.SeenR := obR 6 cons rows errs file s
theorem ob_eq (s : PySem.W.SharedT) : ob s = hk.obs s.abs := obR_eq s
set_option maxHeartbeats 0 in
theorem run1 (w : World) (os : OsState) : (endR R 60000 w os).map (fun s => HandSHeadRun.looksF R.prog (PySem.W.boot_heap w.params) s.abs) = some true := by kernel_rfl
set_option maxHeartbeats 0 in
theorem run2 (w : World) (os : OsState) : (endR R 60000 w os).map (fun s => HandSHeadRun.seenQ (PySem.W.view R.prog [78]) loose (importedModules R.prog.main.body) (fun s => PySem.W.xlAt (PySem.W.view R.prog [78]) [] s && PySem.W.recOk R.toRowW.records s) s.abs) = some (PySem.W.openGood (PySem.W.view R.prog [78]) loose) := by kernel_rfl
set_option maxHeartbeats 0 in
theorem run3 (w : World) (os : OsState) : (endR R 60000 w os).map (fun s => partB cons rows (fragT s)) = some true := by kernel_rfl
set_option maxHeartbeats 0 in
theorem run5 (w : World) (os : OsState) : (endR R 60000 w os).map (fun s => partV rows errs (fragT s)) = some (goodR rows iniV).2 := by kernel_rfl
def ch0 : List Str := [gS "HandError", gS "BadPlan", gS "BadChoice", gS "BadDone", gS "BadNumber", gS "BadRun", gS "TooMany", gS "Unlike", gS "NoTask", gS "Same", gS "BadPairs", gS "Wide", gS "BadLot", gS "BadOther", gS "BadName", gS "BadTrade", gS "BadStock", gS "BadTasks", gS "BadSteps", gS "BadStairs", gS "BadBase", gS "NotEnough", gS "BadRow", gS "NotPlain"]
set_option maxHeartbeats 0 in
theorem run4_0 (w : World) (os : OsState) : (endR R 60000 w os).map (fun s => partE ch0 file (fragT s)) = some true := by kernel_rfl
def ch1 : List Str := [gS "BadRows", gS "BadStep", gS "BadCrew", gS "NoPerson", gS "BadTask", gS "Known", gS "Full", gS "NotKnown", gS "Last", gS "BadDuty", gS "Held", gS "NoDuty", gS "BadDeal", gS "Nobody", gS "BadAway", gS "BadStand", gS "BadShare", gS "NoDeal", gS "NotSimple", gS "Stuck", gS "Away", gS "NotNow", gS "Short", gS "NotKept"]
set_option maxHeartbeats 0 in
theorem run4_1 (w : World) (os : OsState) : (endR R 60000 w os).map (fun s => partE ch1 file (fragT s)) = some true := by kernel_rfl
def ch2 : List Str := [gS "Here", gS "NothingToUndo", gS "NothingToRedo", gS "NoTrial", gS "BadJournal", gS "BadSaying", gS "NotLet", gS "NoRun", gS "BadForeign", gS "BadTold", gS "BadStanding", gS "BadWorks", gS "BadDay", gS "NoRest", gS "BadOffers", gS "NoRests", gS "OtherWorks", gS "Apart", gS "BadPeople"]
set_option maxHeartbeats 0 in
theorem run4_2 (w : World) (os : OsState) : (endR R 60000 w os).map (fun s => partE ch2 file (fragT s)) = some true := by kernel_rfl
theorem errs_eq : errs = ((ch0 ++ ch1) ++ ch2) := rfl
theorem run4 (w : World) (os : OsState) : (endR R 60000 w os).map (fun s => partE errs file (fragT s)) = some true := by rw [errs_eq]; exact map_errs (map_errs (run4_0 w os) (run4_1 w os)) (run4_2 w os)
theorem run (w : World) : HandSHeadRun.RunEq R (PySem.W.view R.prog [78]) hk ob 60000 loose w := run_parts (run1 w) (run2 w) (run3 w) (.inr (run4 w)) (run5 w)
end K00
open PySem PySem.W PySem.Calls PyProof.Rows
set_option maxRecDepth 100000 in
set_option maxHeartbeats 0 in
theorem PySem.Challenge.cw_enoughhands_k00_errors_of_plans_holds : PySem.Challenge.rw_enoughhands_k00_errors_of_plans.Holds := by
  w_on; o_law
  refine HandSHeadRun.head_any (r := OpenLaw.row PySem.Challenge.rw_enoughhands_k00_errors_of_plans) (q := view (OpenLaw.row PySem.Challenge.rw_enoughhands_k00_errors_of_plans).prog [78]) (H := K00.hk) (ob := K00.ob) (M := 60000) (loose := K00.loose) (d := HandSHeadRun.topDef (OpenLaw.row PySem.Challenge.rw_enoughhands_k00_errors_of_plans).prog 78) (kwd := []) K00.ob_eq
    (by kernel_rfl) (fun s => by kernel_rfl) K00.run (by kernel_rfl) (by kernel_rfl) (by kernel_rfl) (by rfl) (by first | assumption | decide +kernel) (by decide +kernel) ⟨rfl, rfl, rfl, rfl, rfl, by decide +kernel⟩ ?hw ?hc
  case hw => w_witness2
  case hc =>
    refine En.walkE (l := PySem.Challenge.rw_enoughhands_k00_errors_of_plans) (n := 63) (k := 12 + 1) (x := "_law_script") (g := En.runBody (En.callN (K00.rows.map En.Row.fn) (En.conOf K00.cons) 100 12) (En.conOf K00.cons) 100 K00.f9) rfl (by decide) (by kernel_rfl) ⟨rfl, by decide, by decide⟩ ?F K00.plain
    intro w mg fa h Y Gm hmg0
    obtain ⟨K, KX, c⟩ := Y
    have hmg : mg ("law" : PySem.Str) = some (.ref fa) := by
      have e : (HandSHeadRun.topDef (OpenLaw.row PySem.Challenge.rw_enoughhands_k00_errors_of_plans).prog 78).name = ("law" : PySem.Str) := by kernel_rfl
      rw [← e]; exact hmg0
    have mo := En.look_mod (P := PySem.Challenge.rw_enoughhands_k00_errors_of_plans.prog) KX Gm K00.chks K00.bnds (by decide +kernel) c (fun _ b v => by
      obtain ⟨fI, CH, cc, cda, kV, doc, pm, ct, oc, ccl, cl, an, od, cdd, cld, osl, ccs, csl, vs, tf, cdD, rfl, rfl, e1, e2, e3, e4, e5, e6, e7, e8, e9, e10⟩ := En.iniB_ok b v
      exact K00.ini KX e1 e2 (by kernel_rfl) e3 e4 e5 e6 (by kernel_rfl) e7 e8 e9 e10)
    obtain ⟨fd, q1, q2⟩ := En.law_row (h := h) (F := 100) (k := 12) (i := 9) (r := K00.r9) (P := PySem.Challenge.rw_enoughhands_k00_errors_of_plans.prog) (w := w) mo rfl hmg rfl rfl
    exact ⟨K, fd, KX, q1, fun base _ _ => q2 base⟩
