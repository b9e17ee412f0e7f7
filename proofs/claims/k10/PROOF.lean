import PyProof.Rows.All
import Wide.All
import OpenK.AllK
import Wide.FinOn
import HandS.ForMost
import HandS.Wide
import HandS.TupAny
import HandS.IsInst
import HandS.DictComp
import HandS.Defaults
import HandS.Deep
import HandS.Conv
import HandS.Style
import HandS.Flow
import HandS.More
import HandS.RaiseMore
import PyProof.ReprRoads
import KE.GoesMore
import HandS.Zip
import HandS.EndBits
import HandS.Words
import PySem.Challenge.RW_enoughhands_k10_whole_levels_and_least_s
set_option Elab.async false
set_option linter.all false
set_option maxRecDepth 100000
namespace En
open PySem L2

/-- a value: by value, but for mref, a place in the store -/
inductive D where
  | non
  | bl (b : Bool)
  | int (i : Int)
  | str (x : Str)
  | tup (ds : List D)
  | lst (ds : List D)
  | ro (ds : List D)
  | dic (kvs : List (Key × D))
  | mref (i : Nat)

mutual
def D.py : D → PyData
  | .non => .none
  | .bl b => .bool b
  | .int i => .int i
  | .str x => .str x
  | .tup ds => .tuple (D.pys ds)
  | .lst ds => .list (D.pys ds)
  | .ro _ => .dict []
  | .dic _ => .dict []
  | .mref _ => .dict []
def D.pys : List D → List PyData
  | [] => []
  | d :: r => D.py d :: D.pys r
end

/-- what stands in the store -/
inductive O where
  | lst (ds : List D)
  | dic (kvs : List (Key × D))
  | dead
abbrev Sto := List O
abbrev Env := List (Option D)

inductive Res (α : Type) where
  | ok (a : α)
  | exc (c : Nat) (d : D) (st : Sto)
  | bad
def Res.bind {α β : Type} : Res α → (α → Res β) → Res β
  | .ok a, f => f a
  | .exc c d st, _ => .exc c d st
  | .bad, _ => .bad
@[simp] theorem Res.ok_bind {α β : Type} (a : α) (f : α → Res β) : (Res.ok a).bind f = f a := rfl
@[simp] theorem Res.bad_bind {α β : Type} (f : α → Res β) : (Res.bad : Res α).bind f = .bad := rfl
@[simp] theorem Res.exc_bind {α β : Type} (c : Nat) (d : D) (st : Sto) (f : α → Res β) : (Res.exc c d st : Res α).bind f = .exc c d st := rfl
theorem Res.bind_ok {α β : Type} {r : Res α} {f : α → Res β} {b : β} (h : r.bind f = .ok b) : ∃ a, r = .ok a ∧ f a = .ok b := by
  cases r with
  | ok a => exact ⟨a, rfl, h⟩
  | exc c d st => cases h
  | bad => cases h
def Res.of {α : Type} : Option α → Res α
  | some a => .ok a
  | none => .bad
@[simp] theorem Res.of_some {α : Type} (a : α) : Res.of (some a) = .ok a := rfl

/-- what a value is when it is read -/
def snap (st : Sto) : D → D
  | .mref i => match st[i]? with
    | some (.lst ds) => .lst ds
    | some (.dic kvs) => .dic kvs
    | _ => .mref i
  | d => d
@[simp] theorem snap_non (st : Sto) : snap st .non = .non := rfl
@[simp] theorem snap_bl (st : Sto) (b : Bool) : snap st (.bl b) = .bl b := rfl
@[simp] theorem snap_int (st : Sto) (i : Int) : snap st (.int i) = .int i := rfl
@[simp] theorem snap_str (st : Sto) (i : Str) : snap st (.str i) = .str i := rfl
@[simp] theorem snap_tup (st : Sto) (i : List D) : snap st (.tup i) = .tup i := rfl
@[simp] theorem snap_lst (st : Sto) (i : List D) : snap st (.lst i) = .lst i := rfl
@[simp] theorem snap_ro (st : Sto) (i : List D) : snap st (.ro i) = .ro i := rfl
@[simp] theorem snap_dic (st : Sto) (i : List (Key × D)) : snap st (.dic i) = .dic i := rfl
theorem snap_mref {st : Sto} {i : Nat} {ds : List D} (h : st[i]? = some (.lst ds)) : snap st (.mref i) = .lst ds := by simp [snap, h]
theorem snap_mrefd {st : Sto} {i : Nat} {ds : List (Key × D)} (h : st[i]? = some (.dic ds)) : snap st (.mref i) = .dic ds := by simp [snap, h]

def D.isRef : D → Bool
  | .mref _ => true
  | _ => false

inductive BOp where
  | add | sub | mul | fdiv | mod | pow
abbrev LIM : Nat := 16777216
def bop : BOp → D → D → Res D
  | .add, .int i, .int j => .ok (.int (i + j))
  | .add, .str i, .str j => if i.length + j.length ≤ LIM then .ok (.str (i ++ j)) else .bad
  | .add, .tup i, .tup j => if i.length + j.length ≤ LIM then .ok (.tup (i ++ j)) else .bad
  | .add, .lst i, .lst j => if i.length + j.length ≤ LIM then .ok (.lst (i ++ j)) else .bad
  | .sub, .int i, .int j => .ok (.int (i - j))
  | .mul, .int i, .int j => if i.natAbs.log2 + j.natAbs.log2 < 1000000 then .ok (.int (i * j)) else .bad
  | .fdiv, .int i, .int j => if 0 < j ∧ j.natAbs.log2 < 9000 then .ok (.int (i / j)) else .bad
  | .mod, .int i, .int j => if 0 < j then .ok (.int (i % j)) else .bad
  | .pow, .int i, .int j => if 0 ≤ j ∧ (Builtin.Int.intBits i : Int) * j ≤ 2 ^ 27 then .ok (.int (i ^ j.toNat)) else .bad
  | _, _, _ => .bad

inductive COp where
  | lt | le | gt | ge | eq | ne | isin | notin | isNone | notNone
def ltStr (i j : Str) : Bool := decide (i.cps.toList < j.cps.toList)
def keyOf : D → Option Key
  | .int i => some (.inl i)
  | .str x => some (.inr x)
  | _ => none
def dget (kvs : List (Key × D)) (k : Key) : Option D := (kvs.find? fun kv => decide (kv.1 = k)).map (·.2)
def dput (kvs : List (Key × D)) (k : Key) (d : D) : List (Key × D) :=
  if (kvs.any fun kv => decide (kv.1 = k)) = true then kvs.map (fun kv => if kv.1 = k then (kv.1, d) else kv) else kvs ++ [(k, d)]
def isin : D → D → Res Bool
  | d, .lst ds => if SeqAt.shaped d.py && SeqAt.shaped (D.lst ds).py then .ok (ds.any fun z => PyData.eqv z.py d.py) else .bad
  | d, .tup ds => if SeqAt.shaped d.py && SeqAt.shaped (D.tup ds).py then .ok (ds.any fun z => PyData.eqv z.py d.py) else .bad
  | .str x, .str y => match x.cps.toList with
    | [c] => .ok (decide (c ∈ y.cps.toList))
    | _ => .bad
  | d, .dic kvs => match keyOf d with
    | some k => .ok (dget kvs k).isSome
    | none => .bad
  | _, _ => .bad
def cop : COp → D → D → Res Bool
  | .lt, .int i, .int j => .ok (decide (i < j))
  | .le, .int i, .int j => .ok (decide (i ≤ j))
  | .gt, .int i, .int j => .ok (decide (j < i))
  | .ge, .int i, .int j => .ok (decide (j ≤ i))
  | .lt, .str i, .str j => .ok (ltStr i j)
  | .eq, a, b => if SeqAt.shaped a.py && SeqAt.shaped b.py then .ok (PyData.eqv a.py b.py) else .bad
  | .ne, a, b => if SeqAt.shaped a.py && SeqAt.shaped b.py then .ok (!PyData.eqv a.py b.py) else .bad
  | .isin, a, b => isin a b
  | .notin, a, b => (isin a b).bind fun r => .ok (!r)
  | .isNone, .non, .non => .ok true
  | .isNone, .mref _, _ => .bad
  | .isNone, _, .non => .ok false
  | .notNone, .non, .non => .ok false
  | .notNone, .mref _, _ => .bad
  | .notNone, _, .non => .ok true
  | _, _, _ => .bad

/-- the item at a place, from the end if below nought -/
def atD (ds : List D) (i : Int) : Option D := atI ds i
def idx : D → D → Res D
  | .lst ds, .int i => Res.of (atD ds i)
  | .ro ds, .int i => Res.of (atD ds i)
  | .tup ds, .int i => Res.of (atD ds i)
  | .str x, .int i => if x.length ≤ LIM then match atI x.cps.toList i with
      | some c => .ok (.str ⟨#[c]⟩)
      | none => .bad else .bad
  | .dic kvs, k => match keyOf k with
    | some k => Res.of (dget kvs k)
    | none => .bad
  | _, _ => .bad
def cutD (ds : List D) (lo hi : Option Int) : List D :=
  let a := HT.sIx ds.length 0 lo
  let b := HT.sIx ds.length ds.length hi
  (ds.drop a).take (b - a)
def optI : Option D → Option (Option Int)
  | none => some none
  | some (.int i) => some (some i)
  | some _ => none
def slc : D → Option D → Option D → Res D
  | .lst ds, lo, hi => match optI lo, optI hi with
    | some l, some h => .ok (.lst (cutD ds l h))
    | _, _ => .bad
  | .tup ds, lo, hi => match optI lo, optI hi with
    | some l, some h => .ok (.tup (cutD ds l h))
    | _, _ => .bad
  | _, _, _ => .bad
def revD : D → Res D
  | .lst ds => .ok (.lst ds.reverse)
  | .tup ds => .ok (.tup ds.reverse)
  | _ => .bad

inductive B where
  | len | abs | int | tuple | list | all | any | sum | max2 | min2 | max1 | min1 | sorted | repr | dict | isInt | isBool | isStr | isTuple | isList
def boolsD : List D → Option (List Bool)
  | [] => some []
  | .bl b :: r => (boolsD r).map (b :: ·)
  | _ => none
def intsD : List D → Option (List Int)
  | [] => some []
  | .int b :: r => (intsD r).map (b :: ·)
  | _ => none
def strsD : List D → Option (List Str)
  | [] => some []
  | .str b :: r => (strsD r).map (b :: ·)
  | _ => none
def itemsOf : D → Option (List D)
  | .lst ds => some ds
  | .ro ds => some ds
  | .tup ds => some ds
  | _ => none
def pairsD : List D → Option (List (Key × D))
  | [] => some []
  | .tup [k, d] :: r => match keyOf k, pairsD r with
    | some k, some r => some ((k, d) :: r)
    | _, _ => none
  | _ => none
def dmerge (a b : List (Key × D)) : List (Key × D) := b.foldl (fun acc kv => dput acc kv.1 kv.2) a
def insS (x : Str) : List Str → List Str
  | [] => [x]
  | y :: r => if ltStr x y then x :: y :: r else y :: insS x r
def sortS (l : List Str) : List Str := l.foldl (fun acc x => insS x acc) []
def maxL : List Int → Option Int
  | [] => none
  | x :: r => some (r.foldl (fun a b => if b > a then b else a) x)
def minL : List Int → Option Int
  | [] => none
  | x :: r => some (r.foldl (fun a b => if b < a then b else a) x)
def strKeys : List (Key × D) → Option (List Str)
  | [] => some []
  | (.inr b, _) :: r => (strKeys r).map (b :: ·)
  | _ => none
def bi : B → List D → Res D
  | .len, [.lst ds] => .ok (.int ds.length)
  | .len, [.ro ds] => .ok (.int ds.length)
  | .len, [.tup ds] => .ok (.int ds.length)
  | .len, [.str x] => if x.length ≤ LIM then .ok (.int x.length) else .bad
  | .len, [.dic kvs] => .ok (.int kvs.length)
  | .abs, [.int i] => .ok (.int (if i < 0 then -i else i))
  | .int, [.int i] => .ok (.int i)
  | .int, [.bl b] => .ok (.int (if b then 1 else 0))
  | .tuple, [.lst ds] => .ok (.tup ds)
  | .tuple, [.tup ds] => .ok (.tup ds)
  | .list, [.lst ds] => .ok (.lst ds)
  | .list, [.tup ds] => .ok (.lst ds)
  | .all, [.lst ds] => (Res.of (boolsD ds)).bind fun bs => .ok (.bl (bs.all id))
  | .any, [.lst ds] => (Res.of (boolsD ds)).bind fun bs => .ok (.bl (bs.any id))
  | .sum, [.lst ds] => (Res.of (intsD ds)).bind fun bs => .ok (.int bs.sum)
  | .max2, [.int i, .int j] => .ok (.int (if j > i then j else i))
  | .min2, [.int i, .int j] => .ok (.int (if j < i then j else i))
  | .max1, [.lst ds] => (Res.of (intsD ds)).bind fun bs => (Res.of (maxL bs)).bind fun m => .ok (.int m)
  | .min1, [.lst ds] => (Res.of (intsD ds)).bind fun bs => (Res.of (minL bs)).bind fun m => .ok (.int m)
  | .sorted, [.dic kvs] => (Res.of (strKeys kvs)).bind fun bs => if bs.length < 64 then .ok (.lst ((sortS bs).map .str)) else .bad
  | .sorted, [.lst ds] => (Res.of (strsD ds)).bind fun bs => if bs.length < 64 then .ok (.lst ((sortS bs).map .str)) else .bad
  | .repr, [.dic _] => .bad
  | .repr, [.ro _] => .bad
  | .repr, [.mref _] => .bad
  | .repr, [d] => if d.py.canLay0 && d.py.showable && decide (d.py.depth ≤ 32) && decide (d.py.shown.length ≤ LIM) then .ok (.str d.py.shown) else .bad
  | .dict, [.lst ds] => (Res.of (pairsD ds)).bind fun kvs => .ok (.dic (dmerge [] kvs))
  | .isInt, [.mref _] => .bad
  | .isInt, [.int _] => .ok (.bl true)
  | .isInt, [.bl _] => .ok (.bl true)
  | .isInt, [_] => .ok (.bl false)
  | .isBool, [.mref _] => .bad
  | .isBool, [.bl _] => .ok (.bl true)
  | .isBool, [_] => .ok (.bl false)
  | .isStr, [.mref _] => .bad
  | .isStr, [.str _] => .ok (.bl true)
  | .isStr, [_] => .ok (.bl false)
  | .isTuple, [.mref _] => .bad
  | .isTuple, [.tup _] => .ok (.bl true)
  | .isTuple, [_] => .ok (.bl false)
  | .isList, [.mref _] => .bad
  | .isList, [.ro _] => .bad
  | .isList, [.lst _] => .ok (.bl true)
  | .isList, [_] => .ok (.bl false)
  | _, _ => .bad

inductive Tg where
  | name (i : Nat)
  | tup (ts : List Tg)
mutual
inductive CE where
  | lit (d : D)
  | var (i : Nat)
  | glob (g : Nat)
  | bin (op : BOp) (a b : CE)
  | neg (a : CE)
  | not (a : CE)
  | cmp (op : COp) (a b : CE)
  | chain (op op' : COp) (a b c : CE)
  | and (es : List CE)
  | or (es : List CE)
  | ite (c a b : CE)
  | tup (es : List CE)
  | lst (es : List CE)
  | lstM (es : List CE)
  | idx (a i : CE)
  | slc (a : CE) (lo hi : Option CE)
  | rev (a : CE)
  | call (f : Nat) (es : List CE)
  | bi (b : B) (es : List CE)
  | copyM (a : CE)
  | append (l e : CE)
  | extend (l e : CE)
  | popAt (l i : CE)
  | pop (l : CE)
  | frz (l : CE)
  | comp (t : Tg) (it : CI) (test : Option CE) (e : CE) (own : List Nat)
  | compM (t : Tg) (it : CI) (test : Option CE) (e : CE) (own : List Nat)
  | dcomp (t : Tg) (it : CI) (test : Option CE) (k v : CE) (own : List Nat)
  | dnew
  | dget (o k : CE) (x : Option CE)
  | rng1 (t : Bool) (a : CE)
  | rng2 (t : Bool) (a b : CE)
inductive CI where
  | seq (e : CE)
  | range1 (e : CE)
  | range2 (a b : CE)
  | zip (a b : CE)
  | enum (e : CE)
  | items (e : CE)
end
inductive CS where
  | asg (t : Tg) (e : CE)
  | par (is : List Nat) (es : List CE)
  | aug (i : Nat) (op : BOp) (e : CE)
  | ex (e : CE)
  | setix (l i e : CE)
  | ite (c : CE) (a b : List CS)
  | for_ (t : Tg) (it : CI) (body : List CS)
  | while_ (c : CE) (body : List CS)
  | ret (e : CE)
  | retN
  | brk
  | cont
  | pass
  | never
  | frzV (i : Nat)

mutual
def asgT : Tg → D → Env → Option Env
  | .name i, d, env => some (env.set i (some d))
  | .tup ts, .tup ds, env => asgTs ts ds env
  | .tup _, _, _ => none
def asgTs : List Tg → List D → Env → Option Env
  | [], [], env => some env
  | t :: ts, d :: ds, env => match asgT t d env with
    | some env1 => asgTs ts ds env1
    | none => none
  | _, _, _ => none
end
def setAll : List Nat → List D → Env → Option Env
  | [], [], env => some env
  | i :: is, d :: ds, env => setAll is ds (env.set i (some d))
  | _, _, _ => none
def wipeD (env : Env) : List Nat → Env
  | [] => env
  | v :: vs => (wipeD env vs).set v none
def asBool : D → Res Bool
  | .bl b => .ok b
  | _ => .bad
def asDic : D → Res (List (Key × D))
  | .dic kvs => .ok kvs
  | _ => .bad
def getLst (st : Sto) : D → Res (Nat × List D)
  | .mref i => match st[i]? with
    | some (.lst ds) => .ok (i, ds)
    | _ => .bad
  | _ => .bad
def getDic (st : Sto) : D → Res (Nat × List (Key × D))
  | .mref i => match st[i]? with
    | some (.dic ds) => .ok (i, ds)
    | _ => .bad
  | _ => .bad
def rngD (a : Int) : Nat → List D
  | 0 => []
  | n + 1 => .int a :: rngD (a + 1) n
def rngT (t : Bool) (ds : List D) : D := if t then .tup ds else .lst ds
def enumD (a : Nat) : List D → List D
  | [] => []
  | d :: r => .tup [.int (a : Int), d] :: enumD (a + 1) r
def zipD : List D → List D → List D
  | a :: r, b :: q => .tup [a, b] :: zipD r q
  | _, _ => []
def seqItems : D → Res (List D)
  | .lst ds => .ok ds
  | .ro ds => .ok ds
  | .tup ds => .ok ds
  | .str x => if x.length ≤ LIM then .ok (x.cps.toList.map fun c => .str ⟨#[c]⟩) else .bad
  | _ => .bad
def kD : Key → D
  | .inl i => .int i
  | .inr x => .str x
def itemsKv : D → Res (List D)
  | .dic kvs => .ok (kvs.map fun kv => .tup [kD kv.1, kv.2])
  | _ => .bad
def noRefs : List D → Bool
  | [] => true
  | d :: r => !d.isRef && noRefs r

/-- a comprehension's turns -/
def compGo (f : D → Sto → Res (Option D × Sto)) : List D → Sto → Res (List D × Sto)
  | [], st => .ok ([], st)
  | x :: r, st => (f x st).bind fun (o, st1) => (compGo f r st1).bind fun (ds, st2) => .ok (match o with | some d => d :: ds | none => ds, st2)
def dcompGo (f : D → Sto → Res (Option (Key × D) × Sto)) : List D → List (Key × D) → Sto → Res (List (Key × D) × Sto)
  | [], acc, st => .ok (acc, st)
  | x :: r, acc, st => (f x st).bind fun (o, st1) => dcompGo f r (match o with | some kv => dput acc kv.1 kv.2 | none => acc) st1

abbrev Fns := Nat → List D → Sto → Res (D × Sto)
section
variable (Γ : Fns) (con : Nat → Option D)
mutual
def evE : CE → Env → Sto → Res (D × Sto)
  | .lit d, _, st => .ok (d, st)
  | .var i, env, st => match env[i]? with
    | some (some d) => .ok (d, st)
    | _ => .bad
  | .glob g, _, st => match con g with
    | some d => .ok (d, st)
    | none => .bad
  | .bin op a b, env, st => (evE a env st).bind fun (x, st1) => (evE b env st1).bind fun (y, st2) => (bop op (snap st2 x) (snap st2 y)).bind fun d => .ok (d, st2)
  | .neg a, env, st => (evE a env st).bind fun (x, st1) => match x with
    | .int i => .ok (.int (-i), st1)
    | _ => .bad
  | .not a, env, st => (evE a env st).bind fun (x, st1) => (asBool x).bind fun b => .ok (.bl (!b), st1)
  | .cmp op a b, env, st => (evE a env st).bind fun (x, st1) => (evE b env st1).bind fun (y, st2) => (cop op (snap st2 x) (snap st2 y)).bind fun d => .ok (.bl d, st2)
  | .chain op op' a b c, env, st => (evE a env st).bind fun (x, st1) => (evE b env st1).bind fun (y, st2) => (cop op (snap st2 x) (snap st2 y)).bind fun r =>
      if r then (evE c env st2).bind fun (z, st3) => (cop op' (snap st3 y) (snap st3 z)).bind fun d => .ok (.bl d, st3) else .ok (.bl false, st2)
  | .and es, env, st => evAnd es env st
  | .or es, env, st => evOr es env st
  | .ite c a b, env, st => (evE c env st).bind fun (x, st1) => (asBool x).bind fun r => if r then evE a env st1 else evE b env st1
  | .tup es, env, st => (evEs es env st).bind fun (ds, st1) => if noRefs ds && decide (ds.length ≤ LIM) then .ok (.tup ds, st1) else .bad
  | .lst es, env, st => (evEs es env st).bind fun (ds, st1) => if noRefs ds && decide (ds.length ≤ LIM) then .ok (.lst ds, st1) else .bad
  | .lstM es, env, st => (evEs es env st).bind fun (ds, st1) => if noRefs ds && decide (ds.length ≤ LIM) then .ok (.mref st1.length, st1 ++ [.lst ds]) else .bad
  | .idx a i, env, st => (evE a env st).bind fun (x, st1) => (evE i env st1).bind fun (y, st2) => (idx (snap st2 x) y).bind fun d => .ok (d, st2)
  | .slc a lo hi, env, st => (evE a env st).bind fun (x, st1) => (evO lo env st1).bind fun (l, st2) => (evO hi env st2).bind fun (h, st3) => (slc (snap st3 x) l h).bind fun d => .ok (d, st3)
  | .rev a, env, st => (evE a env st).bind fun (x, st1) => (revD (snap st1 x)).bind fun d => .ok (d, st1)
  | .call f es, env, st => (evEs es env st).bind fun (ds, st1) => Γ f ds st1
  | .bi b es, env, st => (evEs es env st).bind fun (ds, st1) => (bi b (ds.map (snap st1))).bind fun d => .ok (d, st1)
  | .copyM a, env, st => (evE a env st).bind fun (x, st1) => (Res.of (itemsOf (snap st1 x))).bind fun ds => .ok (.mref st1.length, st1 ++ [.lst ds])
  | .append l e, env, st => (evE l env st).bind fun (x, st1) => (getLst st1 x).bind fun _ => (evE e env st1).bind fun (y, st2) => (getLst st2 x).bind fun (i, ds) =>
      if y.isRef || decide (LIM ≤ ds.length) then .bad else .ok (.non, st2.set i (.lst (ds ++ [y])))
  | .extend l e, env, st => (evE l env st).bind fun (x, st1) => (getLst st1 x).bind fun _ => (evE e env st1).bind fun (y, st2) => (getLst st2 x).bind fun (i, ds) => match snap st2 y with
      | .lst ys => if decide (LIM < ds.length + ys.length) then .bad else .ok (.non, st2.set i (.lst (ds ++ ys)))
      | _ => .bad
  | .popAt l k, env, st => (evE l env st).bind fun (x, st1) => (getLst st1 x).bind fun _ => (evE k env st1).bind fun (y, st2) => (getLst st2 x).bind fun (i, ds) => match y with
      | .int k => if 0 ≤ k then match ds[k.toNat]? with
          | some d => .ok (d, st2.set i (.lst (ds.eraseIdx k.toNat)))
          | none => .bad else .bad
      | _ => .bad
  | .pop l, env, st => (evE l env st).bind fun (x, st1) => (getLst st1 x).bind fun (i, ds) => match ds.getLast? with
      | some d => .ok (d, st1.set i (.lst ds.dropLast))
      | none => .bad
  | .frz l, env, st => (evE l env st).bind fun (x, st1) => match x with
      | .mref i => match st1[i]? with
        | some (.lst ds) => .ok (.lst ds, st1.set i .dead)
        | some (.dic ds) => .ok (.dic ds, st1.set i .dead)
        | _ => .bad
      | _ => .bad
  | .comp t it test e own, env, st => (evI it env st).bind fun (ds, st1) =>
      (compGo (fun x s => (Res.of (asgT t x (wipeD env own))).bind fun env1 => (evT test env1 s).bind fun (b, s1) =>
        if b then (evE e env1 s1).bind fun (d, s2) => if d.isRef then .bad else .ok (some d, s2) else .ok (none, s1)) ds st1).bind fun (rs, st2) => .ok (.lst rs, st2)
  | .compM t it test e own, env, st => (evI it env st).bind fun (ds, st1) =>
      (compGo (fun x s => (Res.of (asgT t x (wipeD env own))).bind fun env1 => (evT test env1 s).bind fun (b, s1) =>
        if b then (evE e env1 s1).bind fun (d, s2) => if d.isRef then .bad else .ok (some d, s2) else .ok (none, s1)) ds st1).bind fun (rs, st2) => .ok (.mref st2.length, st2 ++ [.lst rs])
  | .dcomp t it test k v own, env, st => (evI it env st).bind fun (ds, st1) =>
      (dcompGo (fun x s => (Res.of (asgT t x (wipeD env own))).bind fun env1 => (evT test env1 s).bind fun (b, s1) =>
        if b then (evE k env1 s1).bind fun (kd, s2) => (evE v env1 s2).bind fun (d, s3) => if d.isRef then .bad else (Res.of (keyOf kd)).bind fun kk => .ok (some (kk, d), s3) else .ok (none, s1)) ds [] st1).bind fun (rs, st2) => .ok (.dic rs, st2)
  | .dnew, _, st => .ok (.mref st.length, st ++ [.dic []])
  | .rng1 t a, env, st => (evE a env st).bind fun (x, st1) => match x with
      | .int j => if -(2 ^ 62) ≤ j ∧ j < 2 ^ 24 then .ok (rngT t (rngD 0 j.toNat), st1) else .bad
      | _ => .bad
  | .rng2 t a b, env, st => (evE a env st).bind fun (x, st1) => (evE b env st1).bind fun (y, st2) => match x, y with
      | .int i, .int j => if (-(2 ^ 62) ≤ i ∧ i < 2 ^ 62) ∧ (-(2 ^ 62) ≤ j ∧ j < 2 ^ 62) ∧ j - i < 2 ^ 24 then .ok (rngT t (rngD i (j - i).toNat), st2) else .bad
      | _, _ => .bad
  | .dget o k x, env, st => (evE o env st).bind fun (od, st1) => (asDic (snap st1 od)).bind fun _ => (evE k env st1).bind fun (kd, st2) => (evO x env st2).bind fun (xd, st3) => match snap st3 od, keyOf kd with
      | .dic kvs, some k => .ok ((dget kvs k).getD (xd.getD .non), st3)
      | _, _ => .bad
def evEs : List CE → Env → Sto → Res (List D × Sto)
  | [], _, st => .ok ([], st)
  | e :: es, env, st => (evE e env st).bind fun (d, st1) => (evEs es env st1).bind fun (ds, st2) => .ok (d :: ds, st2)
def evAnd : List CE → Env → Sto → Res (D × Sto)
  | [], _, _ => .bad
  | [e], env, st => (evE e env st).bind fun (y, st2) => (asBool y).bind fun r => .ok (.bl r, st2)
  | e :: e' :: es, env, st => (evE e env st).bind fun (x, st1) => (asBool x).bind fun r => if r then evAnd (e' :: es) env st1 else .ok (.bl false, st1)
def evOr : List CE → Env → Sto → Res (D × Sto)
  | [], _, _ => .bad
  | [e], env, st => (evE e env st).bind fun (y, st2) => (asBool y).bind fun r => .ok (.bl r, st2)
  | e :: e' :: es, env, st => (evE e env st).bind fun (x, st1) => (asBool x).bind fun r => if r then .ok (.bl true, st1) else evOr (e' :: es) env st1
def evO : Option CE → Env → Sto → Res (Option D × Sto)
  | none, _, st => .ok (none, st)
  | some e, env, st => (evE e env st).bind fun (d, st1) => .ok (some d, st1)
def evT : Option CE → Env → Sto → Res (Bool × Sto)
  | none, _, st => .ok (true, st)
  | some e, env, st => (evE e env st).bind fun (d, st1) => (asBool d).bind fun b => .ok (b, st1)
def evI : CI → Env → Sto → Res (List D × Sto)
  | .seq e, env, st => (evE e env st).bind fun (x, st1) => (seqItems x).bind fun ds => .ok (ds, st1)
  | .range1 e, env, st => (evE e env st).bind fun (x, st1) => match x with
      | .int j => if -(2 ^ 62) ≤ j ∧ j < 2 ^ 24 then .ok (rngD 0 j.toNat, st1) else .bad
      | _ => .bad
  | .range2 a b, env, st => (evE a env st).bind fun (x, st1) => (evE b env st1).bind fun (y, st2) => match x, y with
      | .int i, .int j => if (-(2 ^ 62) ≤ i ∧ i < 2 ^ 62) ∧ (-(2 ^ 62) ≤ j ∧ j < 2 ^ 62) ∧ j - i < 2 ^ 24 then .ok (rngD i (j - i).toNat, st2) else .bad
      | _, _ => .bad
  | .zip a b, env, st => (evE a env st).bind fun (x, st1) => (evE b env st1).bind fun (y, st2) => match x, y with
      | .lst xs, .lst ys => .ok (zipD xs ys, st2)
      | .tup xs, .tup ys => .ok (zipD xs ys, st2)
      | _, _ => .bad
  | .enum e, env, st => (evE e env st).bind fun (x, st1) => match x with
      | .lst xs => .ok (enumD 0 xs, st1)
      | .tup xs => .ok (enumD 0 xs, st1)
      | _ => .bad
  | .items e, env, st => (evE e env st).bind fun (x, st1) => (itemsKv x).bind fun ds => .ok (ds, st1)
end

inductive Fl where
  | next
  | brk
  | cont
  | ret (d : D)
def forGo (bind : D → Env → Option Env) (body : Env → Sto → Res (Fl × Env × Sto)) : List D → Env → Sto → Res (Fl × Env × Sto)
  | [], env, st => .ok (.next, env, st)
  | x :: r, env, st => (Res.of (bind x env)).bind fun env1 => (body env1 st).bind fun (fl, env2, st2) => match fl with
    | .next => forGo bind body r env2 st2
    | .cont => forGo bind body r env2 st2
    | .brk => .ok (.next, env2, st2)
    | .ret d => .ok (.ret d, env2, st2)
def whileGo (test : Env → Sto → Res (D × Sto)) (body : Env → Sto → Res (Fl × Env × Sto)) : Nat → Env → Sto → Res (Fl × Env × Sto)
  | 0, _, _ => .bad
  | n + 1, env, st => (test env st).bind fun (d, st1) => (asBool d).bind fun b => if b then (body env st1).bind fun (fl, env2, st2) => match fl with
      | .next => whileGo test body n env2 st2
      | .cont => whileGo test body n env2 st2
      | .brk => .ok (.next, env2, st2)
      | .ret d => .ok (.ret d, env2, st2)
    else .ok (.next, env, st1)
variable (F : Nat)
mutual
def evS : CS → Env → Sto → Res (Fl × Env × Sto)
  | .asg t e, env, st => (evE Γ con e env st).bind fun (d, st1) => (Res.of (asgT t d env)).bind fun env1 => .ok (.next, env1, st1)
  | .par is es, env, st => (evEs Γ con es env st).bind fun (ds, st1) => (Res.of (setAll is ds env)).bind fun env1 => .ok (.next, env1, st1)
  | .aug i op e, env, st => match env[i]? with
    | some (some x) => (evE Γ con e env st).bind fun (y, st1) => match x, y with
      | .int a, .int b => (bop op (.int a) (.int b)).bind fun d => .ok (.next, env.set i (some d), st1)
      | .str a, .str b => (bop op (.str a) (.str b)).bind fun d => .ok (.next, env.set i (some d), st1)
      | _, _ => .bad
    | _ => .bad
  | .ex e, env, st => (evE Γ con e env st).bind fun (_, st1) => .ok (.next, env, st1)
  | .setix l k e, env, st => (evE Γ con e env st).bind fun (y, st1) => (evE Γ con l env st1).bind fun (x, st2) => (evE Γ con k env st2).bind fun (z, st3) =>
      if y.isRef then .bad else match x with
      | .mref i => match st3[i]?, z with
        | some (.lst ds), .int k => if 0 ≤ k ∧ k.toNat < ds.length then .ok (.next, env, st3.set i (.lst (ds.set k.toNat y))) else .bad
        | some (.dic kvs), z => match keyOf z with
          | some k => if kvs.length < LIM then .ok (.next, env, st3.set i (.dic (dput kvs k y))) else .bad
          | none => .bad
        | _, _ => .bad
      | _ => .bad
  | .ite c a b, env, st => (evE Γ con c env st).bind fun (d, st1) => (asBool d).bind fun r => if r then evSs a env st1 else evSs b env st1
  | .for_ t it body, env, st => (evI Γ con it env st).bind fun (ds, st1) => forGo (asgT t) (fun e s => evSs body e s) ds env st1
  | .while_ c body, env, st => whileGo (evE Γ con c) (fun e s => evSs body e s) F env st
  | .ret e, env, st => (evE Γ con e env st).bind fun (d, st1) => .ok (.ret d, env, st1)
  | .retN, env, st => .ok (.ret .non, env, st)
  | .brk, env, st => .ok (.brk, env, st)
  | .cont, env, st => .ok (.cont, env, st)
  | .pass, env, st => .ok (.next, env, st)
  | .never, _, _ => .bad
  | .frzV i, env, st => match env[i]? with
    | some (some (.mref j)) => match st[j]? with
      | some (.lst ds) => .ok (.next, env.set i (some (.lst ds)), st.set j .dead)
      | some (.dic ds) => .ok (.next, env.set i (some (.dic ds)), st.set j .dead)
      | _ => .bad
    | _ => .bad
def evSs : List CS → Env → Sto → Res (Fl × Env × Sto)
  | [], env, st => .ok (.next, env, st)
  | c :: r, env, st => (evS c env st).bind fun (fl, env1, st1) => match fl with
    | .next => evSs r env1 st1
    | fl => .ok (fl, env1, st1)
end
end

/-- a def: how many parameters, how many slots, the defaults of the last parameters, whether a made list that it hands back stays changeable -/
structure Fn where
  np : Nat
  ns : Nat
  defs : List D
  keep : Bool
  body : List CS
def finish (keep : Bool) (n : Nat) (d : D) (st : Sto) : Res (D × Sto) :=
  match d with
  | .mref j => if j < n then .ok (.mref j, st.take n) else match st[j]? with
    | some (.lst ds) => if keep then .ok (.mref n, st.take n ++ [.lst ds]) else .ok (.lst ds, st.take n)
    | some (.dic ds) => if keep then .ok (.mref n, st.take n ++ [.dic ds]) else .ok (.dic ds, st.take n)
    | _ => .bad
  | d => .ok (d, st.take n)
def runBody (Γ : Fns) (con : Nat → Option D) (F : Nat) (f : Fn) (as : List D) (st : Sto) : Res (D × Sto) :=
  (evSs Γ con F f.body (as.map some ++ List.replicate (f.ns - as.length) none) st).bind fun (fl, _, st1) => match fl with
    | .ret d => finish f.keep st.length d st1
    | .next => finish f.keep st.length .non st1
    | _ => .bad
def fillD (f : Fn) (ds : List D) : List D := ds ++ f.defs.drop (ds.length + f.defs.length - f.np)
def runFn (Γ : Fns) (con : Nat → Option D) (F : Nat) (f : Fn) (ds : List D) (st : Sto) : Res (D × Sto) :=
  if (fillD f ds).length = f.np then runBody Γ con F f (fillD f ds) st else .bad
def callN (tab : List Fn) (con : Nat → Option D) (F : Nat) : Nat → Fns
  | 0 => fun _ _ _ => .bad
  | n + 1 => fun f ds st => match tab[f]? with
    | some fn => runFn (callN tab con F n) con F fn ds st
    | none => .bad
end En

set_option Elab.async false
set_option linter.all false
set_option maxRecDepth 100000
set_option maxHeartbeats 1000000
namespace En
open PySem L2

/-- the addresses of the store's objects; addresses of lists that are being made (no data lies there) -/
structure Ads where
  c : List (Option Addr)
  p : List Addr
def Ads.Has (as : Ads) (a : Addr) : Prop := some a ∈ as.c ∨ a ∈ as.p
def KL (K : PySem.W.Frag) (a : Addr) (xs : List V) : Prop :=
  ∃ (o : Obj) (its : Array Value) (n : Nat), K.lookup a = some o ∧ o.cls = .type "list" ∧ o.dict = none ∧ o.data = .seq its n ∧ its.size ≤ sizeLine ∧ Vals xs its.toList
def KT (K : PySem.W.Frag) (a : Addr) (xs : List V) : Prop :=
  ∃ (o : Obj) (its : Array Value) (n : Nat), K.lookup a = some o ∧ o.cls = .type "tuple" ∧ o.data = .seq its n ∧ its.size ≤ sizeLine ∧ Vals xs its.toList
def LsA (K : PySem.W.Frag) (as : Ads) (H : Hp) (a : Addr) (xs : List V) : Prop := (Rd H a (.lst xs) ∧ ¬ as.Has a) ∨ KL K a xs
def TpA (K : PySem.W.Frag) (H : Hp) (a : Addr) (xs : List V) : Prop := H a = some (.tup xs) ∨ KT K a xs
theorem LsA.sq {K : PySem.W.Frag} {as : Ads} {H : Hp} {a : Addr} {xs : List V} (h : LsA K as H a xs) : SqL K H a xs := h.elim (fun h => .inl h.1) .inr
theorem TpA.sq {K : PySem.W.Frag} {H : Hp} {a : Addr} {xs : List V} (h : TpA K H a xs) : SqT K H a xs := h.elim (fun h => .inl (.inl h)) .inr

mutual
inductive DRep (K : PySem.W.Frag) (as : Ads) (H : Hp) : V → D → Prop
  | non : DRep K as H .non .non
  | bl (b : Bool) : DRep K as H (.bl b) (.bl b)
  | int (i : Int) : DRep K as H (.int i) (.int i)
  | str (x : Str) : DRep K as H (.str x) (.str x)
  | tup {a : Addr} {vs : List V} {ds : List D} : TpA K H a vs → vs.length ≤ sizeLine → DReps K as H vs ds → DRep K as H (.ref a) (.tup ds)
  | lst {a : Addr} {vs : List V} {ds : List D} : H a = some (.lst vs) → ¬ as.Has a → vs.length ≤ sizeLine → DReps K as H vs ds → DRep K as H (.ref a) (.lst ds)
  | ro {a : Addr} {vs : List V} {ds : List D} : LsA K as H a vs → vs.length ≤ sizeLine → DReps K as H vs ds → DRep K as H (.ref a) (.ro ds)
  | dic {a : Addr} {kvs : List (Key × V)} {ds : List (Key × D)} : Rd H a (.dK kvs) → ¬ as.Has a → kvs.length ≤ sizeLine → KReps K as H kvs ds → DRep K as H (.ref a) (.dic ds)
inductive DReps (K : PySem.W.Frag) (as : Ads) (H : Hp) : List V → List D → Prop
  | nil : DReps K as H [] []
  | cons {v : V} {d : D} {vs : List V} {ds : List D} : DRep K as H v d → DReps K as H vs ds → DReps K as H (v :: vs) (d :: ds)
inductive KReps (K : PySem.W.Frag) (as : Ads) (H : Hp) : List (Key × V) → List (Key × D) → Prop
  | nil : KReps K as H [] []
  | cons {k : Key} {v : V} {d : D} {vs : List (Key × V)} {ds : List (Key × D)} : DRep K as H v d → KReps K as H vs ds → KReps K as H ((k, v) :: vs) ((k, d) :: ds)
end

/-- what a step of code leaves -/
structure Step (as as' : Ads) (H H' : Hp) : Prop where
  len : as.c.length ≤ as'.c.length
  old : ∀ (j : Nat) (a : Addr), as.c[j]? = some (some a) → as'.c[j]? = some (some a) ∨ as'.c[j]? = some none
  dead : ∀ (j : Nat), as.c[j]? = some none → as'.c[j]? = some none
  new : ∀ a : Addr, some a ∈ as'.c → some a ∈ as.c ∨ H a = none
  ext : ∀ (a : Addr) (o : HO), H a = some o → some a ∉ as.c → H' a = some o
  tup : ∀ (a : Addr) (xs : List V), H a = some (.tup xs) → H' a = some (.tup xs)
  prot : as'.p = as.p
theorem Step.refl (as : Ads) (H : Hp) : Step as as H H := ⟨Nat.le_refl _, fun _ _ h => .inl h, fun _ h => h, fun _ h => .inl h, fun _ _ h _ => h, fun _ _ h => h, rfl⟩
theorem Step.notinC {as as' : Ads} {H H' : Hp} (s : Step as as' H H') {a : Addr} {o : HO} (h : H a = some o) (n : some a ∉ as.c) : some a ∉ as'.c := fun m => by
  rcases s.new a m with z | z
  · exact n z
  · rw [h] at z; cases z
theorem Step.notin {as as' : Ads} {H H' : Hp} (s : Step as as' H H') {a : Addr} {o : HO} (h : H a = some o) (n : ¬ as.Has a) : ¬ as'.Has a := fun m => by
  rcases m with m | m
  · exact s.notinC h (fun z => n (.inl z)) m
  · rw [s.prot] at m; exact n (.inr m)
theorem Step.extH {as as' : Ads} {H H' : Hp} (s : Step as as' H H') {a : Addr} {o : HO} (h : H a = some o) (n : ¬ as.Has a) : H' a = some o := s.ext a o h fun z => n (.inl z)
theorem Step.trans {as as1 as2 : Ads} {H H1 H2 : Hp} (s : Step as as1 H H1) (t : Step as1 as2 H1 H2) : Step as as2 H H2 where
  len := Nat.le_trans s.len t.len
  old := fun j a h => by
    rcases s.old j a h with z | z
    · exact t.old j a z
    · exact .inr (t.dead j z)
  dead := fun j h => t.dead j (s.dead j h)
  new := fun a h => by
    rcases t.new a h with z | z
    · exact s.new a z
    · cases q : H a with
      | none => exact .inr rfl
      | some o =>
        by_cases m : some a ∈ as.c
        · exact .inl m
        · rw [s.ext a o q m] at z; cases z
  ext := fun a o h n => t.ext a o (s.ext a o h n) (s.notinC h n)
  tup := fun a xs h => t.tup a xs (s.tup a xs h)
  prot := t.prot.trans s.prot
theorem Step.same {as : Ads} {H H' : Hp} (h : Same H H') : Step as as H H' := ⟨Nat.le_refl _, fun _ _ h => .inl h, fun _ h => h, fun _ h => .inl h, fun a o q _ => h a o q, fun a xs q => h a _ q, rfl⟩

section
variable {K : PySem.W.Frag} {as as' : Ads} {H H' : Hp}
theorem LsA.step {a : Addr} {xs : List V} (s : Step as as' H H') (h : LsA K as H a xs) : LsA K as' H' a xs := by
  rcases h with ⟨h | ⟨o, h⟩, n⟩ | h
  · exact .inl ⟨.inl (s.extH h n), s.notin h n⟩
  · exact .inl ⟨.inr ⟨o, s.extH h n⟩, s.notin h n⟩
  · exact .inr h
theorem TpA.step {a : Addr} {xs : List V} (s : Step as as' H H') (h : TpA K H a xs) : TpA K H' a xs := by
  rcases h with h | h
  · exact .inl (s.tup _ _ h)
  · exact .inr h
mutual
theorem DRep.step (s : Step as as' H H') : ∀ (d : D) (v : V), DRep K as H v d → DRep K as' H' v d
  | .non, _, h => by cases h; exact .non
  | .bl b, _, h => by cases h; exact .bl b
  | .int b, _, h => by cases h; exact .int b
  | .str b, _, h => by cases h; exact .str b
  | .tup ds, _, h => by
    cases h with
    | tup h z r => exact .tup (h.step s) z (DReps.step s ds _ r)
  | .lst ds, _, h => by
    cases h with
    | lst h n z r => exact .lst (s.extH h n) (s.notin h n) z (DReps.step s ds _ r)
  | .ro ds, _, h => by
    cases h with
    | ro h z r => exact .ro (h.step s) z (DReps.step s ds _ r)
  | .dic ds, _, h => by
    cases h with
    | dic h n z r =>
      rcases h with h | ⟨o, h⟩
      · exact .dic (.inl (s.extH h n)) (s.notin h n) z (KReps.step s ds _ r)
      · exact .dic (.inr ⟨o, s.extH h n⟩) (s.notin h n) z (KReps.step s ds _ r)
  | .mref i, _, h => by cases h
theorem DReps.step (s : Step as as' H H') : ∀ (ds : List D) (vs : List V), DReps K as H vs ds → DReps K as' H' vs ds
  | [], _, h => by cases h; exact .nil
  | d :: ds, _, h => by
    cases h with
    | cons h r => exact .cons (DRep.step s d _ h) (DReps.step s ds _ r)
theorem KReps.step (s : Step as as' H H') : ∀ (ds : List (Key × D)) (vs : List (Key × V)), KReps K as H vs ds → KReps K as' H' vs ds
  | [], _, h => by cases h; exact .nil
  | (k, d) :: ds, _, h => by
    cases h with
    | cons h r => exact .cons (DRep.step s d _ h) (KReps.step s ds _ r)
end
theorem DReps.length : ∀ {ds : List D} {vs : List V}, DReps K as H vs ds → vs.length = ds.length
  | [], _, h => by cases h; rfl
  | d :: ds, _, h => by
    cases h with
    | cons h r => simp [DReps.length r]
theorem KReps.length : ∀ {ds : List (Key × D)} {vs : List (Key × V)}, KReps K as H vs ds → vs.length = ds.length
  | [], _, h => by cases h; rfl
  | (k, d) :: ds, _, h => by
    cases h with
    | cons h r => simp [KReps.length r]
theorem DReps.get : ∀ {ds : List D} {vs : List V} {i : Nat} {d : D}, DReps K as H vs ds → ds[i]? = some d → ∃ v, vs[i]? = some v ∧ DRep K as H v d
  | [], _, _, _, h, e => by simp at e
  | d :: ds, _, 0, d', h, e => by
    cases h with
    | cons h r => simp at e; subst e; exact ⟨_, rfl, h⟩
  | d :: ds, _, i + 1, d', h, e => by
    cases h with
    | cons h r =>
      obtain ⟨v, e1, q⟩ := DReps.get (i := i) r (by simpa using e)
      exact ⟨v, by simpa using e1, q⟩
theorem DReps.getV : ∀ {ds : List D} {vs : List V} {i : Nat} {v : V}, DReps K as H vs ds → vs[i]? = some v → ∃ d, ds[i]? = some d ∧ DRep K as H v d
  | [], _, _, _, h, e => by cases h; simp at e
  | d :: ds, _, 0, v, h, e => by
    cases h with
    | cons h r => simp at e; subst e; exact ⟨_, rfl, h⟩
  | d :: ds, _, i + 1, v, h, e => by
    cases h with
    | cons h r =>
      obtain ⟨v, e1, q⟩ := DReps.getV (i := i) r (by simpa using e)
      exact ⟨v, by simpa using e1, q⟩
theorem DReps.append : ∀ {ds es : List D} {vs us : List V}, DReps K as H vs ds → DReps K as H us es → DReps K as H (vs ++ us) (ds ++ es)
  | [], _, _, _, h, q => by cases h; exact q
  | d :: ds, _, _, _, h, q => by
    cases h with
    | cons h r => exact .cons h (DReps.append r q)
theorem DReps.drop : ∀ {ds : List D} {vs : List V} (n : Nat), DReps K as H vs ds → DReps K as H (vs.drop n) (ds.drop n)
  | _, _, 0, h => h
  | [], _, n + 1, h => by cases h; exact .nil
  | d :: ds, _, n + 1, h => by
    cases h with
    | cons h r => exact DReps.drop n r
theorem DReps.take : ∀ {ds : List D} {vs : List V} (n : Nat), DReps K as H vs ds → DReps K as H (vs.take n) (ds.take n)
  | _, _, 0, h => by simp; exact .nil
  | [], _, n + 1, h => by cases h; exact .nil
  | d :: ds, _, n + 1, h => by
    cases h with
    | cons h r => exact .cons h (DReps.take n r)
theorem DReps.reverse : ∀ {ds : List D} {vs : List V}, DReps K as H vs ds → DReps K as H vs.reverse ds.reverse
  | [], _, h => by cases h; exact .nil
  | d :: ds, _, h => by
    cases h with
    | cons h r => rw [List.reverse_cons, List.reverse_cons]; exact DReps.append (DReps.reverse r) (.cons h .nil)
theorem DReps.eraseIdx : ∀ {ds : List D} {vs : List V} (n : Nat), DReps K as H vs ds → DReps K as H (vs.eraseIdx n) (ds.eraseIdx n)
  | [], _, n, h => by cases h; exact .nil
  | d :: ds, _, 0, h => by
    cases h with
    | cons h r => exact r
  | d :: ds, _, n + 1, h => by
    cases h with
    | cons h r => exact .cons h (DReps.eraseIdx n r)
theorem DReps.set {d : D} {v : V} (q : DRep K as H v d) : ∀ {ds : List D} {vs : List V} (n : Nat), DReps K as H vs ds → DReps K as H (vs.set n v) (ds.set n d)
  | [], _, n, h => by cases h; exact .nil
  | _ :: ds, _, 0, h => by
    cases h with
    | cons h r => exact .cons q r
  | _ :: ds, _, n + 1, h => by
    cases h with
    | cons h r => exact .cons h (DReps.set q n r)
end

/-- a store object at its address -/
def ORep (K : PySem.W.Frag) (as : Ads) (H : Hp) : Option Addr → O → Prop
  | some a, .lst ds => ∃ vs, H a = some (.lst vs) ∧ vs.length ≤ sizeLine ∧ DReps K as H vs ds
  | some a, .dic ds => ∃ kvs, H a = some (.dK kvs) ∧ kvs.length ≤ sizeLine ∧ KReps K as H kvs ds
  | none, .dead => True
  | _, _ => False
structure SRel (K : PySem.W.Frag) (as : Ads) (st : Sto) (H : Hp) : Prop where
  len : as.c.length = st.length
  nd : ∀ (i j : Nat) (a : Addr), as.c[i]? = some (some a) → as.c[j]? = some (some a) → i = j
  rep : ∀ (i : Nat) (o : O), st[i]? = some o → ∃ x, as.c[i]? = some x ∧ ORep K as H x o
  pr : ∀ a ∈ as.p, ∃ o, H a = some o
  dj : ∀ a ∈ as.p, some a ∉ as.c
/-- a value: by value, or a place of the store -/
def VRep (K : PySem.W.Frag) (as : Ads) (H : Hp) (v : V) : D → Prop
  | .mref i => i < as.c.length ∧ ∀ a, as.c[i]? = some (some a) → v = .ref a
  | d => DRep K as H v d
inductive VReps (K : PySem.W.Frag) (as : Ads) (H : Hp) : List V → List D → Prop
  | nil : VReps K as H [] []
  | cons {v : V} {d : D} {vs : List V} {ds : List D} : VRep K as H v d → VReps K as H vs ds → VReps K as H (v :: vs) (d :: ds)
structure ERep (K : PySem.W.Frag) (as : Ads) (H : Hp) (σ : L2.St) (env : Env) : Prop where
  len : σ.length = env.length
  get : ∀ (i : Nat) (d : D), env[i]? = some (some d) → ∃ v, σ[i]? = some (some v) ∧ VRep K as H v d
section
variable {K : PySem.W.Frag} {as as' : Ads} {H H' : Hp} {st : Sto} {v : V} {d : D}
theorem DRep.toV (h : DRep K as H v d) : VRep K as H v d := by
  cases d <;> first | exact h | cases h
theorem VRep.toD (h : VRep K as H v d) (n : d.isRef = false) : DRep K as H v d := by
  cases d <;> first | exact h | cases n
theorem VRep.step (s : Step as as' H H') (h : VRep K as H v d) : VRep K as' H' v d := by
  cases d with
  | mref i =>
    obtain ⟨l, h⟩ := h
    refine ⟨Nat.lt_of_lt_of_le l s.len, fun a e => ?_⟩
    cases q : as.c[i]? with
    | none => rw [List.getElem?_eq_none_iff] at q; omega
    | some x =>
      cases x with
      | none => rw [s.dead i q] at e; cases e
      | some b =>
        rcases s.old i b q with z | z
        · rw [z] at e; cases e; exact h _ q
        · rw [z] at e; cases e
  | _ => exact DRep.step s _ _ h
theorem VReps.step (s : Step as as' H H') : ∀ {ds : List D} {vs : List V}, VReps K as H vs ds → VReps K as' H' vs ds
  | _, _, .nil => .nil
  | _, _, .cons h r => .cons (h.step s) (VReps.step s r)
theorem VReps.ds : ∀ {ds : List D} {vs : List V}, VReps K as H vs ds → noRefs ds = true → DReps K as H vs ds
  | _, _, .nil, _ => .nil
  | _, _, .cons h r, n => by
    simp only [noRefs, Bool.and_eq_true, Bool.not_eq_true'] at n
    exact .cons (h.toD n.1) (VReps.ds r n.2)
theorem VReps.length : ∀ {ds : List D} {vs : List V}, VReps K as H vs ds → vs.length = ds.length
  | _, _, .nil => rfl
  | _, _, .cons h r => by simp [VReps.length r]
theorem VReps.append : ∀ {ds es : List D} {vs us : List V}, VReps K as H vs ds → VReps K as H us es → VReps K as H (vs ++ us) (ds ++ es)
  | _, _, _, _, .nil, q => q
  | _, _, _, _, .cons h r, q => .cons h (VReps.append r q)
theorem ERep.step {σ : L2.St} {env : Env} (s : Step as as' H H') (h : ERep K as H σ env) : ERep K as' H' σ env :=
  ⟨h.len, fun i d e => let ⟨v, e1, q⟩ := h.get i d e; ⟨v, e1, q.step s⟩⟩
theorem ERep.set {σ : L2.St} {env : Env} {i : Nat} (h : ERep K as H σ env) (q : VRep K as H v d) : ERep K as H (σ.set i (some v)) (env.set i (some d)) := by
  refine ⟨by simp [h.len], fun j e hj => ?_⟩
  by_cases hij : i = j
  · subst hij
    by_cases hl : i < env.length
    · rw [List.getElem?_set_self hl] at hj
      cases hj
      exact ⟨v, by rw [List.getElem?_set_self (by rw [h.len]; exact hl)], q⟩
    · rw [List.getElem?_eq_none (by simpa using hl)] at hj; cases hj
  · rw [List.getElem?_set_ne hij] at hj ⊢
    exact h.get j e hj
theorem ERep.wipe {σ : L2.St} {env : Env} (h : ERep K as H σ env) : ∀ vs : List Nat, ERep K as H (L2.wipe σ vs) (wipeD env vs)
  | [] => h
  | v :: vs => by
    have ih := ERep.wipe h vs
    refine ⟨by simp [L2.wipe, wipeD, ih.len], fun j e hj => ?_⟩
    unfold wipeD at hj
    unfold L2.wipe
    by_cases hij : v = j
    · subst hij
      by_cases hl : v < (wipeD env vs).length
      · rw [List.getElem?_set_self hl] at hj; cases hj
      · rw [List.getElem?_eq_none (by simpa using hl)] at hj; cases hj
    · rw [List.getElem?_set_ne hij] at hj ⊢
      exact ih.get j e hj

/-- the store's elements carried over a step that leaves them -/
theorem SRel.live (r : SRel K as st H) {i : Nat} {o : O} (h : st[i]? = some o) (n : o ≠ .dead) : ∃ a, as.c[i]? = some (some a) ∧ ORep K as H (some a) o := by
  obtain ⟨x, e, q⟩ := r.rep i o h
  cases x with
  | some a => exact ⟨a, e, q⟩
  | none =>
    cases o with
    | dead => exact absurd rfl n
    | lst ds => exact q.elim
    | dic ds => exact q.elim
theorem SRel.lst (r : SRel K as st H) {i : Nat} {ds : List D} (h : st[i]? = some (.lst ds)) : ∃ a vs, as.c[i]? = some (some a) ∧ H a = some (.lst vs) ∧ vs.length ≤ sizeLine ∧ DReps K as H vs ds := by
  obtain ⟨a, e, vs, q⟩ := r.live h (by intro z; cases z)
  exact ⟨a, vs, e, q⟩
theorem SRel.dic (r : SRel K as st H) {i : Nat} {ds : List (Key × D)} (h : st[i]? = some (.dic ds)) : ∃ a vs, as.c[i]? = some (some a) ∧ H a = some (.dK vs) ∧ vs.length ≤ sizeLine ∧ KReps K as H vs ds := by
  obtain ⟨a, e, vs, q⟩ := r.live h (by intro z; cases z)
  exact ⟨a, vs, e, q⟩
theorem SRel.mut (r : SRel K as st H) {a : Addr} (h : some a ∈ as.c) : (∃ vs, H a = some (.lst vs)) ∨ ∃ kvs, H a = some (.dK kvs) := by
  obtain ⟨i, hi, e⟩ := List.mem_iff_getElem.mp h
  have hs : i < st.length := by rw [← r.len]; exact hi
  obtain ⟨x, e1, q⟩ := r.rep i st[i] (List.getElem?_eq_getElem hs)
  rw [List.getElem?_eq_getElem hi, e] at e1
  cases e1
  cases hq : st[i] with
  | lst ds => rw [hq] at q; obtain ⟨vs, e, _⟩ := q; exact .inl ⟨vs, e⟩
  | dic ds => rw [hq] at q; obtain ⟨vs, e, _⟩ := q; exact .inr ⟨vs, e⟩
  | dead => rw [hq] at q; exact q.elim
/-- nothing tracked is changed -/
theorem SRel.same (r : SRel K as st H) (h : Same H H') : SRel K as st H' := by
  refine ⟨r.len, r.nd, fun i o e => ?_, fun a ha => let ⟨o, e⟩ := r.pr a ha; ⟨o, h a o e⟩, r.dj⟩
  obtain ⟨x, e1, q⟩ := r.rep i o e
  refine ⟨x, e1, ?_⟩
  cases x with
  | none => cases o <;> exact q
  | some a =>
    cases o with
    | lst ds => obtain ⟨vs, e, z, p⟩ := q; exact ⟨vs, h _ _ e, z, DReps.step (Step.same h) _ _ p⟩
    | dic ds => obtain ⟨vs, e, z, p⟩ := q; exact ⟨vs, h _ _ e, z, KReps.step (Step.same h) _ _ p⟩
    | dead => exact q

theorem VRep.int (h : VRep K as H v d) (r : SRel K as st H) {i : Int} (e : snap st d = .int i) : v = .int i := by
  cases d with
  | mref j => simp only [snap] at e; split at e <;> cases e
  | int k => cases e; cases h; rfl
  | _ => cases e
theorem VRep.str (h : VRep K as H v d) (r : SRel K as st H) {i : Str} (e : snap st d = .str i) : v = .str i := by
  cases d with
  | mref j => simp only [snap] at e; split at e <;> cases e
  | str k => cases e; cases h; rfl
  | _ => cases e
theorem VRep.bl (h : VRep K as H v d) (r : SRel K as st H) {i : Bool} (e : snap st d = .bl i) : v = .bl i := by
  cases d with
  | mref j => simp only [snap] at e; split at e <;> cases e
  | bl k => cases e; cases h; rfl
  | _ => cases e
theorem VRep.non (h : VRep K as H v d) (r : SRel K as st H) (e : snap st d = .non) : v = .non := by
  cases d with
  | mref j => simp only [snap] at e; split at e <;> cases e
  | non => cases h; rfl
  | _ => cases e
theorem VRep.tup (h : VRep K as H v d) (r : SRel K as st H) {ds : List D} (e : snap st d = .tup ds) : ∃ a vs, v = .ref a ∧ TpA K H a vs ∧ vs.length ≤ sizeLine ∧ DReps K as H vs ds := by
  cases d with
  | mref j => simp only [snap] at e; split at e <;> cases e
  | tup k =>
    cases e
    cases h with
    | tup h z q => exact ⟨_, _, rfl, h, z, q⟩
  | _ => cases e
theorem VRep.lst (h : VRep K as H v d) (r : SRel K as st H) {ds : List D} (e : snap st d = .lst ds) : ∃ a vs, v = .ref a ∧ H a = some (.lst vs) ∧ vs.length ≤ sizeLine ∧ DReps K as H vs ds := by
  cases d with
  | mref j =>
    simp only [snap] at e
    split at e
    · rename_i ds' hj
      cases e
      obtain ⟨a, vs, e1, q⟩ := r.lst hj
      exact ⟨a, vs, h.2 a e1, q.1, q.2⟩
    · cases e
    · cases e
  | lst k =>
    cases e
    cases h with
    | lst h n z q => exact ⟨_, _, rfl, h, z, q⟩
  | _ => cases e
theorem VRep.ro (h : VRep K as H v d) (r : SRel K as st H) {ds : List D} (e : snap st d = .ro ds) : ∃ a vs, v = .ref a ∧ SqL K H a vs ∧ vs.length ≤ sizeLine ∧ DReps K as H vs ds := by
  cases d with
  | mref j => simp only [snap] at e; split at e <;> cases e
  | ro k =>
    cases e
    cases h with
    | ro h z q => exact ⟨_, _, rfl, h.sq, z, q⟩
  | _ => cases e
theorem VRep.dic (h : VRep K as H v d) (r : SRel K as st H) {ds : List (Key × D)} (e : snap st d = .dic ds) : ∃ a vs, v = .ref a ∧ Rd H a (.dK vs) ∧ vs.length ≤ sizeLine ∧ KReps K as H vs ds := by
  cases d with
  | mref j =>
    simp only [snap] at e
    split at e
    · cases e
    · rename_i ds' hj
      cases e
      obtain ⟨a, vs, e1, q⟩ := r.dic hj
      exact ⟨a, vs, h.2 a e1, .inl q.1, q.2⟩
    · cases e
  | dic k =>
    cases e
    cases h with
    | dic h _ z q => exact ⟨_, _, rfl, h, z, q⟩
  | _ => cases e

mutual
theorem DRep.dp : ∀ (d : D) (v : V), DRep K as H v d → d.py.canLay0 = true → Dp K H v d.py
  | .non, _, h, _ => by cases h; exact .non
  | .bl b, _, h, _ => by cases h; exact .bl b
  | .int b, _, h, _ => by cases h; exact .int b
  | .str b, _, h, _ => by cases h; exact .str b
  | .tup ds, _, h, c => by
    cases h with
    | tup h z r =>
      simp only [D.py, PyData.canLay0] at c
      simp only [D.py]
      exact .tup h.sq (DReps.dp ds _ r c)
  | .lst ds, _, h, c => by
    cases h with
    | lst h _ z r =>
      simp only [D.py, PyData.canLay0] at c
      simp only [D.py]
      exact .lst (.inl (.inl h)) (DReps.dp ds _ r c)
  | .ro ds, _, h, c => by simp [D.py, PyData.canLay0] at c
  | .dic ds, _, h, c => by simp [D.py, PyData.canLay0] at c
  | .mref i, _, h, _ => by cases h
theorem DReps.dp : ∀ (ds : List D) (vs : List V), DReps K as H vs ds → PyData.canLayAll0 (D.pys ds) = true → DpAll K H vs (D.pys ds)
  | [], _, h, _ => by cases h; exact .nil
  | d :: ds, _, h, c => by
    cases h with
    | cons h r =>
      simp only [D.pys, PyData.canLayAll0, Bool.and_eq_true] at c
      simp only [D.pys]
      exact .cons (DRep.dp d _ h c.1) (DReps.dp ds _ r c.2)
end
theorem VRep.dp (h : VRep K as H v d) (r : SRel K as st H) (c : (snap st d).py.canLay0 = true) : Dp K H v (snap st d).py := by
  cases d with
  | mref j =>
    simp only [snap] at c ⊢
    split at c
    · rename_i ds hj
      obtain ⟨a, vs, e1, q⟩ := r.lst hj
      rw [h.2 a e1]
      simp only [D.py, PyData.canLay0] at c
      simp only [D.py]
      exact .lst (.inl (.inl q.1)) (DReps.dp ds _ q.2.2 c)
    · simp [D.py, PyData.canLay0] at c
    · simp [D.py, PyData.canLay0] at c
  | _ => exact DRep.dp _ _ h c
end
end En

set_option Elab.async false
set_option linter.all false
set_option maxRecDepth 100000
set_option maxHeartbeats 1000000
namespace En
open PySem PySem.Spec PyProof.Rows L2

theorem same_new {H : Hp} {p : Addr} {o : HO} (h : H p = none) : Same H (upd H p o) := fun b x e => by rw [upd_ne (ne_of_none e h)]; exact e
theorem SRel.fresh {K : PySem.W.Frag} {as : Ads} {st : Sto} {H : Hp} (r : SRel K as st H) {p : Addr} (h : H p = none) : ¬ as.Has p := fun m => by
  rcases m with m | m
  · rcases r.mut m with ⟨vs, e⟩ | ⟨vs, e⟩ <;> (rw [h] at e; cases e)
  · obtain ⟨o, e⟩ := r.pr p m
    rw [h] at e; cases e
theorem new_tup {K : PySem.W.Frag} {as : Ads} {H : Hp} {p : Addr} {vs : List V} {ds : List D} (hp : H p = none) (z : vs.length ≤ sizeLine) (r : DReps K as H vs ds) : DRep K as (upd H p (.tup vs)) (.ref p) (.tup ds) :=
  .tup (.inl upd_same) z (DReps.step (Step.same (same_new hp)) _ _ r)
theorem new_lst {K : PySem.W.Frag} {as : Ads} {st : Sto} {H : Hp} {p : Addr} {vs : List V} {ds : List D} (s : SRel K as st H) (hp : H p = none) (z : vs.length ≤ sizeLine) (r : DReps K as H vs ds) : DRep K as (upd H p (.lst vs)) (.ref p) (.lst ds) :=
  .lst upd_same (s.fresh hp) z (DReps.step (Step.same (same_new hp)) _ _ r)
theorem OpR.or' {X : Cx} {f : Value → Value → Sem Value} {r r' : R2} (h : OpR X f r) (h' : OpR X f r') : OpR X f (fun x y H Q => r x y H Q ∨ r' x y H Q) := by
  intro pins s σ H x y v u Q I rx ry z
  rcases z with z | z
  · exact h pins s σ H x y v u Q I rx ry z
  · exact h' pins s σ H x y v u Q I rx ry z
theorem LIM_eq : LIM = sizeLine := by decide

/-- a two-place operation by its data -/
def RO (K : PySem.W.Frag) (g : D → D → Res D) : R2 := fun x y H Q => ∃ as st dx dy d, SRel K as st H ∧ VRep K as H x dx ∧ VRep K as H y dy ∧ g (snap st dx) (snap st dy) = .ok d ∧ ∀ v H', Same H H' → DRep K as H' v d → Q v H'
def pyBin : BOp → Operator
  | .add => .Add
  | .sub => .Sub
  | .mul => .Mult
  | .fdiv => .FloorDiv
  | .mod => .Mod
  | .pow => .Pow
section
variable {X : Cx}
theorem op_powW : OpR X (binaryOp .Pow) (rI (fun i j => 0 ≤ j ∧ (Builtin.Int.intBits i : Int) * j ≤ 2 ^ 27) fun i j => .int (i ^ j.toNat)) := opI fun _ _ _ _ _ _ _ hc q => pow_int hc.1 hc.2 q
theorem op_bop (op : BOp) : OpR X (binaryOp (pyBin op)) (RO X.K (bop op)) := by
  intro pins s σ H x y v u Q I rx ry ⟨as, st, dx, dy, d, sr, hx, hy, e, q⟩
  have q0 : ∀ {v : V}, DRep X.K as H v d → Q v H := fun z => q _ _ (Same.refl H) z
  cases ex : snap st dx with
  | int i =>
    cases ey : snap st dy with
    | int j =>
      rw [ex, ey] at e
      have zx := hx.int sr ex
      have zy := hy.int sr ey
      subst zx zy
      cases op with
      | add => cases e; exact op_add pins s σ H _ _ v u Q I rx ry ⟨i, j, rfl, rfl, q0 (.int _)⟩
      | sub => cases e; exact op_sub pins s σ H _ _ v u Q I rx ry ⟨i, j, rfl, rfl, q0 (.int _)⟩
      | mul =>
        simp only [bop] at e
        split at e
        · rename_i h
          cases e; exact op_mulW pins s σ H _ _ v u Q I rx ry ⟨i, j, rfl, rfl, h, q0 (.int _)⟩
        · cases e
      | fdiv =>
        simp only [bop] at e
        split at e
        · rename_i h
          cases e; exact op_fdivW pins s σ H _ _ v u Q I rx ry ⟨i, j, rfl, rfl, h, q0 (.int _)⟩
        · cases e
      | mod =>
        simp only [bop] at e
        split at e
        · rename_i h
          cases e; exact op_mod pins s σ H _ _ v u Q I rx ry ⟨i, j, rfl, rfl, h, q0 (.int _)⟩
        · cases e
      | pow =>
        simp only [bop] at e
        split at e
        · rename_i h
          cases e; exact op_powW pins s σ H _ _ v u Q I rx ry ⟨i, j, rfl, rfl, h, q0 (.int _)⟩
        · cases e
    | _ => rw [ex, ey] at e; cases op <;> cases e
  | str i =>
    cases ey : snap st dy with
    | str j =>
      rw [ex, ey] at e
      have zx := hx.str sr ex
      have zy := hy.str sr ey
      subst zx zy
      cases op with
      | add =>
        simp only [bop] at e
        split at e
        · rename_i h
          cases e; exact op_add_str pins s σ H _ _ v u Q I rx ry ⟨i, j, rfl, rfl, by rw [← LIM_eq]; exact h, q0 (.str _)⟩
        · cases e
      | _ => cases e
    | _ => rw [ex, ey] at e; cases op <;> cases e
  | tup i =>
    cases ey : snap st dy with
    | tup j =>
      rw [ex, ey] at e
      cases op with
      | add =>
        simp only [bop] at e
        split at e
        · rename_i h
          cases e
          obtain ⟨a, vs, rfl, t1, z1, r1⟩ := hx.tup sr ex
          obtain ⟨b, us, rfl, t2, z2, r2⟩ := hy.tup sr ey
          have l1 := r1.length
          have l2 := r2.length
          have hz : vs.length + us.length ≤ sizeLine := by rw [l1, l2, ← LIM_eq]; exact h
          refine op_catA pins s σ H _ _ v u Q I rx ry ⟨a, b, vs, us, rfl, rfl, t1.sq, t2.sq, hz, fun e => ?_, fun _ e => ?_, fun _ _ p hp => ?_⟩
          · subst e
            cases r1
            exact q0 (.tup t2 z2 r2)
          · subst e
            cases r2
            rw [List.append_nil] at q0
            exact q0 (.tup t1 z1 r1)
          · exact q _ _ (same_new hp) (new_tup hp (by rw [List.length_append]; exact hz) (r1.append r2))
        · cases e
      | _ => cases e
    | _ => rw [ex, ey] at e; cases op <;> cases e
  | lst i =>
    cases ey : snap st dy with
    | lst j =>
      rw [ex, ey] at e
      cases op with
      | add =>
        simp only [bop] at e
        split at e
        · rename_i h
          cases e
          obtain ⟨a, vs, rfl, t1, z1, r1⟩ := hx.lst sr ex
          obtain ⟨b, us, rfl, t2, z2, r2⟩ := hy.lst sr ey
          have l1 := r1.length
          have l2 := r2.length
          have hz : vs.length + us.length ≤ sizeLine := by rw [l1, l2, ← LIM_eq]; exact h
          refine op_cat pins s σ H _ _ v u Q I rx ry ⟨a, b, vs, us, rfl, rfl, t1, t2, hz, fun p hp => ?_⟩
          exact q _ _ (same_new hp) (new_lst sr hp (by rw [List.length_append]; exact hz) (r1.append r2))
        · cases e
      | _ => cases e
    | _ => rw [ex, ey] at e; cases op <;> cases e
  | _ => rw [ex] at e; cases op <;> cases e
theorem un_negD : UnR X (unaryOp .USub) (fun x H Q => ∃ i, x = .int i ∧ Q (.int (-i)) H) := un_neg

def pyCmp : COp → CmpOp
  | .lt => .Lt
  | .le => .LtE
  | .gt => .Gt
  | .ge => .GtE
  | .eq => .Eq
  | .ne => .NotEq
  | .isin => .In
  | .notin => .NotIn
  | .isNone => .Is
  | .notNone => .IsNot
def copD (op : COp) (a b : D) : Res D := (cop op a b).bind fun r => .ok (.bl r)
theorem op_inTup (hu : X.A.units + 65 < cLine) : OpR X (compareOp .In) (fun x y H Q => ∃ d ds, Dp X.K H x d ∧ Dp X.K H y (.tuple ds) ∧ SeqAt.shaped d = true ∧ SeqAt.shaped (.tuple ds) = true ∧ Q (.bl (ds.any fun z => PyData.eqv z d)) H) := by
  intro pins s σ H x y v u Q I rx ry ⟨d, ds, hd, he, sd, se, q⟩
  obtain ⟨as, r1⟩ := Dp.reads I d x v hd rx
  obtain ⟨bs, r2⟩ := Dp.reads I (.tuple ds) y u he ry
  exact SeqAt.in_tuple_reads r2 r1 (SeqAt.canLay_of_shaped se) (SeqAt.canLay_of_shaped sd) (room_in_shaped sd hu) ⟨.bl _, H, I, rfl, q⟩
theorem op_notInTup (hu : X.A.units + 65 < cLine) : OpR X (compareOp .NotIn) (fun x y H Q => ∃ d ds, Dp X.K H x d ∧ Dp X.K H y (.tuple ds) ∧ SeqAt.shaped d = true ∧ SeqAt.shaped (.tuple ds) = true ∧ Q (.bl (!ds.any fun z => PyData.eqv z d)) H) := by
  intro pins s σ H x y v u Q I rx ry ⟨d, ds, hd, he, sd, se, q⟩
  obtain ⟨as, r1⟩ := Dp.reads I d x v hd rx
  obtain ⟨bs, r2⟩ := Dp.reads I (.tuple ds) y u he ry
  exact SeqAt.notIn_tuple_reads r2 r1 (SeqAt.canLay_of_shaped se) (SeqAt.canLay_of_shaped sd) (room_in_shaped sd hu) ⟨.bl _, H, I, rfl, q⟩
theorem pys_any (p : PyData → Bool) : ∀ ds : List D, (D.pys ds).any p = ds.any fun z => p z.py
  | [] => rfl
  | d :: r => by simp only [D.pys, List.any_cons, pys_any p r]
end
end En

set_option Elab.async false
set_option linter.all false
set_option maxRecDepth 100000
set_option maxHeartbeats 1000000
namespace En
open PySem PySem.Spec PyProof.Rows L2
section
variable {K : PySem.W.Frag} {as : Ads} {H : Hp} {st : Sto} {v : V} {d : D}
theorem key_of_keyOf {k : Key} (h : VRep K as H v d) (r : SRel K as st H) (e : keyOf (snap st d) = some k) : v = kV k := by
  cases q : snap st d with
  | int i => rw [q] at e; cases e; exact h.int r q
  | str i => rw [q] at e; cases e; exact h.str r q
  | _ => rw [q] at e; cases e
theorem KReps.get : ∀ {ds : List (Key × D)} {vs : List (Key × V)} {k : Key}, KReps K as H vs ds → (∀ d, dget ds k = some d → ∃ v, valV vs k = some v ∧ DRep K as H v d) ∧ (dget ds k = none → valV vs k = none)
  | [], _, k, h => by cases h; exact ⟨fun d e => by simp [dget] at e, fun _ => rfl⟩
  | (k', d') :: ds, _, k, h => by
    cases h with
    | cons h r =>
      obtain ⟨i1, i2⟩ := KReps.get (k := k) r
      by_cases e : k' = k
      · subst e
        refine ⟨fun d q => ?_, fun q => ?_⟩
        · simp [dget] at q
          subst q
          exact ⟨_, by simp [valV], h⟩
        · simp [dget] at q
      · have e1 : dget ((k', d') :: ds) k = dget ds k := by simp [dget, e]
        have e2 : ∀ {v : V} {vs : List (Key × V)}, valV ((k', v) :: vs) k = valV vs k := by simp [valV, e]
        rw [e1, e2]
        exact ⟨i1, i2⟩
end
section
variable {X : Cx}
theorem isN_of {K : PySem.W.Frag} {as : Ads} {H : Hp} {v : V} {d : D} (h : DRep K as H v d) : decide (v = .non) = (match d with | .non => true | _ => false) := by
  cases h <;> simp
theorem op_dictIn (hu : X.A.units + 1 < cLine) : OpR X (compareOp .In) (fun y x H Q => ∃ a o, x = .ref a ∧ DGet H a y o ∧ Q (.bl o.isSome) H) := by
  intro pins s σ H y x v u Q I ry rx ⟨a, o, ex, g, q⟩
  subst ex
  obtain rfl : u = Value.ref a := rx
  exact d_in hu I g ry fun s3 I3 => ⟨.bl o.isSome, H, I3, rfl, q⟩
theorem op_dictNotIn (hu : X.A.units + 1 < cLine) : OpR X (compareOp .NotIn) (fun y x H Q => ∃ a o, x = .ref a ∧ DGet H a y o ∧ Q (.bl (!o.isSome)) H) := by
  intro pins s σ H y x v u Q I ry rx ⟨a, o, ex, g, q⟩
  subst ex
  obtain rfl : u = Value.ref a := rx
  exact d_notIn hu I g ry fun s3 I3 => ⟨.bl (!o.isSome), H, I3, rfl, q⟩
theorem in_data (hu : X.A.units + 65 < cLine) {neg : Bool} : OpR X (compareOp (if neg then .NotIn else .In)) (RO X.K fun a b => (isin a b).bind fun r => .ok (.bl (if neg then !r else r))) := by
  intro pins s σ H x y v u Q I rx ry ⟨as, st, dx, dy, d, sr, hx, hy, e, q⟩
  obtain ⟨r, e1, e2⟩ := Res.bind_ok e
  cases e2
  have q0 : Q (.bl (if neg then !r else r)) H := q _ _ (Same.refl H) (.bl _)
  cases ey : snap st dy with
  | lst ds =>
    rw [ey] at e1
    have e1' : (if SeqAt.shaped (snap st dx).py && SeqAt.shaped (D.lst ds).py then Res.ok (ds.any fun z => PyData.eqv z.py (snap st dx).py) else .bad) = .ok r := by
      cases hq : snap st dx <;> (rw [hq] at e1; exact e1)
    split at e1'
    · rename_i hs
      rw [Bool.and_eq_true] at hs
      cases e1'
      have p1 := hx.dp sr (SeqAt.canLay_of_shaped hs.1)
      have p2 := hy.dp sr (by rw [ey]; exact SeqAt.canLay_of_shaped hs.2)
      rw [ey] at p2
      have p2' : Dp X.K H y (.list (D.pys ds)) := by simpa only [D.py] using p2
      have s2 : SeqAt.shaped (.list (D.pys ds)) = true := by simpa only [D.py] using hs.2
      cases neg with
      | false => exact op_inD hu pins s σ H x y v u Q I rx ry ⟨_, _, p1, p2', hs.1, s2, by rw [pys_any]; exact q0⟩
      | true => exact op_notInD hu pins s σ H x y v u Q I rx ry ⟨_, _, p1, p2', hs.1, s2, by rw [pys_any]; exact q0⟩
    · cases e1'
  | tup ds =>
    rw [ey] at e1
    have e1' : (if SeqAt.shaped (snap st dx).py && SeqAt.shaped (D.tup ds).py then Res.ok (ds.any fun z => PyData.eqv z.py (snap st dx).py) else .bad) = .ok r := by
      cases hq : snap st dx <;> (rw [hq] at e1; exact e1)
    split at e1'
    · rename_i hs
      rw [Bool.and_eq_true] at hs
      cases e1'
      have p1 := hx.dp sr (SeqAt.canLay_of_shaped hs.1)
      have p2 := hy.dp sr (by rw [ey]; exact SeqAt.canLay_of_shaped hs.2)
      rw [ey] at p2
      have p2' : Dp X.K H y (.tuple (D.pys ds)) := by simpa only [D.py] using p2
      have s2 : SeqAt.shaped (.tuple (D.pys ds)) = true := by simpa only [D.py] using hs.2
      cases neg with
      | false => exact op_inTup hu pins s σ H x y v u Q I rx ry ⟨_, _, p1, p2', hs.1, s2, by rw [pys_any]; exact q0⟩
      | true => exact op_notInTup hu pins s σ H x y v u Q I rx ry ⟨_, _, p1, p2', hs.1, s2, by rw [pys_any]; exact q0⟩
    · cases e1'
  | str z =>
    rw [ey] at e1
    cases hq : snap st dx with
    | str c =>
      rw [hq] at e1
      simp only [isin] at e1
      split at e1
      · rename_i c' hc
        cases e1
        have z1 := hx.str sr hq
        have z2 := hy.str sr ey
        subst z1 z2
        have ec : c = ⟨#[c']⟩ := by
          cases c with
          | mk cps =>
            have : cps.toList = [c'] := hc
            have : cps = #[c'] := by rw [← Array.toList_inj]; simpa using this
            rw [this]
        subst ec
        cases neg with
        | false => exact op_in_sign pins s σ H _ _ v u Q I rx ry ⟨c', z, rfl, rfl, q0⟩
        | true => exact op_notIn_sign pins s σ H _ _ v u Q I rx ry ⟨c', z, rfl, rfl, q0⟩
      · cases e1
    | _ => rw [hq] at e1; cases e1
  | dic kvs =>
    rw [ey] at e1
    have e1' : (match keyOf (snap st dx) with | some k => Res.ok (dget kvs k).isSome | none => .bad) = .ok r := by
      cases hq : snap st dx <;> (rw [hq] at e1; exact e1)
    split at e1'
    · rename_i k hk
      cases e1'
      have ex := key_of_keyOf hx sr hk
      subst ex
      obtain ⟨a, vs, rfl, h1, h2, h3⟩ := hy.dic sr ey
      have g : DGet H a (kV k) (valV vs k) := .inl ⟨vs, k, h1, rfl, rfl⟩
      have eo : (valV vs k).isSome = (dget kvs k).isSome := by
        obtain ⟨i1, i2⟩ := h3.get (k := k)
        cases hg : dget kvs k with
        | none => rw [i2 hg]; rfl
        | some d => obtain ⟨v, e, _⟩ := i1 d hg; rw [e]; rfl
      rw [← eo] at q0
      cases neg with
      | false => exact op_dictIn (by omega) pins s σ H _ _ v u Q I rx ry ⟨a, _, rfl, g, q0⟩
      | true => exact op_dictNotIn (by omega) pins s σ H _ _ v u Q I rx ry ⟨a, _, rfl, g, q0⟩
    · cases e1'
  | _ =>
    exfalso
    rw [ey] at e1
    cases hq : snap st dx <;> (rw [hq] at e1; cases e1)
theorem op_cop (hu : X.A.units + 65 < cLine) (op : COp) : OpR X (compareOp (pyCmp op)) (RO X.K (copD op)) := by
  cases op with
  | isin => exact in_data (neg := false) hu
  | notin =>
    have h := in_data (X := X) (neg := true) hu
    intro pins s σ H x y v u Q I rx ry ⟨as, st, dx, dy, d, sr, hx, hy, e, q⟩
    refine h pins s σ H x y v u Q I rx ry ⟨as, st, dx, dy, d, sr, hx, hy, ?_, q⟩
    simp only [copD, cop] at e
    cases hi : isin (snap st dx) (snap st dy) with
    | ok r => rw [hi] at e; show (isin (snap st dx) (snap st dy)).bind _ = _; rw [hi]; exact e
    | exc c d st => rw [hi] at e; cases e
    | bad => rw [hi] at e; cases e
  | eq =>
    intro pins s σ H x y v u Q I rx ry ⟨as, st, dx, dy, d, sr, hx, hy, e, q⟩
    simp only [copD, cop] at e
    split at e
    · rename_i hs
      rw [Bool.and_eq_true] at hs
      cases e
      exact op_eqD (by omega) pins s σ H x y v u Q I rx ry ⟨_, _, hx.dp sr (SeqAt.canLay_of_shaped hs.1), hy.dp sr (SeqAt.canLay_of_shaped hs.2), hs.1, hs.2, q _ _ (Same.refl H) (.bl _)⟩
    · cases e
  | ne =>
    intro pins s σ H x y v u Q I rx ry ⟨as, st, dx, dy, d, sr, hx, hy, e, q⟩
    simp only [copD, cop] at e
    split at e
    · rename_i hs
      rw [Bool.and_eq_true] at hs
      cases e
      exact op_neD (by omega) pins s σ H x y v u Q I rx ry ⟨_, _, hx.dp sr (SeqAt.canLay_of_shaped hs.1), hy.dp sr (SeqAt.canLay_of_shaped hs.2), hs.1, hs.2, q _ _ (Same.refl H) (.bl _)⟩
    · cases e
  | isNone =>
    intro pins s σ H x y v u Q I rx ry ⟨as, st, dx, dy, d, sr, hx, hy, e, q⟩
    have key : ∀ {r : Bool}, d = .bl r → snap st dy = .non → decide (x = .non) = r → wpAny (model X.prog X.w) X.A (compareOp .Is v u) (EP X pins σ Q) X.xe s := fun {r} e1 e2 e3 => by
      subst e1
      have ey := hy.non sr e2
      subst ey
      exact op_isN pins s σ H _ _ v u Q I rx ry ⟨rfl, by rw [e3]; exact q _ _ (Same.refl H) (.bl _)⟩
    cases hy' : snap st dy with
    | non =>
      rw [hy'] at e
      cases hq : snap st dx with
      | mref i => rw [hq] at e; cases e
      | non => rw [hq] at e; cases e; exact key rfl hy' (by rw [hx.non sr hq]; rfl)
      | int i => rw [hq] at e; cases e; exact key rfl hy' (by rw [hx.int sr hq]; rfl)
      | str i => rw [hq] at e; cases e; exact key rfl hy' (by rw [hx.str sr hq]; rfl)
      | bl i => rw [hq] at e; cases e; exact key rfl hy' (by rw [hx.bl sr hq]; rfl)
      | tup i => rw [hq] at e; cases e; obtain ⟨a, _, z, _⟩ := hx.tup sr hq; exact key rfl hy' (by rw [z]; rfl)
      | lst i => rw [hq] at e; cases e; obtain ⟨a, _, z, _⟩ := hx.lst sr hq; exact key rfl hy' (by rw [z]; rfl)
      | ro i => rw [hq] at e; cases e; obtain ⟨a, _, z, _⟩ := hx.ro sr hq; exact key rfl hy' (by rw [z]; rfl)
      | dic i => rw [hq] at e; cases e; obtain ⟨a, _, z, _⟩ := hx.dic sr hq; exact key rfl hy' (by rw [z]; rfl)
    | _ => rw [hy'] at e; cases hq : snap st dx <;> (rw [hq] at e; cases e)
  | notNone =>
    intro pins s σ H x y v u Q I rx ry ⟨as, st, dx, dy, d, sr, hx, hy, e, q⟩
    have key : ∀ {r : Bool}, d = .bl r → snap st dy = .non → (!decide (x = .non)) = r → wpAny (model X.prog X.w) X.A (compareOp .IsNot v u) (EP X pins σ Q) X.xe s := fun {r} e1 e2 e3 => by
      subst e1
      have ey := hy.non sr e2
      subst ey
      exact op_notN pins s σ H _ _ v u Q I rx ry ⟨rfl, by rw [e3]; exact q _ _ (Same.refl H) (.bl _)⟩
    cases hy' : snap st dy with
    | non =>
      rw [hy'] at e
      cases hq : snap st dx with
      | mref i => rw [hq] at e; cases e
      | non => rw [hq] at e; cases e; exact key rfl hy' (by rw [hx.non sr hq]; rfl)
      | int i => rw [hq] at e; cases e; exact key rfl hy' (by rw [hx.int sr hq]; rfl)
      | str i => rw [hq] at e; cases e; exact key rfl hy' (by rw [hx.str sr hq]; rfl)
      | bl i => rw [hq] at e; cases e; exact key rfl hy' (by rw [hx.bl sr hq]; rfl)
      | tup i => rw [hq] at e; cases e; obtain ⟨a, _, z, _⟩ := hx.tup sr hq; exact key rfl hy' (by rw [z]; rfl)
      | lst i => rw [hq] at e; cases e; obtain ⟨a, _, z, _⟩ := hx.lst sr hq; exact key rfl hy' (by rw [z]; rfl)
      | ro i => rw [hq] at e; cases e; obtain ⟨a, _, z, _⟩ := hx.ro sr hq; exact key rfl hy' (by rw [z]; rfl)
      | dic i => rw [hq] at e; cases e; obtain ⟨a, _, z, _⟩ := hx.dic sr hq; exact key rfl hy' (by rw [z]; rfl)
    | _ => rw [hy'] at e; cases hq : snap st dx <;> (rw [hq] at e; cases e)
  | lt =>
    intro pins s σ H x y v u Q I rx ry ⟨as, st, dx, dy, d, sr, hx, hy, e, q⟩
    cases hq : snap st dx with
    | int i =>
      cases hq2 : snap st dy with
      | int j =>
        rw [hq, hq2] at e
        cases e
        have z1 := hx.int sr hq
        have z2 := hy.int sr hq2
        subst z1 z2
        exact op_lt pins s σ H _ _ v u Q I rx ry ⟨i, j, rfl, rfl, q _ _ (Same.refl H) (.bl _)⟩
      | _ => rw [hq, hq2] at e; cases e
    | str i =>
      cases hq2 : snap st dy with
      | str j =>
        rw [hq, hq2] at e
        cases e
        have z1 := hx.str sr hq
        have z2 := hy.str sr hq2
        subst z1 z2
        exact op_lt_str pins s σ H _ _ v u Q I rx ry ⟨i, j, rfl, rfl, q _ _ (Same.refl H) (.bl _)⟩
      | _ => rw [hq, hq2] at e; cases e
    | _ => rw [hq] at e; cases e
  | le =>
    intro pins s σ H x y v u Q I rx ry ⟨as, st, dx, dy, d, sr, hx, hy, e, q⟩
    cases hq : snap st dx with
    | int i =>
      cases hq2 : snap st dy with
      | int j =>
        rw [hq, hq2] at e
        cases e
        have z1 := hx.int sr hq
        have z2 := hy.int sr hq2
        subst z1 z2
        exact op_le pins s σ H _ _ v u Q I rx ry ⟨i, j, rfl, rfl, q _ _ (Same.refl H) (.bl _)⟩
      | _ => rw [hq, hq2] at e; cases e
    | _ => rw [hq] at e; cases e
  | gt =>
    intro pins s σ H x y v u Q I rx ry ⟨as, st, dx, dy, d, sr, hx, hy, e, q⟩
    cases hq : snap st dx with
    | int i =>
      cases hq2 : snap st dy with
      | int j =>
        rw [hq, hq2] at e
        cases e
        have z1 := hx.int sr hq
        have z2 := hy.int sr hq2
        subst z1 z2
        exact op_gt pins s σ H _ _ v u Q I rx ry ⟨i, j, rfl, rfl, q _ _ (Same.refl H) (.bl _)⟩
      | _ => rw [hq, hq2] at e; cases e
    | _ => rw [hq] at e; cases e
  | ge =>
    intro pins s σ H x y v u Q I rx ry ⟨as, st, dx, dy, d, sr, hx, hy, e, q⟩
    cases hq : snap st dx with
    | int i =>
      cases hq2 : snap st dy with
      | int j =>
        rw [hq, hq2] at e
        cases e
        have z1 := hx.int sr hq
        have z2 := hy.int sr hq2
        subst z1 z2
        exact op_ge pins s σ H _ _ v u Q I rx ry ⟨i, j, rfl, rfl, q _ _ (Same.refl H) (.bl _)⟩
      | _ => rw [hq, hq2] at e; cases e
    | _ => rw [hq] at e; cases e
end
end En

set_option Elab.async false
set_option linter.all false
set_option maxRecDepth 100000
set_option maxHeartbeats 1000000
namespace En
open PySem PySem.Spec PyProof.Rows L2

/-- a built-in by its data -/
def RB (K : PySem.W.Frag) (b : B) : List V → Hp → VK → Prop := fun vs H Q => ∃ as st ds d, SRel K as st H ∧ VReps K as H vs ds ∧ bi b (ds.map (snap st)) = .ok d ∧ ∀ v H', Same H H' → DRep K as H' v d → Q v H'
section
variable {K : PySem.W.Frag} {as : Ads} {H : Hp} {st : Sto}
theorem VReps.one {vs : List V} {d : D} (h : VReps K as H vs [d]) : ∃ v, vs = [v] ∧ VRep K as H v d := by
  cases h with
  | cons h r => cases r; exact ⟨_, rfl, h⟩
theorem VReps.two {vs : List V} {d e : D} (h : VReps K as H vs [d, e]) : ∃ v u, vs = [v, u] ∧ VRep K as H v d ∧ VRep K as H u e := by
  cases h with
  | cons h r => obtain ⟨u, rfl, q⟩ := r.one; exact ⟨_, _, rfl, h, q⟩
theorem DReps.bools : ∀ {ds : List D} {vs : List V} {bs : List Bool}, DReps K as H vs ds → boolsD ds = some bs → vs = bs.map V.bl
  | [], _, bs, h, e => by cases h; simp [boolsD] at e; subst e; rfl
  | .bl b :: ds, _, bs, h, e => by
    cases h with
    | cons h r =>
      simp only [boolsD, Option.map_eq_some_iff] at e
      obtain ⟨bs', e1, rfl⟩ := e
      cases h
      rw [DReps.bools r e1]; rfl
  | .non :: _, _, _, _, e => by simp [boolsD] at e
  | .int _ :: _, _, _, _, e => by simp [boolsD] at e
  | .str _ :: _, _, _, _, e => by simp [boolsD] at e
  | .tup _ :: _, _, _, _, e => by simp [boolsD] at e
  | .lst _ :: _, _, _, _, e => by simp [boolsD] at e
  | .ro _ :: _, _, _, _, e => by simp [boolsD] at e
  | .dic _ :: _, _, _, _, e => by simp [boolsD] at e
  | .mref _ :: _, _, _, _, e => by simp [boolsD] at e
theorem DReps.ints : ∀ {ds : List D} {vs : List V} {bs : List Int}, DReps K as H vs ds → intsD ds = some bs → vs = bs.map V.int
  | [], _, bs, h, e => by cases h; simp [intsD] at e; subst e; rfl
  | .int b :: ds, _, bs, h, e => by
    cases h with
    | cons h r =>
      simp only [intsD, Option.map_eq_some_iff] at e
      obtain ⟨bs', e1, rfl⟩ := e
      cases h
      rw [DReps.ints r e1]; rfl
  | .non :: _, _, _, _, e => by simp [intsD] at e
  | .bl _ :: _, _, _, _, e => by simp [intsD] at e
  | .str _ :: _, _, _, _, e => by simp [intsD] at e
  | .tup _ :: _, _, _, _, e => by simp [intsD] at e
  | .lst _ :: _, _, _, _, e => by simp [intsD] at e
  | .ro _ :: _, _, _, _, e => by simp [intsD] at e
  | .dic _ :: _, _, _, _, e => by simp [intsD] at e
  | .mref _ :: _, _, _, _, e => by simp [intsD] at e
theorem DReps.strs : ∀ {ds : List D} {vs : List V} {bs : List Str}, DReps K as H vs ds → strsD ds = some bs → vs = bs.map V.str
  | [], _, bs, h, e => by cases h; simp [strsD] at e; subst e; rfl
  | .str b :: ds, _, bs, h, e => by
    cases h with
    | cons h r =>
      simp only [strsD, Option.map_eq_some_iff] at e
      obtain ⟨bs', e1, rfl⟩ := e
      cases h
      rw [DReps.strs r e1]; rfl
  | .non :: _, _, _, _, e => by simp [strsD] at e
  | .bl _ :: _, _, _, _, e => by simp [strsD] at e
  | .int _ :: _, _, _, _, e => by simp [strsD] at e
  | .tup _ :: _, _, _, _, e => by simp [strsD] at e
  | .lst _ :: _, _, _, _, e => by simp [strsD] at e
  | .ro _ :: _, _, _, _, e => by simp [strsD] at e
  | .dic _ :: _, _, _, _, e => by simp [strsD] at e
  | .mref _ :: _, _, _, _, e => by simp [strsD] at e
theorem DReps.ofStrs : ∀ bs : List Str, DReps K as H (bs.map V.str) (bs.map D.str)
  | [] => .nil
  | b :: bs => .cons (.str b) (DReps.ofStrs bs)
theorem KReps.strKeys : ∀ {ds : List (Key × D)} {vs : List (Key × V)} {bs : List Str}, KReps K as H vs ds → strKeys ds = some bs → vs.map (·.1) = bs.map Sum.inr
  | [], _, bs, h, e => by cases h; simp [En.strKeys] at e; subst e; rfl
  | (.inr b, _) :: ds, _, bs, h, e => by
    cases h with
    | cons h r =>
      simp only [En.strKeys, Option.map_eq_some_iff] at e
      obtain ⟨bs', e1, rfl⟩ := e
      simp [KReps.strKeys r e1]
  | (.inl _, _) :: _, _, _, _, e => by simp [En.strKeys] at e
end
def leStr (i j : Str) : Prop := ¬ (j.cps.toList < i.cps.toList)
theorem ltStr_iff {i j : Str} : ltStr i j = true ↔ i.cps.toList < j.cps.toList := by simp [ltStr]
theorem Str.ext' {i j : Str} (h : i.cps.toList = j.cps.toList) : i = j := by
  cases i; cases j
  simp only at h
  congr
  exact Array.toList_inj.mp h
theorem leStr_antisymm {i j : Str} (h1 : leStr i j) (h2 : leStr j i) : i = j := Str.ext' (List.le_antisymm (List.not_lt.mp h1) (List.not_lt.mp h2))
theorem leStr_trans {i j k : Str} (h1 : leStr i j) (h2 : leStr j k) : leStr i k := List.not_lt.mpr (List.le_trans (List.not_lt.mp h1) (List.not_lt.mp h2))
theorem leStr_of_lt {i j : Str} (h : i.cps.toList < j.cps.toList) : leStr i j := fun h2 => List.lt_irrefl _ (List.lt_trans h h2)
theorem insS_perm (x : Str) : ∀ l : List Str, (insS x l).Perm (x :: l)
  | [] => .refl _
  | y :: r => by
    unfold insS
    split
    · exact .refl _
    · exact ((insS_perm x r).cons y).trans (.swap x y r)
theorem insS_sorted {x : Str} : ∀ {l : List Str}, l.Pairwise leStr → (insS x l).Pairwise leStr
  | [], _ => by simp [insS]
  | y :: r, h => by
    obtain ⟨h1, h2⟩ := List.pairwise_cons.mp h
    unfold insS
    split
    · rename_i hx
      have hxy : leStr x y := leStr_of_lt (ltStr_iff.mp hx)
      refine List.pairwise_cons.mpr ⟨fun z hz => ?_, h⟩
      rcases List.mem_cons.mp hz with rfl | hz
      · exact hxy
      · exact leStr_trans hxy (h1 z hz)
    · rename_i hx
      have hyx : leStr y x := fun z => hx (ltStr_iff.mpr z)
      refine List.pairwise_cons.mpr ⟨fun z hz => ?_, insS_sorted h2⟩
      rcases List.mem_cons.mp ((insS_perm x r).mem_iff.mp hz) with rfl | hz
      · exact hyx
      · exact h1 z hz
theorem sortS_go (l : List Str) : ∀ acc : List Str, acc.Pairwise leStr → (l.foldl (fun acc x => insS x acc) acc).Pairwise leStr ∧ (l.foldl (fun acc x => insS x acc) acc).Perm (l ++ acc) := by
  induction l with
  | nil => intro acc h; exact ⟨h, .refl _⟩
  | cons x l ih =>
    intro acc h
    obtain ⟨h1, h2⟩ := ih (insS x acc) (insS_sorted h)
    refine ⟨h1, h2.trans ?_⟩
    have := (insS_perm x acc).append_left l
    exact this.trans (by simpa using List.perm_middle)
theorem sortS_sorted (l : List Str) : (sortS l).Pairwise leStr := (sortS_go l [] .nil).1
theorem sortS_perm (l : List Str) : (sortS l).Perm l := by have := (sortS_go l [] .nil).2; rw [List.append_nil] at this; exact this
theorem sorted_uniq : ∀ {l m : List Str}, l.Pairwise leStr → m.Pairwise leStr → l.Perm m → l = m
  | [], m, _, _, p => by rw [List.nil_perm.mp p]
  | x :: l, [], _, _, p => by have := p.length_eq; simp at this
  | x :: l, y :: m, h1, h2, p => by
    obtain ⟨a1, a2⟩ := List.pairwise_cons.mp h1
    obtain ⟨b1, b2⟩ := List.pairwise_cons.mp h2
    have exy : x = y := by
      rcases List.mem_cons.mp (p.mem_iff.mp (List.mem_cons_self (a := x))) with e | e
      · exact e
      · rcases List.mem_cons.mp (p.mem_iff.mpr (List.mem_cons_self (a := y))) with e2 | e2
        · exact e2.symm
        · exact leStr_antisymm (a1 y e2) (b1 x e)
    subst exy
    rw [sorted_uniq a2 b2 (p.cons_inv)]
theorem ltCps_iff : ∀ a b : List Nat, ltCps a b = true ↔ a < b := by
  intro a b
  induction a generalizing b with
  | nil => cases b <;> simp [ltCps]
  | cons x a ih =>
    cases b with
    | nil => simp [ltCps]
    | cons y b =>
      simp only [ltCps, List.cons_lt_cons_iff]
      by_cases h : x = y
      · subst h; simp [ih]
      · have : (x == y) = false := by simpa using h
        simp [this, h]
theorem sortedS_pairwise : ∀ {l : List Str}, sortedS l = true → l.Pairwise leStr
  | [], _ => .nil
  | [x], _ => by simp
  | x :: y :: r, h => by
    simp only [sortedS, risingS, Bool.and_eq_true, Bool.not_eq_true'] at h
    have h1 : leStr x y := fun z => by rw [(ltCps_iff _ _).mpr z] at h; exact absurd h.1 (by simp)
    have ih : (y :: r).Pairwise leStr := sortedS_pairwise (by simpa [sortedS] using h.2)
    refine List.pairwise_cons.mpr ⟨fun z hz => ?_, ih⟩
    rcases List.mem_cons.mp hz with rfl | hz
    · exact h1
    · exact leStr_trans h1 ((List.pairwise_cons.mp ih).1 z hz)
theorem sortS_eq {l m : List Str} (p : m.Perm l) (h : sortedS m = true) : m = sortS l := sorted_uniq (sortedS_pairwise h) (sortS_sorted l) (p.trans (sortS_perm l).symm)
section
variable {X : Cx}
/-- what a one-place built-in is asked -/
theorem rb1 {b : B} {f : Value} (hb : ∀ (d0 d1 : D) (r : List D), bi b [] = .bad ∧ bi b (d0 :: d1 :: r) = .bad)
    (h : ∀ (pins : List (Addr × Obj)) (s : Shared) (σ : L2.St) (H : Hp) (x : V) (u : Value) (Q : VK) (as : Ads) (st : Sto) (d0 d : D), Inv X pins σ H s → RelV x u → SRel X.K as st H → VRep X.K as H x d0 → bi b [snap st d0] = .ok d →
      (∀ v H', Same H H' → DRep X.K as H' v d → Q v H') → wpAny (model X.prog X.w) X.A (call f [u]) (EP X pins σ Q) X.xe s) : CallR X f (RB X.K b) := by
  intro pins s σ H xs us Q I r ⟨as, st, ds, d, sr, hv, e, q⟩
  match ds, hv, e with
  | [], hv, e => rw [List.map_nil, (hb .non .non []).1] at e; cases e
  | d0 :: d1 :: ds, hv, e => rw [List.map_cons, List.map_cons, (hb _ _ _).2] at e; cases e
  | [d0], hv, e =>
    obtain ⟨x, rfl, hx⟩ := hv.one
    obtain ⟨u, rfl, rx⟩ := vals1 r
    exact h pins s σ H x u Q as st d0 d I rx sr hx e q
theorem vals_one {x : V} {u : Value} (r : RelV x u) : Vals [x] [u] := .cons r .nil
theorem c_len : CallR X (.builtin "len") (RB X.K .len) := by
  refine rb1 (fun d0 _ _ => ⟨rfl, by cases d0 <;> rfl⟩) fun pins s σ H x u Q as st d0 d I rx sr hx e q => ?_
  have q0 : ∀ {i : Int}, d = .int i → Q (.int i) H := fun {i} e => by subst e; exact q _ _ (Same.refl H) (.int _)
  cases hd : snap st d0 with
  | lst ds =>
    rw [hd] at e; cases e
    obtain ⟨a, vs, rfl, h1, h2, h3⟩ := hx.lst sr hd
    exact call_len_seq pins s σ H _ _ Q I (vals_one rx) ⟨a, vs, rfl, .inl (.inl (.inl h1)), by rw [h3.length]; exact q0 rfl⟩
  | ro ds =>
    rw [hd] at e; cases e
    obtain ⟨a, vs, rfl, h1, h2, h3⟩ := hx.ro sr hd
    exact call_len_seq pins s σ H _ _ Q I (vals_one rx) ⟨a, vs, rfl, .inl h1, by rw [h3.length]; exact q0 rfl⟩
  | tup ds =>
    rw [hd] at e; cases e
    obtain ⟨a, vs, rfl, h1, h2, h3⟩ := hx.tup sr hd
    exact call_len_seq pins s σ H _ _ Q I (vals_one rx) ⟨a, vs, rfl, .inr h1.sq, by rw [h3.length]; exact q0 rfl⟩
  | str z =>
    rw [hd] at e
    simp only [bi] at e
    split at e
    · rename_i hz
      cases e
      have ex := hx.str sr hd
      subst ex
      exact call_len_str pins s σ H _ _ Q I (vals_one rx) ⟨z, rfl, by rw [← LIM_eq]; exact hz, q0 rfl⟩
    · cases e
  | dic kvs =>
    rw [hd] at e; cases e
    obtain ⟨a, vs, rfl, h1, h2, h3⟩ := hx.dic sr hd
    cases rx
    exact d_len I h1 fun t s' I' => ⟨.int _, H, I', ⟨_, rfl⟩, by rw [h3.length]; exact q0 rfl⟩
  | _ => rw [hd] at e; cases e
theorem c_abs : CallR X (.builtin "abs") (RB X.K .abs) := by
  refine rb1 (fun d0 _ _ => ⟨rfl, by cases d0 <;> rfl⟩) fun pins s σ H x u Q as st d0 d I rx sr hx e q => ?_
  cases hd : snap st d0 with
  | int i =>
    rw [hd] at e; cases e
    have ex := hx.int sr hd
    subst ex
    exact call_abs pins s σ H _ _ Q I (vals_one rx) ⟨i, rfl, q _ _ (Same.refl H) (.int _)⟩
  | _ => rw [hd] at e; cases e
theorem c_int : CallR X (.type "int") (RB X.K .int) := by
  refine rb1 (fun d0 _ _ => ⟨rfl, by cases d0 <;> rfl⟩) fun pins s σ H x u Q as st d0 d I rx sr hx e q => ?_
  cases hd : snap st d0 with
  | int i =>
    rw [hd] at e; cases e
    have ex := hx.int sr hd
    subst ex
    exact call_int1 pins s σ H _ _ Q I (vals_one rx) (.inl ⟨i, rfl, q _ _ (Same.refl H) (.int _)⟩)
  | bl i =>
    rw [hd] at e; cases e
    have ex := hx.bl sr hd
    subst ex
    exact call_int1 pins s σ H _ _ Q I (vals_one rx) (.inr ⟨i, rfl, q _ _ (Same.refl H) (.int _)⟩)
  | _ => rw [hd] at e; cases e
theorem c_tuple : CallR X (.type "tuple") (RB X.K .tuple) := by
  refine rb1 (fun d0 _ _ => ⟨rfl, by cases d0 <;> rfl⟩) fun pins s σ H x u Q as st d0 d I rx sr hx e q => ?_
  cases hd : snap st d0 with
  | lst ds =>
    rw [hd] at e; cases e
    obtain ⟨a, vs, rfl, h1, h2, h3⟩ := hx.lst sr hd
    exact call_tuple_of pins s σ H _ _ Q I (vals_one rx) ⟨a, vs, rfl, .inl ⟨.inl (.inl h1), fun p hp => q _ _ (same_new hp) (new_tup hp h2 h3)⟩⟩
  | tup ds =>
    rw [hd] at e; cases e
    obtain ⟨a, vs, rfl, h1, h2, h3⟩ := hx.tup sr hd
    exact call_tuple_of pins s σ H _ _ Q I (vals_one rx) ⟨a, vs, rfl, .inr ⟨h1.sq, q _ _ (Same.refl H) (.tup h1 h2 h3)⟩⟩
  | _ => rw [hd] at e; cases e
theorem c_list : CallR X (.type "list") (RB X.K .list) := by
  refine rb1 (fun d0 _ _ => ⟨rfl, by cases d0 <;> rfl⟩) fun pins s σ H x u Q as st d0 d I rx sr hx e q => ?_
  cases hd : snap st d0 with
  | lst ds =>
    rw [hd] at e; cases e
    obtain ⟨a, vs, rfl, h1, h2, h3⟩ := hx.lst sr hd
    exact call_list_of pins s σ H _ _ Q I (vals_one rx) ⟨a, vs, rfl, .inl (.inl (.inl h1)), fun p hp => q _ _ (same_new hp) (new_lst sr hp h2 h3)⟩
  | tup ds =>
    rw [hd] at e; cases e
    obtain ⟨a, vs, rfl, h1, h2, h3⟩ := hx.tup sr hd
    exact call_list_of pins s σ H _ _ Q I (vals_one rx) ⟨a, vs, rfl, .inr h1.sq, fun p hp => q _ _ (same_new hp) (new_lst sr hp h2 h3)⟩
  | _ => rw [hd] at e; cases e
theorem c_all (hc : X.calm = true) : CallR X (.builtin "all") (RB X.K .all) := by
  refine rb1 (fun d0 _ _ => ⟨rfl, by cases d0 <;> rfl⟩) fun pins s σ H x u Q as st d0 d I rx sr hx e q => ?_
  cases hd : snap st d0 with
  | lst ds =>
    rw [hd] at e
    obtain ⟨bs, e1, e2⟩ := Res.bind_ok (show (Res.of (boolsD ds)).bind (fun bs => Res.ok (D.bl (bs.all id))) = .ok d from e)
    cases e2
    cases hb : boolsD ds with
    | none => rw [hb] at e1; cases e1
    | some bs' =>
      rw [hb] at e1; cases e1
      obtain ⟨a, vs, rfl, h1, h2, h3⟩ := hx.lst sr hd
      have ev := h3.bools hb
      subst ev
      exact cr_all hc pins s σ H _ _ Q I (vals_one rx) ⟨a, bs, rfl, .inl (.inl h1), q _ _ (Same.refl H) (.bl _)⟩
  | _ => rw [hd] at e; cases e
theorem c_any (hc : X.calm = true) : CallR X (.builtin "any") (RB X.K .any) := by
  refine rb1 (fun d0 _ _ => ⟨rfl, by cases d0 <;> rfl⟩) fun pins s σ H x u Q as st d0 d I rx sr hx e q => ?_
  cases hd : snap st d0 with
  | lst ds =>
    rw [hd] at e
    obtain ⟨bs, e1, e2⟩ := Res.bind_ok (show (Res.of (boolsD ds)).bind (fun bs => Res.ok (D.bl (bs.any id))) = .ok d from e)
    cases e2
    cases hb : boolsD ds with
    | none => rw [hb] at e1; cases e1
    | some bs' =>
      rw [hb] at e1; cases e1
      obtain ⟨a, vs, rfl, h1, h2, h3⟩ := hx.lst sr hd
      have ev := h3.bools hb
      subst ev
      exact cr_any hc pins s σ H _ _ Q I (vals_one rx) ⟨a, bs, rfl, .inl (.inl h1), q _ _ (Same.refl H) (.bl _)⟩
  | _ => rw [hd] at e; cases e
theorem c_sum (hc : X.calm = true) : CallR X (.builtin "sum") (RB X.K .sum) := by
  refine rb1 (fun d0 _ _ => ⟨rfl, by cases d0 <;> rfl⟩) fun pins s σ H x u Q as st d0 d I rx sr hx e q => ?_
  cases hd : snap st d0 with
  | lst ds =>
    rw [hd] at e
    obtain ⟨bs, e1, e2⟩ := Res.bind_ok (show (Res.of (intsD ds)).bind (fun bs => Res.ok (D.int bs.sum)) = .ok d from e)
    cases e2
    cases hb : intsD ds with
    | none => rw [hb] at e1; cases e1
    | some bs' =>
      rw [hb] at e1; cases e1
      obtain ⟨a, vs, rfl, h1, h2, h3⟩ := hx.lst sr hd
      have ev := h3.ints hb
      subst ev
      exact cr_sum hc pins s σ H _ _ Q I (vals_one rx) ⟨a, bs, rfl, .inl (.inl h1), q _ _ (Same.refl H) (.int _)⟩
  | _ => rw [hd] at e; cases e
theorem maxL_spec {ns : List Int} {k m : Int} (h : maxL ns = some k) (h1 : m ∈ ns) (h2 : ∀ y, y ∈ ns → y ≤ m) : m = k := by
  cases ns with
  | nil => cases h
  | cons x r =>
    simp only [maxL, Option.some.injEq] at h
    have go : ∀ (r : List Int) (x : Int), (r.foldl (fun a b => if b > a then b else a) x ∈ x :: r) ∧ ∀ y, y ∈ x :: r → y ≤ r.foldl (fun a b => if b > a then b else a) x := by
      intro r
      induction r with
      | nil => intro x; exact ⟨List.mem_cons_self, fun y hy => by simp at hy; subst hy; exact Int.le_refl _⟩
      | cons z r ih =>
        intro x
        obtain ⟨i1, i2⟩ := ih (if z > x then z else x)
        simp only [List.foldl_cons]
        refine ⟨?_, fun y hy => ?_⟩
        · rcases List.mem_cons.mp i1 with e | e
          · rw [e]; split <;> simp
          · exact List.mem_cons_of_mem _ (List.mem_cons_of_mem _ e)
        · have hz := i2 (if z > x then z else x) List.mem_cons_self
          have g1 : x ≤ (if z > x then z else x) := by split <;> omega
          have g2 : z ≤ (if z > x then z else x) := by split <;> omega
          rcases List.mem_cons.mp hy with e | hy
          · subst e; exact Int.le_trans g1 hz
          · rcases List.mem_cons.mp hy with e | hy
            · subst e; exact Int.le_trans g2 hz
            · exact i2 y (List.mem_cons_of_mem _ hy)
    obtain ⟨g1, g2⟩ := go r x
    rw [h] at g1 g2
    have a1 := g2 m h1
    have a2 := h2 k g1
    omega
theorem minL_spec {ns : List Int} {k m : Int} (h : minL ns = some k) (h1 : m ∈ ns) (h2 : ∀ y, y ∈ ns → m ≤ y) : m = k := by
  cases ns with
  | nil => cases h
  | cons x r =>
    simp only [minL, Option.some.injEq] at h
    have go : ∀ (r : List Int) (x : Int), (r.foldl (fun a b => if b < a then b else a) x ∈ x :: r) ∧ ∀ y, y ∈ x :: r → r.foldl (fun a b => if b < a then b else a) x ≤ y := by
      intro r
      induction r with
      | nil => intro x; exact ⟨List.mem_cons_self, fun y hy => by simp at hy; subst hy; exact Int.le_refl _⟩
      | cons z r ih =>
        intro x
        obtain ⟨i1, i2⟩ := ih (if z < x then z else x)
        simp only [List.foldl_cons]
        refine ⟨?_, fun y hy => ?_⟩
        · rcases List.mem_cons.mp i1 with e | e
          · rw [e]; split <;> simp
          · exact List.mem_cons_of_mem _ (List.mem_cons_of_mem _ e)
        · have hz := i2 (if z < x then z else x) List.mem_cons_self
          have g1 : (if z < x then z else x) ≤ x := by split <;> omega
          have g2 : (if z < x then z else x) ≤ z := by split <;> omega
          rcases List.mem_cons.mp hy with e | hy
          · subst e; exact Int.le_trans hz g1
          · rcases List.mem_cons.mp hy with e | hy
            · subst e; exact Int.le_trans hz g2
            · exact i2 y (List.mem_cons_of_mem _ hy)
    obtain ⟨g1, g2⟩ := go r x
    rw [h] at g1 g2
    have a1 := g2 m h1
    have a2 := h2 k g1
    omega
theorem c_max1 (hc : X.calm = true) : CallR X (.builtin "max") (RB X.K .max1) := by
  refine rb1 (fun d0 _ _ => ⟨rfl, by cases d0 <;> rfl⟩) fun pins s σ H x u Q as st d0 d I rx sr hx e q => ?_
  cases hd : snap st d0 with
  | lst ds =>
    rw [hd] at e
    obtain ⟨bs, e1, e2⟩ := Res.bind_ok (show (Res.of (intsD ds)).bind (fun bs => (Res.of (maxL bs)).bind fun m => Res.ok (D.int m)) = .ok d from e)
    obtain ⟨m, e3, e4⟩ := Res.bind_ok e2
    cases e4
    cases hb : intsD ds with
    | none => rw [hb] at e1; cases e1
    | some bs' =>
      rw [hb] at e1; cases e1
      cases hm : maxL bs with
      | none => rw [hm] at e3; cases e3
      | some m' =>
        rw [hm] at e3; cases e3
        obtain ⟨a, vs, rfl, h1, h2, h3⟩ := hx.lst sr hd
        have ev := h3.ints hb
        subst ev
        refine cr_max hc pins s σ H _ _ Q I (vals_one rx) ⟨a, bs, rfl, .inl (.inl h1), ?_, fun k k1 k2 => ?_⟩
        · cases bs with
          | nil => cases hm
          | cons => simp
        · rw [maxL_spec hm k1 k2]
          exact q _ _ (Same.refl H) (.int _)
  | _ => rw [hd] at e; cases e
theorem c_min1 (hc : X.calm = true) : CallR X (.builtin "min") (RB X.K .min1) := by
  refine rb1 (fun d0 _ _ => ⟨rfl, by cases d0 <;> rfl⟩) fun pins s σ H x u Q as st d0 d I rx sr hx e q => ?_
  cases hd : snap st d0 with
  | lst ds =>
    rw [hd] at e
    obtain ⟨bs, e1, e2⟩ := Res.bind_ok (show (Res.of (intsD ds)).bind (fun bs => (Res.of (minL bs)).bind fun m => Res.ok (D.int m)) = .ok d from e)
    obtain ⟨m, e3, e4⟩ := Res.bind_ok e2
    cases e4
    cases hb : intsD ds with
    | none => rw [hb] at e1; cases e1
    | some bs' =>
      rw [hb] at e1; cases e1
      cases hm : minL bs with
      | none => rw [hm] at e3; cases e3
      | some m' =>
        rw [hm] at e3; cases e3
        obtain ⟨a, vs, rfl, h1, h2, h3⟩ := hx.lst sr hd
        have ev := h3.ints hb
        subst ev
        refine cr_min hc pins s σ H _ _ Q I (vals_one rx) ⟨a, bs, rfl, .inl (.inl h1), ?_, fun k k1 k2 => ?_⟩
        · cases bs with
          | nil => cases hm
          | cons => simp
        · rw [minL_spec hm k1 k2]
          exact q _ _ (Same.refl H) (.int _)
  | _ => rw [hd] at e; cases e
theorem c_two {b : B} {f : Value} (hb : ∀ (d0 d1 d2 : D) (r : List D), bi b [] = .bad ∧ bi b [d0] = .bad ∧ bi b (d0 :: d1 :: d2 :: r) = .bad)
    (h : ∀ (pins : List (Addr × Obj)) (s : Shared) (σ : L2.St) (H : Hp) (x y : V) (u w : Value) (Q : VK) (as : Ads) (st : Sto) (d0 d1 d : D), Inv X pins σ H s → RelV x u → RelV y w → SRel X.K as st H → VRep X.K as H x d0 → VRep X.K as H y d1 → bi b [snap st d0, snap st d1] = .ok d →
      (∀ v H', Same H H' → DRep X.K as H' v d → Q v H') → wpAny (model X.prog X.w) X.A (call f [u, w]) (EP X pins σ Q) X.xe s) : CallR X f (RB X.K b) := by
  intro pins s σ H xs us Q I r ⟨as, st, ds, d, sr, hv, e, q⟩
  match ds, hv, e with
  | [], hv, e => rw [List.map_nil, (hb .non .non .non []).1] at e; cases e
  | [d0], hv, e => rw [List.map_cons, List.map_nil, (hb _ .non .non []).2.1] at e; cases e
  | d0 :: d1 :: d2 :: ds, hv, e => rw [List.map_cons, List.map_cons, List.map_cons, (hb _ _ _ _).2.2] at e; cases e
  | [d0, d1], hv, e =>
    obtain ⟨x, y, rfl, hx, hy⟩ := hv.two
    obtain ⟨u, w, rfl, rx, ry⟩ := vals2 r
    exact h pins s σ H x y u w Q as st d0 d1 d I rx ry sr hx hy e q
theorem vals_two {x y : V} {u w : Value} (r : RelV x u) (r' : RelV y w) : Vals [x, y] [u, w] := .cons r (.cons r' .nil)
theorem c_max2 (hc : X.calm = true) : CallR X (.builtin "max") (RB X.K .max2) := by
  refine c_two (fun d0 d1 _ _ => ⟨rfl, by cases d0 <;> rfl, by cases d0 <;> cases d1 <;> rfl⟩) fun pins s σ H x y u w Q as st d0 d1 d I rx ry sr hx hy e q => ?_
  cases hd : snap st d0 with
  | int i =>
    cases hd1 : snap st d1 with
    | int j =>
      rw [hd, hd1] at e; cases e
      have ex := hx.int sr hd
      have ey := hy.int sr hd1
      subst ex ey
      exact call_max2 hc pins s σ H _ _ Q I (vals_two rx ry) ⟨i, j, rfl, q _ _ (Same.refl H) (.int _)⟩
    | _ => rw [hd, hd1] at e; cases e
  | _ => rw [hd] at e; cases e
theorem c_min2 (hc : X.calm = true) : CallR X (.builtin "min") (RB X.K .min2) := by
  refine c_two (fun d0 d1 _ _ => ⟨rfl, by cases d0 <;> rfl, by cases d0 <;> cases d1 <;> rfl⟩) fun pins s σ H x y u w Q as st d0 d1 d I rx ry sr hx hy e q => ?_
  cases hd : snap st d0 with
  | int i =>
    cases hd1 : snap st d1 with
    | int j =>
      rw [hd, hd1] at e; cases e
      have ex := hx.int sr hd
      have ey := hy.int sr hd1
      subst ex ey
      exact call_min2 hc pins s σ H _ _ Q I (vals_two rx ry) ⟨i, j, rfl, q _ _ (Same.refl H) (.int _)⟩
    | _ => rw [hd, hd1] at e; cases e
  | _ => rw [hd] at e; cases e
theorem c_sorted (hc : X.calm = true) : CallR X (.builtin "sorted") (RB X.K .sorted) := by
  refine rb1 (fun d0 _ _ => ⟨rfl, by cases d0 <;> rfl⟩) fun pins s σ H x u Q as st d0 d I rx sr hx e q => ?_
  cases hd : snap st d0 with
  | lst ds =>
    rw [hd] at e
    obtain ⟨bs, e1, e2⟩ := Res.bind_ok (show (Res.of (strsD ds)).bind (fun bs => if bs.length < 64 then Res.ok (D.lst ((sortS bs).map .str)) else .bad) = .ok d from e)
    split at e2
    · rename_i hl
      cases e2
      cases hb : strsD ds with
      | none => rw [hb] at e1; cases e1
      | some bs' =>
        rw [hb] at e1; cases e1
        obtain ⟨a, vs, rfl, h1, h2, h3⟩ := hx.lst sr hd
        have ev := h3.strs hb
        subst ev
        refine cr_sortedS pins s σ H _ _ Q I (vals_one rx) ⟨a, bs, rfl, .inl (.inl h1), hl, fun ys p hp hs np => ?_⟩
        rw [sortS_eq hp hs]
        refine q _ _ (same_new np) (new_lst sr np ?_ (DReps.ofStrs _))
        rw [List.length_map, (sortS_perm bs).length_eq, sizeLine_eq]
        omega
    · cases e2
  | dic kvs =>
    rw [hd] at e
    obtain ⟨bs, e1, e2⟩ := Res.bind_ok (show (Res.of (strKeys kvs)).bind (fun bs => if bs.length < 64 then Res.ok (D.lst ((sortS bs).map .str)) else .bad) = .ok d from e)
    split at e2
    · rename_i hl
      cases e2
      cases hb : strKeys kvs with
      | none => rw [hb] at e1; cases e1
      | some bs' =>
        rw [hb] at e1; cases e1
        obtain ⟨a, vs, rfl, h1, h2, h3⟩ := hx.dic sr hd
        refine call_sortedD hc pins s σ H _ _ Q I (vals_one rx) ⟨a, vs, bs, rfl, h1, h3.strKeys hb, hl, fun ys p hp hs np => ?_⟩
        rw [sortS_eq hp hs]
        refine q _ _ (same_new np) (new_lst sr np ?_ (DReps.ofStrs _))
        rw [List.length_map, (sortS_perm bs).length_eq, sizeLine_eq]
        omega
    · cases e2
  | _ => rw [hd] at e; cases e
end
end En

set_option Elab.async false
set_option linter.all false
set_option maxRecDepth 100000
set_option maxHeartbeats 1000000
namespace En
open PySem PySem.Spec PyProof.Rows L2
section
variable {X : Cx}
theorem c_repr (hg : X.A.guards = some []) (hu : X.A.units + 40 < cLine) : CallR X (.builtin "repr") (RB X.K .repr) := by
  refine rb1 (fun d0 _ _ => ⟨rfl, by cases d0 <;> rfl⟩) fun pins s σ H x u Q as st d0 d I rx sr hx e q => ?_
  have go : ∀ (d1 : D), snap st d0 = d1 → (if d1.py.canLay0 && d1.py.showable && decide (d1.py.depth ≤ 32) && decide (d1.py.shown.length ≤ LIM) then Res.ok (D.str d1.py.shown) else .bad) = .ok d →
      wpAny (model X.prog X.w) X.A (call (.builtin "repr") [u]) (EP X pins σ Q) X.xe s := by
    intro d1 hd e
    split at e
    · rename_i h
      simp only [Bool.and_eq_true, decide_eq_true_eq] at h
      obtain ⟨⟨⟨h1, h2⟩, h3⟩, h4⟩ := h
      cases e
      have q0 : Q (.str d1.py.shown) H := q _ _ (Same.refl H) (.str _)
      have hp := hx.dp sr (by rw [hd]; exact h1)
      rw [hd] at hp
      obtain ⟨bs, rr⟩ := Dp.reads I _ x u hp rx
      have fin : ∀ (a : Addr), u = .ref a → wpAny (model X.prog X.w) X.A (call (.builtin "repr") [u]) (EP X pins σ Q) X.xe s := fun a eu => by
        subst eu
        exact repr_of_reads' rr h2 (PyData.noDict_hsm (PyData.hasDict_of_canLay _ h1)) hg (by omega) (fun _ _ z => z)
          (fun h' tk tk2 hk => ⟨.str _, H, I.kept (t' := tk2) hk, ⟨_, rfl⟩, q0⟩) (by rw [← LIM_eq]; exact h4)
      cases hd1 : d1 with
      | non =>
        subst hd1
        have ex := hx.non sr hd
        subst ex
        cases rx
        exact PySem.P.repr_of_none ⟨.str _, H, I.tok _, ⟨_, rfl⟩, by simpa only [D.py, PyData.shown] using q0⟩
      | bl b =>
        subst hd1
        have ex := hx.bl sr hd
        subst ex
        cases rx
        exact PySem.P.repr_of_bool ⟨.str _, H, I.tok _, ⟨_, rfl⟩, by simpa only [D.py, PyData.shown] using q0⟩
      | int i =>
        subst hd1
        have ex := hx.int sr hd
        subst ex
        obtain ⟨t, rfl⟩ := rx
        exact PySem.P.repr_of_int (by simpa [D.py, PyData.showable] using h2) ⟨.str _, H, I.tok _, ⟨_, rfl⟩, by simpa only [D.py, PyData.shown] using q0⟩
      | str i =>
        subst hd1
        have ex := hx.str sr hd
        subst ex
        obtain ⟨t, rfl⟩ := rx
        exact PySem.P.repr_of_str ⟨.str _, H, I.tok _, ⟨_, rfl⟩, by simpa only [D.py, PyData.shown] using q0⟩ (by rw [← LIM_eq]; simpa only [D.py, PyData.shown] using h4)
      | tup ds =>
        subst hd1
        obtain ⟨a, vs, rfl, _⟩ := hx.tup sr hd
        exact fin a rx
      | lst ds =>
        subst hd1
        obtain ⟨a, vs, rfl, _⟩ := hx.lst sr hd
        exact fin a rx
      | ro ds => subst hd1; simp [D.py, PyData.canLay0] at h1
      | dic ds => subst hd1; simp [D.py, PyData.canLay0] at h1
      | mref ds => subst hd1; simp [D.py, PyData.canLay0] at h1
    · cases e
  cases hd : snap st d0 with
  | dic ds => rw [hd] at e; cases e
  | ro ds => rw [hd] at e; cases e
  | mref ds => rw [hd] at e; cases e
  | _ => rw [hd] at e; exact go _ hd e

theorem DRep.key {K : PySem.W.Frag} {as : Ads} {H : Hp} {v : V} {d : D} {k : Key} (h : DRep K as H v d) (e : keyOf d = some k) : v = kV k := by
  cases d with
  | int i => cases e; cases h; rfl
  | str i => cases e; cases h; rfl
  | _ => cases e
theorem DReps.pairs {K : PySem.W.Frag} {as : Ads} {H : Hp} : ∀ {ds : List D} {vs : List V} {kvs : List (Key × D)}, DReps K as H vs ds → pairsD ds = some kvs →
    ∃ (ps : List Addr) (us : List (Key × V)), vs = ps.map V.ref ∧ Paired (fun p kv => SqT K H p [kV kv.1, kv.2]) ps us ∧ KReps K as H us kvs
  | [], _, kvs, h, e => by cases h; simp [pairsD] at e; subst e; exact ⟨[], [], rfl, .nil, .nil⟩
  | d :: ds, _, kvs, h, e => by
    cases h with
    | cons h r =>
      unfold pairsD at e
      split at e
      · rename_i heq; cases heq
      · rename_i k0 d0 r0 heq
        injection heq with e1 e2
        subst e1 e2
        split at e
        · rename_i k kr hk hr
          cases e
          obtain ⟨ps, us, rfl, p1, p2⟩ := DReps.pairs r hr
          cases h with
          | tup ht z rr =>
            cases rr with
            | cons q1 rr =>
              cases rr with
              | cons q2 rr =>
                cases rr
                have ek := q1.key hk
                subst ek
                exact ⟨_ :: ps, (k, _) :: us, rfl, .cons ht.sq p1, .cons q2 p2⟩
        · cases e
      · cases e
section
variable {K : PySem.W.Frag} {as : Ads} {H : Hp}
theorem KReps.keys : ∀ {ds : List (Key × D)} {vs : List (Key × V)} (k : Key), KReps K as H vs ds → (vs.any fun kv => decide (kv.1 = k)) = ds.any fun kv => decide (kv.1 = k)
  | [], _, k, h => by cases h; rfl
  | (k', d) :: ds, _, k, h => by
    cases h with
    | cons h r => rw [List.any_cons, List.any_cons, KReps.keys k r]
theorem KReps.append : ∀ {ds es : List (Key × D)} {vs us : List (Key × V)}, KReps K as H vs ds → KReps K as H us es → KReps K as H (vs ++ us) (ds ++ es)
  | [], _, _, _, h, q => by cases h; exact q
  | (k, d) :: ds, _, _, _, h, q => by
    cases h with
    | cons h r => exact .cons h (KReps.append r q)
theorem KReps.mapPut {k : Key} {d : D} {v : V} (q : DRep K as H v d) : ∀ {ds : List (Key × D)} {vs : List (Key × V)}, KReps K as H vs ds →
    KReps K as H (vs.map fun kv => if kv.1 = k then (kv.1, v) else kv) (ds.map fun kv => if kv.1 = k then (kv.1, d) else kv)
  | [], _, h => by cases h; exact .nil
  | (k', d') :: ds, _, h => by
    cases h with
    | cons h r =>
      rw [List.map_cons, List.map_cons]
      by_cases e : k' = k
      · simp only [e, if_true]; exact .cons q (KReps.mapPut q r)
      · simp only [e, if_false]; exact .cons h (KReps.mapPut q r)
theorem KReps.put {k : Key} {d : D} {v : V} (q : DRep K as H v d) {ds : List (Key × D)} {vs : List (Key × V)} (h : KReps K as H vs ds) : KReps K as H (putK vs k v) (dput ds k d) := by
  unfold putK dput
  rw [h.keys k]
  split
  · exact h.mapPut q
  · exact h.append (.cons q .nil)
theorem KReps.merge : ∀ {es ds : List (Key × D)} {us vs : List (Key × V)}, KReps K as H us es → KReps K as H vs ds → KReps K as H (mergeK vs us) (dmerge ds es)
  | [], _, _, _, h, q => by cases h; exact q
  | (k, d) :: es, _, _, _, h, q => by
    cases h with
    | cons h r =>
      show KReps K as H (mergeK (putK _ k _) _) (dmerge (dput _ k d) es)
      exact KReps.merge r (q.put h)
theorem len_put (ds : List (Key × V)) (k : Key) (d : V) : (putK ds k d).length ≤ ds.length + 1 := by
  unfold putK
  split
  · simp
  · simp
theorem len_merge : ∀ (us vs : List (Key × V)), (mergeK vs us).length ≤ vs.length + us.length
  | [], vs => by simp [mergeK]
  | (k, v) :: us, vs => by
    have h1 := len_merge us (putK vs k v)
    have h2 := len_put vs k v
    show (mergeK (putK vs k v) us).length ≤ _
    rw [List.length_cons]
    omega
end
theorem new_dic {K : PySem.W.Frag} {as : Ads} {st : Sto} {H : Hp} {p : Addr} {vs : List (Key × V)} {ds : List (Key × D)} (s : SRel K as st H) (hp : H p = none) (z : vs.length ≤ sizeLine) (r : KReps K as H vs ds) : DRep K as (upd H p (.dK vs)) (.ref p) (.dic ds) :=
  .dic (.inl upd_same) (s.fresh hp) z (KReps.step (Step.same (same_new hp)) _ _ r)
theorem c_dict (hc : X.calm = true) : CallR X (.type "dict") (RB X.K .dict) := by
  refine rb1 (fun d0 _ _ => ⟨rfl, by cases d0 <;> rfl⟩) fun pins s σ H x u Q as st d0 d I rx sr hx e q => ?_
  cases hd : snap st d0 with
  | lst ds =>
    rw [hd] at e
    obtain ⟨kvs, e1, e2⟩ := Res.bind_ok (show (Res.of (pairsD ds)).bind (fun kvs => Res.ok (D.dic (dmerge [] kvs))) = .ok d from e)
    cases e2
    cases hb : pairsD ds with
    | none => rw [hb] at e1; cases e1
    | some bs' =>
      rw [hb] at e1; cases e1
      obtain ⟨a, vs, rfl, h1, h2, h3⟩ := hx.lst sr hd
      obtain ⟨ps, us, rfl, p1, p2⟩ := h3.pairs hb
      refine call_dictP hc pins s σ H _ _ Q I (vals_one rx) ⟨a, ps, us, rfl, .inl (.inl h1), p1, fun p hp => ?_⟩
      refine q _ _ (same_new hp) (new_dic sr hp ?_ (p2.merge .nil))
      have := len_merge us []
      have l1 := Paired.length p1
      rw [List.length_map] at h2
      simp only [List.length_nil, Nat.zero_add] at this
      omega
  | _ => rw [hd] at e; cases e

def tn : D → String
  | .non => "NoneType"
  | .bl _ => "bool"
  | .int _ => "int"
  | .str _ => "str"
  | .tup _ => "tuple"
  | .lst _ => "list"
  | .ro _ => "list"
  | .dic _ => "dict"
  | .mref _ => ""
theorem ty_of {K : PySem.W.Frag} {as : Ads} {H : Hp} {st : Sto} {v : V} {d : D} (h : VRep K as H v d) (r : SRel K as st H) (n : (snap st d).isRef = false) : TyX K H v (.type (tn (snap st d))) := by
  cases hd : snap st d with
  | non => rw [h.non r hd]; exact .base .non
  | bl b => rw [h.bl r hd]; exact .base (.bl b)
  | int b => rw [h.int r hd]; exact .base (.int b)
  | str b => rw [h.str r hd]; exact .base (.str b)
  | tup b =>
    obtain ⟨a, vs, rfl, h1, _⟩ := h.tup r hd
    rcases h1 with h1 | ⟨o, its, n, h1, h2, _⟩
    · exact .base (.tup h1)
    · exact .kTuple h1 h2
  | lst b =>
    obtain ⟨a, vs, rfl, h1, _⟩ := h.lst r hd
    exact .base (.lst h1)
  | ro b =>
    obtain ⟨a, vs, rfl, h1, _⟩ := h.ro r hd
    rcases h1 with (h1 | ⟨o, h1⟩) | ⟨o, its, n, h1, h2, _⟩
    · exact .base (.lst h1)
    · exact .base (.frz h1)
    · exact .kList h1 h2
  | dic b =>
    obtain ⟨a, vs, rfl, h1, _⟩ := h.dic r hd
    rcases h1 with h1 | ⟨o, h1⟩
    · exact .base (.dK h1)
    · exact .fDict h1
  | mref b => rw [hd] at n; cases n
def isiT : B → String
  | .isInt => "int"
  | .isBool => "bool"
  | .isStr => "str"
  | .isTuple => "tuple"
  | .isList => "list"
  | _ => ""
def isIsi : B → Bool
  | .isInt => true
  | .isBool => true
  | .isStr => true
  | .isTuple => true
  | .isList => true
  | _ => false
theorem c_isi {b : B} (hb : isIsi b = true) : CallR X (.builtin "isinstance") (fun vs H Q => ∃ x, vs = [x, .ty (isiT b)] ∧ RB X.K b [x] H Q) := by
  intro pins s σ H xs us Q I r ⟨x, ex, as, st, ds, d, sr, hv, e, q⟩
  subst ex
  match ds, hv, e with
  | [d0], hv, e =>
    obtain ⟨x', e1, hx⟩ := hv.one
    cases e1
    have key : ∀ {t : Bool}, (snap st d0).isRef = false → d = .bl t → L2.kitB (tn (snap st d0)) (isiT b) = some t → wpAny (model X.prog X.w) X.A (call (.builtin "isinstance") us) (EP X pins σ Q) X.xe s := fun {t} h0 h1 h2 => by
      subst h1
      exact call_isi pins s σ H _ _ Q I r ⟨x, _, _, _, t, rfl, .ty _, ty_of hx sr h0, kit_ty h2, q _ _ (Same.refl H) (.bl _)⟩
    cases hd : snap st d0 with
    | mref i => rw [List.map_cons, List.map_nil, hd] at e; cases b <;> first | (cases hb; done) | (cases e; done)
    | ro i =>
      rw [List.map_cons, List.map_nil, hd] at e
      rw [hd] at key
      cases b <;> first | (cases hb; done) | (cases e; done) | (cases e; exact key rfl rfl (by simp only [tn, isiT]; decide +kernel))
    | _ =>
      rw [List.map_cons, List.map_nil, hd] at e
      rw [hd] at key
      cases b <;> first | (cases hb; done) | (cases e; exact key rfl rfl (by simp only [tn, isiT]; decide +kernel))
  | d0 :: d1 :: ds, hv, e => cases hv with | cons h r => cases r

theorem m_dget {pins : List (Addr × Obj)} {s : Shared} {σ : L2.St} {H : Hp} {as : Ads} {st : Sto} {x y : V} {od kd : D} {kvs : List (Key × D)} {k : Key} (h1 : VRep X.K as H x od) (h2 : VRep X.K as H y kd) (sr : SRel X.K as st H) (e1 : snap st od = .dic kvs) (e2 : keyOf kd = some k) :
    ∃ a o, x = .ref a ∧ IsD H a ∧ DGet H a y o ∧ ((∃ d v, dget kvs k = some d ∧ o = some v ∧ DRep X.K as H v d) ∨ (dget kvs k = none ∧ o = none)) := by
  obtain ⟨a, vs, rfl, g1, g2, g3⟩ := h1.dic sr e1
  have ey : y = kV k := by
    refine key_of_keyOf h2 sr (st := st) ?_
    cases kd <;> first | exact e2 | cases e2
  subst ey
  refine ⟨a, valV vs k, rfl, .inl ⟨vs, g1⟩, .inl ⟨vs, k, g1, rfl, rfl⟩, ?_⟩
  obtain ⟨i1, i2⟩ := g3.get (k := k)
  cases hg : dget kvs k with
  | none => exact .inr ⟨rfl, i2 hg⟩
  | some d =>
    obtain ⟨v, e, q⟩ := i1 d hg
    exact .inl ⟨d, v, rfl, e, q⟩
end
end En

set_option Elab.async false
set_option linter.all false
set_option maxRecDepth 100000
set_option maxHeartbeats 1000000
namespace En
open PySem PySem.Spec PyProof.Rows L2
theorem _root_.L2.PE.impD {X : Cx} {e : Expr} {t t' : TE} (h : PE X e t) (f : ∀ σ H Q, t' σ H Q → t σ H Q) : PE X e t' := ⟨fun pins s σ H Q I q => h.run pins s σ H Q I (f _ _ _ q)⟩
theorem _root_.L2.PT.impD {X : Cx} {e : Expr} {t t' : TT} (h : PT X e t) (f : ∀ σ H Q, t' σ H Q → t σ H Q) : PT X e t' := ⟨fun pins s σ H Q I q => h.run pins s σ H Q I (f _ _ _ q)⟩
theorem _root_.L2.PW.impD {X : Cx} {e : Expr} {t t' : TT} (h : PW X e t) (f : ∀ σ H Q, t' σ H Q → t σ H Q) : PW X e t' := ⟨fun wh pins s σ H Q I q => h.run wh pins s σ H Q I (f _ _ _ q)⟩
theorem _root_.L2.PA.impD {X : Cx} {es : List Expr} {t t' : TA} (h : PA X es t) (f : ∀ σ H Q, t' σ H Q → t σ H Q) : PA X es t' := ⟨fun pos pins s σ H Q I q => h.run pos pins s σ H Q I (f _ _ _ q)⟩
theorem _root_.L2.PS.impD {X : Cx} {st : Stmt} {t t' : TS} (h : PS X st t) (f : ∀ D σ H, t' D σ H → t D σ H) : PS X st t' := ⟨fun pins s σ H D I q => h.run pins s σ H D I (f _ _ _ q)⟩
theorem _root_.L2.PSs.impD {X : Cx} {st : List Stmt} {t t' : TS} (h : PSs X st t) (f : ∀ D σ H, t' D σ H → t D σ H) : PSs X st t' := ⟨fun pins s σ H D I q => h.run pins s σ H D I (f _ _ _ q)⟩

theorem atI_rep {K : PySem.W.Frag} {as : Ads} {H : Hp} {vs : List V} {ds : List D} {i : Int} {d : D} (r : DReps K as H vs ds) (e : atI ds i = some d) : ∃ v, atI vs i = some v ∧ DRep K as H v d := by
  unfold atI at e ⊢
  rw [r.length]
  cases h : ixN ds.length i with
  | none => rw [h] at e; cases e
  | some j =>
    rw [h] at e
    exact r.get e
section
variable {X : Cx}
theorem ix_dict (hu : X.A.units + 1 < cLine) : IxR X (fun x y H Q => ∃ a v, x = .ref a ∧ DGet H a y (some v) ∧ Q v H) := by
  intro value slice pins s σ H x y v u Q I rx ry ⟨a, w, ex, g, q⟩ hs
  subst ex
  obtain rfl : v = Value.ref a := rx
  exact tail_any (dict_typeIs I g) PySem.F.slot_dict_getitem.lookup (d_getItem hu I g ry fun w' s3 I3 rw' => ⟨w, H, I3, rw', q⟩) hs
/-- a[i] by data: the item itself -/
def RX (K : PySem.W.Frag) : R2 := fun x y H Q => ∃ as st dx dy d, SRel K as st H ∧ VRep K as H x dx ∧ VRep K as H y dy ∧ idx (snap st dx) dy = .ok d ∧ ∀ v, DRep K as H v d → Q v H
theorem ix_data (hu : X.A.units + 1 < cLine) : IxR X (RX X.K) := by
  intro value slice pins s σ H x y v u Q I rx ry ⟨as, st, dx, dy, d, sr, hx, hy, e, q⟩ hs
  have hyi : ∀ {i : Int}, dy = .int i → y = .int i := fun {i} e => by subst e; cases hy; rfl
  cases hd : snap st dx with
  | lst ds =>
    rw [hd] at e
    cases dy with
    | int i =>
      have hi := hyi rfl
      subst hi
      simp only [idx, atD] at e
      cases ha : atI ds i with
      | none => rw [ha] at e; cases e
      | some d' =>
        rw [ha] at e; cases e
        obtain ⟨a, vs, rfl, h1, h2, h3⟩ := hx.lst sr hd
        obtain ⟨w, e1, e2⟩ := atI_rep h3 ha
        exact ix_list value slice pins s σ H _ _ v u Q I rx ry ⟨a, vs, i, w, rfl, rfl, .inl (.inl h1), e1, q _ e2⟩ hs
    | _ => cases e
  | ro ds =>
    rw [hd] at e
    cases dy with
    | int i =>
      have hi := hyi rfl
      subst hi
      simp only [idx, atD] at e
      cases ha : atI ds i with
      | none => rw [ha] at e; cases e
      | some d' =>
        rw [ha] at e; cases e
        obtain ⟨a, vs, rfl, h1, h2, h3⟩ := hx.ro sr hd
        obtain ⟨w, e1, e2⟩ := atI_rep h3 ha
        exact ix_list value slice pins s σ H _ _ v u Q I rx ry ⟨a, vs, i, w, rfl, rfl, h1, e1, q _ e2⟩ hs
    | _ => cases e
  | tup ds =>
    rw [hd] at e
    cases dy with
    | int i =>
      have hi := hyi rfl
      subst hi
      simp only [idx, atD] at e
      cases ha : atI ds i with
      | none => rw [ha] at e; cases e
      | some d' =>
        rw [ha] at e; cases e
        obtain ⟨a, vs, rfl, h1, h2, h3⟩ := hx.tup sr hd
        obtain ⟨w, e1, e2⟩ := atI_rep h3 ha
        exact ix_tup value slice pins s σ H _ _ v u Q I rx ry ⟨a, vs, i, w, rfl, rfl, h1.sq, e1, q _ e2⟩ hs
    | _ => cases e
  | str z =>
    rw [hd] at e
    cases dy with
    | int i =>
      have hi := hyi rfl
      subst hi
      have hz := hx.str sr hd
      subst hz
      simp only [idx] at e
      split at e
      · rename_i hl
        cases ha : atI z.cps.toList i with
        | none => rw [ha] at e; cases e
        | some c =>
          rw [ha] at e; cases e
          exact ix_str value slice pins s σ H _ _ v u Q I rx ry ⟨z, i, c, rfl, rfl, by rw [← LIM_eq]; exact hl, ha, q _ (.str _)⟩ hs
      · cases e
    | _ => cases e
  | dic kvs =>
    rw [hd] at e
    have e' : (match keyOf dy with | some k => Res.of (dget kvs k) | none => .bad) = .ok d := by cases dy <;> exact e
    cases hk : keyOf dy with
    | none => rw [hk] at e'; cases e'
    | some k =>
      rw [hk] at e'
      obtain ⟨a, o, rfl, h1, h2, h3⟩ := m_dget (X := X) (pins := pins) (s := s) (σ := σ) hx hy sr hd hk
      rcases h3 with ⟨d', w, g1, rfl, g2⟩ | ⟨g1, _⟩
      · simp only [g1] at e'
        cases e'
        exact ix_dict hu value slice pins s σ H _ _ v u Q I rx ry ⟨a, w, rfl, h2, q _ g2⟩ hs
      · simp only [g1] at e'; cases e'
  | _ => rw [hd] at e; cases dy <;> cases e
/-- a slice by data -/
def RS (K : PySem.W.Frag) : V → Option Int → Option Int → Hp → VK → Prop := fun x lo hi H Q => ∃ as st dx d, SRel K as st H ∧ VRep K as H x dx ∧ slc (snap st dx) (lo.map D.int) (hi.map D.int) = .ok d ∧ ∀ v H', Same H H' → DRep K as H' v d → Q v H'
theorem optI_map (o : Option Int) : optI (o.map D.int) = some o := by cases o <;> rfl
theorem cut_rep {K : PySem.W.Frag} {as : Ads} {H : Hp} {vs : List V} {ds : List D} (r : DReps K as H vs ds) (lo hi : Option Int) : DReps K as H (cutV vs lo hi) (cutD ds lo hi) := by
  unfold cutV cutD
  rw [r.length]
  exact (r.drop _).take _
theorem sl_data : SlR X (RS X.K) := by
  intro pins s σ H x v vl vu lo hi sl Q I rx hs pl pu ⟨as, st, dx, d, sr, hx, e, q⟩
  cases hd : snap st dx with
  | lst ds =>
    rw [hd] at e
    simp only [slc, optI_map] at e
    cases e
    obtain ⟨a, vs, rfl, h1, h2, h3⟩ := hx.lst sr hd
    exact sl_list pins s σ H _ v vl vu lo hi sl Q I rx hs pl pu ⟨a, vs, rfl, .inl (.inl h1), fun p hp => q _ _ (same_new hp) (new_lst sr hp (Nat.le_trans (cutV_length vs lo hi) h2) (cut_rep h3 lo hi))⟩
  | tup ds =>
    rw [hd] at e
    simp only [slc, optI_map] at e
    cases e
    obtain ⟨a, vs, rfl, h1, h2, h3⟩ := hx.tup sr hd
    refine sl_tupA pins s σ H _ v vl vu lo hi sl Q I rx hs pl pu ⟨a, vs, rfl, h1.sq, fun hw => ?_, fun _ p hp => q _ _ (same_new hp) (new_tup hp (Nat.le_trans (cutV_length vs lo hi) h2) (cut_rep h3 lo hi))⟩
    have ec : cutD ds lo hi = ds := by
      rw [h3.length] at hw
      simp only [cutD, hw.1, hw.2]
      simp
    rw [ec] at q
    exact q _ _ (Same.refl H) (.tup h1 h2 h3)
  | _ => rw [hd] at e; cases e
end
end En

set_option Elab.async false
set_option linter.all false
set_option maxRecDepth 100000
set_option maxHeartbeats 1000000
namespace En
open PySem PySem.Spec PyProof.Rows L2

section
variable (K : PySem.W.Frag) (Γ : Fns) (con : Nat → Option D)
def tE (c : CE) : TE := fun σ H Q => ∃ as env st d st', ERep K as H σ env ∧ SRel K as st H ∧ evE Γ con c env st = .ok (d, st') ∧ ∀ v H' as', Step as as' H H' → SRel K as' st' H' → VRep K as' H' v d → Q v H'
def tTest' (c : CE) : TT := fun σ H Q => ∃ as env st b st', ERep K as H σ env ∧ SRel K as st H ∧ evE Γ con c env st = .ok (.bl b, st') ∧ ∀ H' as', Step as as' H H' → SRel K as' st' H' → Q b H'
def tAs (cs : List CE) : TA := fun σ H Q => ∃ as env st ds st', ERep K as H σ env ∧ SRel K as st H ∧ evEs Γ con cs env st = .ok (ds, st') ∧ ∀ vs H' as', Step as as' H H' → SRel K as' st' H' → VReps K as' H' vs ds → Q vs H'
/-- a slice's part -/
def tOs (c : Option CE) : TO := fun σ H Q => ∃ as env st o st', ERep K as H σ env ∧ SRel K as st H ∧ evO Γ con c env st = .ok (o.map D.int, st') ∧ ∀ H' as', Step as as' H H' → SRel K as' st' H' → Q o H'
end
section
variable {X : Cx} {Γ : Fns} {con : Nat → Option D} {a b c : Expr} {ca cb cc : CE} {pos : Pos}

theorem pd_lit {d : D} {v : V} {e : Expr} (h : PE X e (tC v)) (hd : ∀ K as H, DRep K as H v d) : PE X e (tE X.K Γ con (.lit d)) :=
  h.impD fun σ H Q ⟨as, env, st, d', st', er, sr, e, q⟩ => by
    cases e
    exact q _ _ as (Step.refl _ _) sr (hd _ _ _).toV
theorem pd_var {i : Nat} {x : Str} (hN : X.N[i]? = some x) (hv : Vis X.env.scope x) (hd : (x == ("__debug__" : Str)) = false) (hcd : (x == ("__classdict__" : Str)) = false) : PE X (.Name x pos) (tE X.K Γ con (.var i)) :=
  (pe_var hN hv hd hcd).impD fun σ H Q ⟨as, env, st, d', st', er, sr, e, q⟩ => by
    simp only [evE] at e
    split at e
    · rename_i d hd
      cases e
      obtain ⟨v, e1, e2⟩ := er.get i d' hd
      exact ⟨v, e1, q v H as (Step.refl _ _) sr e2⟩
    · cases e
theorem pd_glob {g : Nat} {e : Expr} {v : V} {d : D} (h : PE X e (tC v)) (hc : con g = some d) (hd : ∀ as H, DRep X.K as H v d) : PE X e (tE X.K Γ con (.glob g)) :=
  h.impD fun σ H Q ⟨as, env, st, d', st', er, sr, e, q⟩ => by
    simp only [evE, hc] at e
    cases e
    exact q _ _ as (Step.refl _ _) sr (hd _ _).toV
theorem pd_bin {op : BOp} (ha : PE X a (tE X.K Γ con ca)) (hb : PE X b (tE X.K Γ con cb)) : PE X (.BinOp a (pyBin op) b pos) (tE X.K Γ con (.bin op ca cb)) :=
  (pe_op (op_bop op) ha hb).impD fun σ H Q ⟨as, env, st, d, st', er, sr, e, q⟩ => by
    simp only [evE] at e
    obtain ⟨⟨x, st1⟩, e1, e⟩ := Res.bind_ok e
    obtain ⟨⟨y, st2⟩, e2, e⟩ := Res.bind_ok e
    obtain ⟨d', e3, e4⟩ := Res.bind_ok e
    cases e4
    exact ⟨as, env, st, x, st1, er, sr, e1, fun v H1 as1 s1 sr1 hv => ⟨as1, env, st1, y, _, er.step s1, sr1, e2, fun u H2 as2 s2 sr2 hu =>
      ⟨as2, _, x, y, _, sr2, hv.step s2, hu, e3, fun w H3 sm hw => q w H3 as2 ((s1.trans s2).trans (Step.same sm)) (sr2.same sm) hw.toV⟩⟩⟩
theorem pd_neg (ha : PE X a (tE X.K Γ con ca)) : PE X (.UnaryOp .USub a pos) (tE X.K Γ con (.neg ca)) :=
  (pe_un un_negD ha).impD fun σ H Q ⟨as, env, st, d, st', er, sr, e, q⟩ => by
    simp only [evE] at e
    obtain ⟨⟨x, st1⟩, e1, e⟩ := Res.bind_ok e
    cases x with
    | int i =>
      cases e
      exact ⟨as, env, st, _, _, er, sr, e1, fun v H1 as1 s1 sr1 hv => by
        cases hv
        exact ⟨i, rfl, q _ _ as1 s1 sr1 (DRep.int (-i)).toV⟩⟩
    | _ => cases e
theorem pd_cmp {op : COp} (hu : X.A.units + 65 < cLine) (ha : PE X a (tE X.K Γ con ca)) (hb : PE X b (tE X.K Γ con cb)) (hm : behindInMarks (pyCmp op) b = false) : PE X (.Compare a [pyCmp op] [b] pos) (tE X.K Γ con (.cmp op ca cb)) :=
  (pe_cmpR (op_cop hu op) ha hb hm).impD fun σ H Q ⟨as, env, st, d, st', er, sr, e, q⟩ => by
    simp only [evE] at e
    obtain ⟨⟨x, st1⟩, e1, e⟩ := Res.bind_ok e
    obtain ⟨⟨y, st2⟩, e2, e⟩ := Res.bind_ok e
    obtain ⟨d', e3, e4⟩ := Res.bind_ok e
    cases e4
    exact ⟨as, env, st, x, st1, er, sr, e1, fun v H1 as1 s1 sr1 hv => ⟨as1, env, st1, y, _, er.step s1, sr1, e2, fun u H2 as2 s2 sr2 hu =>
      ⟨as2, _, x, y, _, sr2, hv.step s2, hu, by simp only [copD]; rw [e3]; rfl, fun w H3 sm hw => q w H3 as2 ((s1.trans s2).trans (Step.same sm)) (sr2.same sm) hw.toV⟩⟩⟩
/-- the same as a test -/
theorem pdt_cmp {op : COp} (hu : X.A.units + 65 < cLine) (ha : PE X a (tE X.K Γ con ca)) (hb : PE X b (tE X.K Γ con cb)) (hm : behindInMarks (pyCmp op) b = false) : PT X (.Compare a [pyCmp op] [b] pos) (tTest' X.K Γ con (.cmp op ca cb)) :=
  (pt_cmpR (op_cop hu op) ha hb hm).impD fun σ H Q ⟨as, env, st, d, st', er, sr, e, q⟩ => by
    simp only [evE] at e
    obtain ⟨⟨x, st1⟩, e1, e⟩ := Res.bind_ok e
    obtain ⟨⟨y, st2⟩, e2, e⟩ := Res.bind_ok e
    obtain ⟨d', e3, e4⟩ := Res.bind_ok e
    cases e4
    exact ⟨as, env, st, x, st1, er, sr, e1, fun v H1 as1 s1 sr1 hv => ⟨as1, env, st1, y, _, er.step s1, sr1, e2, fun u H2 as2 s2 sr2 hu =>
      ⟨as2, _, x, y, _, sr2, hv.step s2, hu, by simp only [copD]; rw [e3]; rfl, fun w H3 sm hw => by
        cases hw
        exact ⟨_, rfl, q H3 as2 ((s1.trans s2).trans (Step.same sm)) (sr2.same sm)⟩⟩⟩⟩
theorem pd_chain {op op' : COp} (hu : X.A.units + 65 < cLine) (ha : PE X a (tE X.K Γ con ca)) (hb : PE X b (tE X.K Γ con cb)) (hc : PE X c (tE X.K Γ con cc)) (hm : lastMarks [pyCmp op, pyCmp op'] [b, c] = false) :
    PE X (.Compare a [pyCmp op, pyCmp op'] [b, c] pos) (tE X.K Γ con (.chain op op' ca cb cc)) :=
  (pe_chain (op_cop hu op) (op_cop hu op') ha hb hc hm).impD fun σ H Q ⟨as, env, st, d, st', er, sr, e, q⟩ => by
    simp only [evE] at e
    obtain ⟨⟨x, st1⟩, e1, e⟩ := Res.bind_ok e
    obtain ⟨⟨y, st2⟩, e2, e⟩ := Res.bind_ok e
    obtain ⟨r, e3, e⟩ := Res.bind_ok e
    refine ⟨as, env, st, x, st1, er, sr, e1, fun v H1 as1 s1 sr1 hv => ⟨as1, env, st1, y, _, er.step s1, sr1, e2, fun u H2 as2 s2 sr2 hu =>
      ⟨as2, _, x, y, _, sr2, hv.step s2, hu, by simp only [copD]; rw [e3]; rfl, fun w H3 sm hw => ?_⟩⟩⟩
    cases hw
    have s3 := (s1.trans s2).trans (Step.same sm)
    cases r with
    | false =>
      cases e
      exact ⟨false, rfl, iteF (q _ _ as2 s3 (sr2.same sm) (DRep.bl false).toV)⟩
    | true =>
      simp only [if_true] at e
      obtain ⟨⟨z, st3⟩, e4, e⟩ := Res.bind_ok e
      obtain ⟨d', e5, e6⟩ := Res.bind_ok e
      cases e6
      exact ⟨true, rfl, iteT ⟨as2, env, st2, z, _, er.step s3, sr2.same sm, e4, fun w H4 as4 s4 sr4 hw => ⟨as4, _, y, z, _, sr4, (hu.step (Step.same sm)).step s4, hw, by simp only [copD]; rw [e5]; rfl, fun v' H5 sm5 hv' => q _ _ as4 ((s3.trans s4).trans (Step.same sm5)) (sr4.same sm5) hv'.toV⟩⟩⟩
theorem pdt_chain {op op' : COp} (hu : X.A.units + 65 < cLine) (ha : PE X a (tE X.K Γ con ca)) (hb : PE X b (tE X.K Γ con cb)) (hc : PE X c (tE X.K Γ con cc)) (hm : lastMarks [pyCmp op, pyCmp op'] [b, c] = false) :
    PT X (.Compare a [pyCmp op, pyCmp op'] [b, c] pos) (tTest' X.K Γ con (.chain op op' ca cb cc)) :=
  (pt_chain (op_cop hu op) (op_cop hu op') ha hb hc hm).impD fun σ H Q ⟨as, env, st, d, st', er, sr, e, q⟩ => by
    simp only [evE] at e
    obtain ⟨⟨x, st1⟩, e1, e⟩ := Res.bind_ok e
    obtain ⟨⟨y, st2⟩, e2, e⟩ := Res.bind_ok e
    obtain ⟨r, e3, e⟩ := Res.bind_ok e
    refine ⟨as, env, st, x, st1, er, sr, e1, fun v H1 as1 s1 sr1 hv => ⟨as1, env, st1, y, _, er.step s1, sr1, e2, fun u H2 as2 s2 sr2 hu =>
      ⟨as2, _, x, y, _, sr2, hv.step s2, hu, by simp only [copD]; rw [e3]; rfl, fun w H3 sm hw => ?_⟩⟩⟩
    cases hw
    have s3 := (s1.trans s2).trans (Step.same sm)
    cases r with
    | false =>
      cases e
      exact ⟨false, rfl, iteF ⟨_, rfl, q _ as2 s3 (sr2.same sm)⟩⟩
    | true =>
      simp only [if_true] at e
      obtain ⟨⟨z, st3⟩, e4, e⟩ := Res.bind_ok e
      obtain ⟨d', e5, e6⟩ := Res.bind_ok e
      cases e6
      exact ⟨true, rfl, iteT ⟨as2, env, st2, z, _, er.step s3, sr2.same sm, e4, fun w H4 as4 s4 sr4 hw => ⟨as4, _, y, z, _, sr4, (hu.step (Step.same sm)).step s4, hw, by simp only [copD]; rw [e5]; rfl, fun v' H5 sm5 hv' => by
        cases hv'
        exact ⟨_, rfl, q _ as4 ((s3.trans s4).trans (Step.same sm5)) (sr4.same sm5)⟩⟩⟩⟩
theorem asBool_ok {d : D} {b : Bool} (h : asBool d = .ok b) : d = .bl b := by
  cases d <;> cases h
  rfl
theorem pd_not (ha : PE X a (tE X.K Γ con ca)) : PE X (.UnaryOp .Not a pos) (tE X.K Γ con (.not ca)) :=
  (pe_not ha).impD fun σ H Q ⟨as, env, st, d, st', er, sr, e, q⟩ => by
    simp only [evE] at e
    obtain ⟨⟨x, st1⟩, e1, e⟩ := Res.bind_ok e
    obtain ⟨r, e2, e⟩ := Res.bind_ok e
    cases e
    cases asBool_ok e2
    exact ⟨as, env, st, _, _, er, sr, e1, fun v H1 as1 s1 sr1 hv => by
      cases hv
      exact ⟨r, rfl, q _ _ as1 s1 sr1 (DRep.bl (!r)).toV⟩⟩
theorem pdt_not (ha : PT X a (tTest' X.K Γ con ca)) : PT X (.UnaryOp .Not a pos) (tTest' X.K Γ con (.not ca)) :=
  (pt_not ha).impD fun σ H Q ⟨as, env, st, d, st', er, sr, e, q⟩ => by
    simp only [evE] at e
    obtain ⟨⟨x, st1⟩, e1, e⟩ := Res.bind_ok e
    obtain ⟨r, e2, e⟩ := Res.bind_ok e
    cases e
    cases asBool_ok e2
    exact ⟨as, env, st, _, _, er, sr, e1, fun H1 as1 s1 sr1 => q _ as1 s1 sr1⟩
/-- a value that is a bool, as a test -/
theorem pdt_val (ha : PE X a (tE X.K Γ con ca)) (he : ∀ whole, isTrue a X.env whole = (do let v ← whole; standAt a.pos; holding [v] (truthy v))) : PT X a (tTest' X.K Γ con ca) :=
  (pt_val ha he).impD fun σ H Q ⟨as, env, st, b, st', er, sr, e, q⟩ => ⟨as, env, st, _, _, er, sr, e, fun v H1 as1 s1 sr1 hv => by
    cases hv
    exact ⟨b, rfl, q _ as1 s1 sr1⟩⟩
theorem pd_ite (hc : PT X c (tTest' X.K Γ con cc)) (ha : PE X a (tE X.K Γ con ca)) (hb : PE X b (tE X.K Γ con cb)) : PE X (.IfExp c a b pos) (tE X.K Γ con (.ite cc ca cb)) :=
  (pe_ifExp hc ha hb).impD fun σ H Q ⟨as, env, st, d, st', er, sr, e, q⟩ => by
    simp only [evE] at e
    obtain ⟨⟨x, st1⟩, e1, e⟩ := Res.bind_ok e
    obtain ⟨r, e2, e⟩ := Res.bind_ok e
    cases asBool_ok e2
    refine ⟨as, env, st, _, _, er, sr, e1, fun H1 as1 s1 sr1 => ?_⟩
    cases r with
    | true => exact iteT ⟨as1, env, st1, d, st', er.step s1, sr1, e, fun v H2 as2 s2 sr2 hv => q v H2 as2 (s1.trans s2) sr2 hv⟩
    | false => exact iteF ⟨as1, env, st1, d, st', er.step s1, sr1, e, fun v H2 as2 s2 sr2 hv => q v H2 as2 (s1.trans s2) sr2 hv⟩

theorem pd_and1 (ha : PE X a (tE X.K Γ con ca)) : PE X (.BoolOp .And [a] pos) (tE X.K Γ con (.and [ca])) :=
  (pe_one ha).impD fun σ H Q ⟨as, env, st, d, st', er, sr, e, q⟩ => by
    simp only [evE, evAnd] at e
    obtain ⟨⟨x, st1⟩, e1, e⟩ := Res.bind_ok e
    obtain ⟨r, e2, e⟩ := Res.bind_ok e
    cases e
    cases asBool_ok e2
    exact ⟨as, env, st, _, _, er, sr, e1, q⟩
theorem pd_or1 (ha : PE X a (tE X.K Γ con ca)) : PE X (.BoolOp .Or [a] pos) (tE X.K Γ con (.or [ca])) :=
  (pe_one ha).impD fun σ H Q ⟨as, env, st, d, st', er, sr, e, q⟩ => by
    simp only [evE, evOr] at e
    obtain ⟨⟨x, st1⟩, e1, e⟩ := Res.bind_ok e
    obtain ⟨r, e2, e⟩ := Res.bind_ok e
    cases e
    cases asBool_ok e2
    exact ⟨as, env, st, _, _, er, sr, e1, q⟩
theorem pd_and {rest : List Expr} {cs : List CE} (ha : PE X a (tE X.K Γ con ca)) (hb : PE X (.BoolOp .And (b :: rest) pos) (tE X.K Γ con (.and (cb :: cs)))) : PE X (.BoolOp .And (a :: b :: rest) pos) (tE X.K Γ con (.and (ca :: cb :: cs))) :=
  (pe_and ha hb).impD fun σ H Q ⟨as, env, st, d, st', er, sr, e, q⟩ => by
    simp only [evE] at e
    unfold evAnd at e
    obtain ⟨⟨x, st1⟩, e1, e⟩ := Res.bind_ok e
    obtain ⟨r, e2, e⟩ := Res.bind_ok e
    cases asBool_ok e2
    refine ⟨as, env, st, _, _, er, sr, e1, fun v H1 as1 s1 sr1 hv => ?_⟩
    cases hv
    refine ⟨r, rfl, ?_⟩
    cases r with
    | true => exact iteT ⟨as1, env, st1, d, st', er.step s1, sr1, by simp only [evE]; exact e, fun v H2 as2 s2 sr2 hv => q v H2 as2 (s1.trans s2) sr2 hv⟩
    | false =>
      cases e
      exact iteF (q _ _ as1 s1 sr1 (DRep.bl false).toV)
theorem pd_or {rest : List Expr} {cs : List CE} (ha : PE X a (tE X.K Γ con ca)) (hb : PE X (.BoolOp .Or (b :: rest) pos) (tE X.K Γ con (.or (cb :: cs)))) : PE X (.BoolOp .Or (a :: b :: rest) pos) (tE X.K Γ con (.or (ca :: cb :: cs))) :=
  (pe_or ha hb).impD fun σ H Q ⟨as, env, st, d, st', er, sr, e, q⟩ => by
    simp only [evE] at e
    unfold evOr at e
    obtain ⟨⟨x, st1⟩, e1, e⟩ := Res.bind_ok e
    obtain ⟨r, e2, e⟩ := Res.bind_ok e
    cases asBool_ok e2
    refine ⟨as, env, st, _, _, er, sr, e1, fun v H1 as1 s1 sr1 hv => ?_⟩
    cases hv
    refine ⟨r, rfl, ?_⟩
    cases r with
    | false => exact iteF ⟨as1, env, st1, d, st', er.step s1, sr1, by simp only [evE]; exact e, fun v H2 as2 s2 sr2 hv => q v H2 as2 (s1.trans s2) sr2 hv⟩
    | true =>
      cases e
      exact iteT (q _ _ as1 s1 sr1 (DRep.bl true).toV)
theorem pdw_and1 (ha : PT X a (tTest' X.K Γ con ca)) : PW X (.BoolOp .And [a] pos) (tTest' X.K Γ con (.and [ca])) :=
  (pw_and1 ha).impD fun σ H Q ⟨as, env, st, d, st', er, sr, e, q⟩ => by
    simp only [evE, evAnd] at e
    obtain ⟨⟨x, st1⟩, e1, e⟩ := Res.bind_ok e
    obtain ⟨r, e2, e⟩ := Res.bind_ok e
    cases e
    cases asBool_ok e2
    exact ⟨as, env, st, _, _, er, sr, e1, q⟩
theorem pdw_or1 (ha : PT X a (tTest' X.K Γ con ca)) : PW X (.BoolOp .Or [a] pos) (tTest' X.K Γ con (.or [ca])) :=
  (pw_or1 ha).impD fun σ H Q ⟨as, env, st, d, st', er, sr, e, q⟩ => by
    simp only [evE, evOr] at e
    obtain ⟨⟨x, st1⟩, e1, e⟩ := Res.bind_ok e
    obtain ⟨r, e2, e⟩ := Res.bind_ok e
    cases e
    cases asBool_ok e2
    exact ⟨as, env, st, _, _, er, sr, e1, q⟩
theorem pdw_and {rest : List Expr} {cs : List CE} (ha : PT X a (tTest' X.K Γ con ca)) (hb : PW X (.BoolOp .And (b :: rest) pos) (tTest' X.K Γ con (.and (cb :: cs)))) : PW X (.BoolOp .And (a :: b :: rest) pos) (tTest' X.K Γ con (.and (ca :: cb :: cs))) :=
  (pw_and ha hb).impD fun σ H Q ⟨as, env, st, d, st', er, sr, e, q⟩ => by
    simp only [evE] at e
    unfold evAnd at e
    obtain ⟨⟨x, st1⟩, e1, e⟩ := Res.bind_ok e
    obtain ⟨r, e2, e⟩ := Res.bind_ok e
    cases asBool_ok e2
    refine ⟨as, env, st, _, _, er, sr, e1, fun H1 as1 s1 sr1 => ?_⟩
    cases r with
    | true => exact iteT ⟨as1, env, st1, d, st', er.step s1, sr1, by simp only [evE]; exact e, fun H2 as2 s2 sr2 => q H2 as2 (s1.trans s2) sr2⟩
    | false =>
      cases e
      exact iteF (q _ as1 s1 sr1)
theorem pdw_or {rest : List Expr} {cs : List CE} (ha : PT X a (tTest' X.K Γ con ca)) (hb : PW X (.BoolOp .Or (b :: rest) pos) (tTest' X.K Γ con (.or (cb :: cs)))) : PW X (.BoolOp .Or (a :: b :: rest) pos) (tTest' X.K Γ con (.or (ca :: cb :: cs))) :=
  (pw_or ha hb).impD fun σ H Q ⟨as, env, st, d, st', er, sr, e, q⟩ => by
    simp only [evE] at e
    unfold evOr at e
    obtain ⟨⟨x, st1⟩, e1, e⟩ := Res.bind_ok e
    obtain ⟨r, e2, e⟩ := Res.bind_ok e
    cases asBool_ok e2
    refine ⟨as, env, st, _, _, er, sr, e1, fun H1 as1 s1 sr1 => ?_⟩
    cases r with
    | false => exact iteF ⟨as1, env, st1, d, st', er.step s1, sr1, by simp only [evE]; exact e, fun H2 as2 s2 sr2 => q H2 as2 (s1.trans s2) sr2⟩
    | true =>
      cases e
      exact iteT (q _ as1 s1 sr1)
end
end En

set_option Elab.async false
set_option linter.all false
set_option maxRecDepth 100000
set_option maxHeartbeats 1000000
namespace En
open PySem PySem.Spec PyProof.Rows L2

section
variable {K : PySem.W.Frag} {as : Ads} {H : Hp} {st : Sto}
/-- the store object i is written anew -/
theorem SRel.write (r : SRel K as st H) {i : Nat} {a : Addr} {o : O} {u : HO} (ha : as.c[i]? = some (some a)) (ho : Step as as H (upd H a u) → ORep K as (upd H a u) (some a) o) :
    Step as as H (upd H a u) ∧ SRel K as (st.set i o) (upd H a u) := by
  have hm : some a ∈ as.c := List.mem_of_getElem? ha
  have htup : ∀ b xs, H b = some (.tup xs) → b ≠ a := fun b xs e z => by
    subst z
    rcases r.mut hm with ⟨vs, q⟩ | ⟨vs, q⟩ <;> (rw [e] at q; cases q)
  have s : Step as as H (upd H a u) := ⟨Nat.le_refl _, fun _ _ h => .inl h, fun _ h => h, fun _ h => .inl h, fun b x e n => by
    have : b ≠ a := fun z => by subst z; exact n hm
    rw [upd_ne this]; exact e, fun b xs e => by rw [upd_ne (htup b xs e)]; exact e, rfl⟩
  refine ⟨s, ⟨by rw [List.length_set]; exact r.len, r.nd, fun j o' e => ?_, fun b hb => let ⟨o, e⟩ := r.pr b hb; ⟨o, s.ext b o e (r.dj b hb)⟩, r.dj⟩⟩
  by_cases hj : i = j
  · subst hj
    have hl : i < st.length := by
      by_cases hl : i < st.length
      · exact hl
      · rw [List.getElem?_eq_none (by simpa using hl)] at e; cases e
    rw [List.getElem?_set_self hl] at e
    cases e
    exact ⟨some a, ha, ho s⟩
  · rw [List.getElem?_set_ne hj] at e
    obtain ⟨x, e1, q⟩ := r.rep j o' e
    refine ⟨x, e1, ?_⟩
    cases x with
    | none => cases o' <;> exact q
    | some b =>
      have hb : b ≠ a := fun z => by subst z; exact hj (r.nd i j b ha e1)
      cases o' with
      | lst ds => obtain ⟨vs, e2, z, p⟩ := q; exact ⟨vs, by rw [upd_ne hb]; exact e2, z, DReps.step s _ _ p⟩
      | dic ds => obtain ⟨vs, e2, z, p⟩ := q; exact ⟨vs, by rw [upd_ne hb]; exact e2, z, KReps.step s _ _ p⟩
      | dead => exact q
/-- a new store object -/
theorem SRel.alloc (r : SRel K as st H) {p : Addr} {o : O} {u : HO} (hp : H p = none) (hu : ∀ (as' : Ads), Step as as' H (upd H p u) → ORep K as' (upd H p u) (some p) o) :
    Step as ⟨as.c ++ [some p], as.p⟩ H (upd H p u) ∧ SRel K ⟨as.c ++ [some p], as.p⟩ (st ++ [o]) (upd H p u) ∧ VRep K ⟨as.c ++ [some p], as.p⟩ (upd H p u) (.ref p) (.mref st.length) := by
  have fr := r.fresh hp
  have s : Step as ⟨as.c ++ [some p], as.p⟩ H (upd H p u) := by
    refine ⟨by simp, fun j a h => .inl ?_, fun j h => ?_, fun a h => ?_, fun a x e _ => ?_, fun a xs e => ?_, rfl⟩
    · have hj : j < as.c.length := by
        by_cases hl : j < as.c.length
        · exact hl
        · rw [List.getElem?_eq_none (by simpa using hl)] at h; cases h
      show (as.c ++ [some p])[j]? = _
      rw [List.getElem?_append_left hj]; exact h
    · have hj : j < as.c.length := by
        by_cases hl : j < as.c.length
        · exact hl
        · rw [List.getElem?_eq_none (by simpa using hl)] at h; cases h
      show (as.c ++ [some p])[j]? = _
      rw [List.getElem?_append_left hj]; exact h
    · rcases List.mem_append.mp h with h | h
      · exact .inl h
      · simp at h; subst h; exact .inr hp
    · rw [upd_ne (ne_of_none e hp)]; exact e
    · rw [upd_ne (ne_of_none e hp)]; exact e
  have ho := hu _ s
  refine ⟨s, ⟨by simp [r.len], fun i j a h1 h2 => ?_, fun i o' e => ?_, fun b hb => let ⟨o, e⟩ := r.pr b hb; ⟨o, by rw [upd_ne (ne_of_none e hp)]; exact e⟩, fun b hb m => ?_⟩, ?_⟩
  · have key : ∀ {i : Nat}, (as.c ++ [some p])[i]? = some (some a) → (as.c[i]? = some (some a) ∧ a ≠ p) ∨ (i = as.c.length ∧ a = p) := fun {i} h => by
      by_cases hi : i < as.c.length
      · rw [List.getElem?_append_left hi] at h
        exact .inl ⟨h, fun z => by subst z; exact fr (.inl (List.mem_of_getElem? h))⟩
      · rw [List.getElem?_append_right (by omega)] at h
        by_cases hz : i - as.c.length = 0
        · rw [hz] at h; simp at h; exact .inr ⟨by omega, h.symm⟩
        · rw [List.getElem?_eq_none (by simp; omega)] at h; cases h
    rcases key h1 with ⟨a1, a2⟩ | ⟨a1, a2⟩
    · rcases key h2 with ⟨b1, b2⟩ | ⟨b1, b2⟩
      · exact r.nd i j a a1 b1
      · exact absurd b2 a2
    · rcases key h2 with ⟨b1, b2⟩ | ⟨b1, b2⟩
      · exact absurd a2 b2
      · omega
  · by_cases hi : i < st.length
    · rw [List.getElem?_append_left hi] at e
      obtain ⟨x, e1, q⟩ := r.rep i o' e
      refine ⟨x, by show (as.c ++ [some p])[i]? = _; rw [List.getElem?_append_left (by rw [r.len]; exact hi)]; exact e1, ?_⟩
      cases x with
      | none => cases o' <;> exact q
      | some b =>
        have hb : b ≠ p := fun z => by subst z; exact fr (.inl (List.mem_of_getElem? e1))
        cases o' with
        | lst ds => obtain ⟨vs, e2, z, q⟩ := q; exact ⟨vs, by rw [upd_ne hb]; exact e2, z, DReps.step s _ _ q⟩
        | dic ds => obtain ⟨vs, e2, z, q⟩ := q; exact ⟨vs, by rw [upd_ne hb]; exact e2, z, KReps.step s _ _ q⟩
        | dead => exact q
    · rw [List.getElem?_append_right (by omega)] at e
      by_cases hz : i - st.length = 0
      · rw [hz] at e
        simp at e
        subst e
        refine ⟨some p, ?_, ho⟩
        show (as.c ++ [some p])[i]? = _
        rw [List.getElem?_append_right (by rw [r.len]; omega)]
        have : i - as.c.length = 0 := by rw [r.len]; exact hz
        rw [this]; rfl
      · rw [List.getElem?_eq_none (by simp; omega)] at e; cases e
  · rcases List.mem_append.mp m with m | m
    · exact r.dj b hb m
    · simp at m
      subst m
      exact fr (.inr hb)
  · refine ⟨by simp [r.len], fun a h => ?_⟩
    have h : (as.c ++ [some p])[st.length]? = some (some a) := h
    rw [← r.len, List.getElem?_append_right (Nat.le_refl _)] at h
    simp at h
    rw [h]
end

section
variable {X : Cx} {Γ : Fns} {con : Nat → Option D} {a b : Expr} {es : List Expr} {ca cb : CE} {cs : List CE} {pos : Pos}
theorem pda_nil : PA X [] (tAs X.K Γ con []) := pa_nil.impD fun σ H Q ⟨as, env, st, ds, st', er, sr, e, q⟩ => by
  simp only [evEs] at e
  cases e
  exact q [] H as (Step.refl _ _) sr .nil
theorem pda_cons (ha : PE X a (tE X.K Γ con ca)) (hr : PA X es (tAs X.K Γ con cs)) (hs : starEach (a :: es) X.env = (false, eval a X.env) :: starEach es X.env) : PA X (a :: es) (tAs X.K Γ con (ca :: cs)) :=
  (pa_cons ha hr hs).impD fun σ H Q ⟨as, env, st, ds, st', er, sr, e, q⟩ => by
    simp only [evEs] at e
    obtain ⟨⟨x, st1⟩, e1, e⟩ := Res.bind_ok e
    obtain ⟨⟨xs, st2⟩, e2, e⟩ := Res.bind_ok e
    cases e
    exact ⟨as, env, st, x, st1, er, sr, e1, fun v H1 as1 s1 sr1 hv => ⟨as1, env, st1, xs, _, er.step s1, sr1, e2, fun vs H2 as2 s2 sr2 hvs => q _ _ as2 (s1.trans s2) sr2 (.cons (hv.step s2) hvs)⟩⟩
theorem pd_tup {k : Nat} (h : PA X es (tAs X.K Γ con cs)) : PE X (.Tuple es k pos) (tE X.K Γ con (.tup cs)) :=
  (pe_tup h).impD fun σ H Q ⟨as, env, st, d, st', er, sr, e, q⟩ => by
    simp only [evE] at e
    obtain ⟨⟨ds, st1⟩, e1, e⟩ := Res.bind_ok e
    simp only at e
    split at e
    · rename_i hz
      simp only [Bool.and_eq_true, decide_eq_true_eq] at hz
      cases e
      refine ⟨as, env, st, ds, _, er, sr, e1, fun vs H1 as1 s1 sr1 hv => ?_⟩
      have hl : vs.length ≤ sizeLine := by rw [hv.length, ← LIM_eq]; exact hz.2
      refine ⟨hl, fun p hp => q _ _ as1 (s1.trans (Step.same (same_new hp))) (sr1.same (same_new hp)) (new_tup hp hl (hv.ds hz.1)).toV⟩
    · cases e
theorem pd_lst (h : PA X es (tAs X.K Γ con cs)) : PE X (.List es pos) (tE X.K Γ con (.lst cs)) :=
  (pe_lst h).impD fun σ H Q ⟨as, env, st, d, st', er, sr, e, q⟩ => by
    simp only [evE] at e
    obtain ⟨⟨ds, st1⟩, e1, e⟩ := Res.bind_ok e
    simp only at e
    split at e
    · rename_i hz
      simp only [Bool.and_eq_true, decide_eq_true_eq] at hz
      cases e
      refine ⟨as, env, st, ds, _, er, sr, e1, fun vs H1 as1 s1 sr1 hv => ?_⟩
      have hl : vs.length ≤ sizeLine := by rw [hv.length, ← LIM_eq]; exact hz.2
      refine ⟨hl, fun p hp => q _ _ as1 (s1.trans (Step.same (same_new hp))) (sr1.same (same_new hp)) (new_lst sr1 hp hl (hv.ds hz.1)).toV⟩
    · cases e
theorem pd_lstM (h : PA X es (tAs X.K Γ con cs)) : PE X (.List es pos) (tE X.K Γ con (.lstM cs)) :=
  (pe_lst h).impD fun σ H Q ⟨as, env, st, d, st', er, sr, e, q⟩ => by
    simp only [evE] at e
    obtain ⟨⟨ds, st1⟩, e1, e⟩ := Res.bind_ok e
    simp only at e
    split at e
    · rename_i hz
      simp only [Bool.and_eq_true, decide_eq_true_eq] at hz
      cases e
      refine ⟨as, env, st, ds, _, er, sr, e1, fun vs H1 as1 s1 sr1 hv => ?_⟩
      have hl : vs.length ≤ sizeLine := by rw [hv.length, ← LIM_eq]; exact hz.2
      refine ⟨hl, fun p hp => ?_⟩
      obtain ⟨s2, sr2, hv2⟩ := sr1.alloc (o := .lst ds) (u := .lst vs) hp fun as' s => ⟨vs, upd_same, hl, DReps.step s _ _ (hv.ds hz.1)⟩
      exact q _ _ _ (s1.trans s2) sr2 hv2
    · cases e
theorem pd_idx (hu : X.A.units + 1 < cLine) (ha : PE X a (tE X.K Γ con ca)) (hb : PE X b (tE X.K Γ con cb)) (hs : PlainIx b) : PE X (.Subscript a b pos) (tE X.K Γ con (.idx ca cb)) :=
  (pe_ix (ix_data hu) ha hb hs).impD fun σ H Q ⟨as, env, st, d, st', er, sr, e, q⟩ => by
    simp only [evE] at e
    obtain ⟨⟨x, st1⟩, e1, e⟩ := Res.bind_ok e
    obtain ⟨⟨y, st2⟩, e2, e⟩ := Res.bind_ok e
    obtain ⟨d', e3, e4⟩ := Res.bind_ok e
    cases e4
    exact ⟨as, env, st, x, st1, er, sr, e1, fun v H1 as1 s1 sr1 hv => ⟨as1, env, st1, y, _, er.step s1, sr1, e2, fun u H2 as2 s2 sr2 hu =>
      ⟨as2, _, x, y, _, sr2, hv.step s2, hu, e3, fun w hw => q w H2 as2 (s1.trans s2) sr2 hw.toV⟩⟩⟩
theorem po_data_none : PO X none (tOs X.K Γ con none) := ⟨fun pins s σ H Q I ⟨as, env, st, o, st', er, sr, e, q⟩ => by
  simp only [evO] at e
  refine po_none.run pins s σ H Q I ?_
  cases o with
  | none => cases e; exact q H as (Step.refl _ _) sr
  | some i => cases e⟩
theorem po_data_some (h : PE X a (tE X.K Γ con ca)) : PO X (some a) (tOs X.K Γ con (some ca)) := ⟨fun pins s σ H Q I ⟨as, env, st, o, st', er, sr, e, q⟩ => by
  simp only [evO] at e
  obtain ⟨⟨x, st1⟩, e1, e⟩ := Res.bind_ok e
  refine (po_some h).run pins s σ H Q I ?_
  cases o with
  | none => cases e
  | some i =>
    cases e
    exact ⟨as, env, st, _, _, er, sr, e1, fun v H1 as1 s1 sr1 hv => by
      cases hv
      exact ⟨i, rfl, q H1 as1 s1 sr1⟩⟩⟩
theorem slc_parts {x : D} {l h : Option D} {d : D} (e : slc x l h = .ok d) : ∃ lo hi : Option Int, l = lo.map D.int ∧ h = hi.map D.int := by
  have key : ∀ {o : Option D} {r : Option Int}, optI o = some r → o = r.map D.int := fun {o r} e => by
    cases o with
    | none => cases e; rfl
    | some z => cases z <;> cases e; rfl
  cases x with
  | lst ds =>
    simp only [slc] at e
    split at e
    · rename_i l' h' e1 e2; exact ⟨l', h', key e1, key e2⟩
    · cases e
  | tup ds =>
    simp only [slc] at e
    split at e
    · rename_i l' h' e1 e2; exact ⟨l', h', key e1, key e2⟩
    · cases e
  | _ => cases e
theorem pd_slc {lo hi : Option Expr} {cl ch : Option CE} {p2 : Pos} (ha : PE X a (tE X.K Γ con ca)) (hl : PO X lo (tOs X.K Γ con cl)) (hh : PO X hi (tOs X.K Γ con ch)) : PE X (.Subscript a (.Slice lo hi none p2) pos) (tE X.K Γ con (.slc ca cl ch)) :=
  (pe_slice sl_data ha hl hh).impD fun σ H Q ⟨as, env, st, d, st', er, sr, e, q⟩ => by
    simp only [evE] at e
    obtain ⟨⟨x, st1⟩, e1, e⟩ := Res.bind_ok e
    obtain ⟨⟨l, st2⟩, e2, e⟩ := Res.bind_ok e
    obtain ⟨⟨h, st3⟩, e3, e⟩ := Res.bind_ok e
    obtain ⟨d', e4, e5⟩ := Res.bind_ok e
    cases e5
    obtain ⟨lo', hi', rfl, rfl⟩ := slc_parts e4
    exact ⟨as, env, st, x, st1, er, sr, e1, fun v H1 as1 s1 sr1 hv => ⟨as1, env, st1, lo', _, er.step s1, sr1, e2, fun H2 as2 s2 sr2 =>
      ⟨as2, env, st2, hi', _, (er.step s1).step s2, sr2, e3, fun H3 as3 s3 sr3 => ⟨as3, _, x, _, sr3, (hv.step s2).step s3, e4, fun w H4 sm hw => q w H4 as3 (((s1.trans s2).trans s3).trans (Step.same sm)) (sr3.same sm) hw.toV⟩⟩⟩⟩

theorem tb_of {bb : B} {r : List V → Hp → VK → Prop} (hr : ∀ vs H Q, RB X.K bb vs H Q → r vs H Q) {t : TA} (ht : t = tAs X.K Γ con cs) : ∀ σ H Q, tE X.K Γ con (.bi bb cs) σ H Q → tCB r t σ H Q := fun σ H Q ⟨as, env, st, d, st', er, sr, e, q⟩ => by
  subst ht
  simp only [evE] at e
  obtain ⟨⟨ds, st1⟩, e1, e⟩ := Res.bind_ok e
  obtain ⟨d', e2, e3⟩ := Res.bind_ok e
  cases e3
  exact ⟨as, env, st, ds, _, er, sr, e1, fun vs H1 as1 s1 sr1 hv => hr _ _ _ ⟨as1, _, ds, _, sr1, hv, e2, fun w H2 sm hw => q w H2 as1 (s1.trans (Step.same sm)) (sr1.same sm) hw.toV⟩⟩
theorem pd_bi {x : Str} {id : String} {bb : B} {p : Pos} (hc : CallR X (.builtin id) (RB X.K bb)) (hg : Gl X x) (hm : X.mg x = none) (hv : bootBuiltins x = some (.builtin id)) (hA : PA X (a :: es) (tAs X.K Γ con cs)) (hn : x ≠ "__name__") (hdb : (x == ("__debug__" : Str)) = false)
    (he : starEach (a :: es) X.env = (false, eval a X.env) :: starEach es X.env) (hpl : (backTo pos (starEach es X.env)).any (·.1) = false) : PE X (.Call (.Name x p) (a :: es) [] pos) (tE X.K Γ con (.bi bb cs)) :=
  (pe_callB hc hg hm hv hA hn hdb he hpl).impD (tb_of (fun _ _ _ z => z) rfl)
theorem pd_biTy {x : Str} {T : String} {bb : B} {p : Pos} (hc : CallR X (.type T) (RB X.K bb)) (hg : Gl X x) (hm : X.mg x = none) (hv : bootBuiltins x = some (.type T)) (hA : PA X (a :: es) (tAs X.K Γ con cs)) (hn : x ≠ "__name__") (hdb : (x == ("__debug__" : Str)) = false)
    (he : starEach (a :: es) X.env = (false, eval a X.env) :: starEach es X.env) (hpl : (backTo pos (starEach es X.env)).any (·.1) = false) : PE X (.Call (.Name x p) (a :: es) [] pos) (tE X.K Γ con (.bi bb cs)) :=
  (pe_callTy hc hg hm hv hA hn hdb he hpl).impD (tb_of (fun _ _ _ z => z) rfl)
/-- isinstance(e, T), T a built-in class -/
theorem pd_isi {bb : B} {p pt : Pos} {tn : Str} (hb : isIsi bb = true) (hg : Gl X "isinstance") (hm : X.mg "isinstance" = none) (hgt : Gl X tn) (hmt : X.mg tn = none) (hvt : bootBuiltins tn = some (.type (isiT bb))) (hnt : tn ≠ "__name__") (hdt : (tn == ("__debug__" : Str)) = false)
    (ha : PE X a (tE X.K Γ con ca)) (hs : starEach [a, .Name tn pt] X.env = (false, eval a X.env) :: starEach [.Name tn pt] X.env) :
    PE X (.Call (.Name "isinstance" p) [a, .Name tn pt] [] pos) (tE X.K Γ con (.bi bb [ca])) :=
  (pe_callB (c_isi hb) hg hm (by decide +kernel) (pa_cons ha (pa_cons (pe_bltn (v := .ty (isiT bb)) hgt hmt hvt rfl hnt hdt) pa_nil) hs) (by decide) (by decide) hs).impD fun σ H Q ⟨as, env, st, d, st', er, sr, e, q⟩ => by
    simp only [evE, evEs] at e
    obtain ⟨⟨ds, st1⟩, e1, e⟩ := Res.bind_ok e
    obtain ⟨⟨x, st2⟩, e1', e1⟩ := Res.bind_ok e1
    cases e1
    obtain ⟨d', e2, e3⟩ := Res.bind_ok e
    cases e3
    exact ⟨as, env, st, x, _, er, sr, e1', fun v H1 as1 s1 sr1 hv => ⟨v, rfl, as1, _, [x], _, sr1, .cons hv .nil, e2, fun w H2 sm hw => q w H2 as1 (s1.trans (Step.same sm)) (sr1.same sm) hw.toV⟩⟩
/-- list(e), to be changed -/
theorem pd_copyM {p : Pos} (hg : Gl X "list") (hm : X.mg "list" = none) (ha : PE X a (tE X.K Γ con ca)) (hs : starEach [a] X.env = (false, eval a X.env) :: starEach [] X.env) : PE X (.Call (.Name "list" p) [a] [] pos) (tE X.K Γ con (.copyM ca)) :=
  (pe_callTy call_list_of hg hm (by decide +kernel) (pa_cons ha pa_nil hs) (by decide) (by decide) hs).impD fun σ H Q ⟨as, env, st, d, st', er, sr, e, q⟩ => by
    simp only [evE] at e
    obtain ⟨⟨x, st1⟩, e1, e⟩ := Res.bind_ok e
    obtain ⟨ds, e2, e3⟩ := Res.bind_ok e
    cases e3
    refine ⟨as, env, st, x, _, er, sr, e1, fun v H1 as1 s1 sr1 hv => ?_⟩
    have key : ∀ (a : Addr) (vs : List V), v = .ref a → (SqL X.K H1 a vs ∨ SqT X.K H1 a vs) → vs.length ≤ sizeLine → DReps X.K as1 H1 vs ds → ∃ p ys, [v] = [V.ref p] ∧ (SqL X.K H1 p ys ∨ SqT X.K H1 p ys) ∧ ∀ l, H1 l = none → Q (.ref l) (upd H1 l (.lst ys)) :=
      fun a vs ev h1 h2 h3 => by
        subst ev
        refine ⟨a, vs, rfl, h1, fun p hp => ?_⟩
        obtain ⟨s2, sr2, hv2⟩ := sr1.alloc (o := .lst ds) (u := .lst vs) hp fun as' s => ⟨vs, upd_same, h2, DReps.step s _ _ h3⟩
        exact q _ _ _ (s1.trans s2) sr2 hv2
    cases hd : snap st1 x with
    | lst ds' => rw [hd] at e2; cases e2; obtain ⟨a, vs, ev, h1, h2, h3⟩ := hv.lst sr1 hd; exact key a vs ev (.inl (.inl (.inl h1))) h2 h3
    | ro ds' => rw [hd] at e2; cases e2; obtain ⟨a, vs, ev, h1, h2, h3⟩ := hv.ro sr1 hd; exact key a vs ev (.inl h1) h2 h3
    | tup ds' => rw [hd] at e2; cases e2; obtain ⟨a, vs, ev, h1, h2, h3⟩ := hv.tup sr1 hd; exact key a vs ev (.inr h1.sq) h2 h3
    | _ => rw [hd] at e2; cases e2
end
end En

set_option Elab.async false
set_option linter.all false
set_option maxRecDepth 100000
set_option maxHeartbeats 1000000
namespace En
open PySem PySem.Spec PyProof.Rows L2
section
variable {K : PySem.W.Frag} {as : Ads} {H : Hp} {st : Sto} {v : V} {x : D}
theorem getLst_ok {i : Nat} {ds : List D} (h : getLst st x = .ok (i, ds)) : x = .mref i ∧ st[i]? = some (.lst ds) := by
  cases x with
  | mref j =>
    simp only [getLst] at h
    split at h
    · rename_i q; cases h; exact ⟨rfl, q⟩
    · cases h
  | _ => cases h
theorem getLst_at {i : Nat} {ds : List D} (r : SRel K as st H) (hv : VRep K as H v x) (h : getLst st x = .ok (i, ds)) : ∃ a vs, v = .ref a ∧ as.c[i]? = some (some a) ∧ H a = some (.lst vs) ∧ vs.length ≤ sizeLine ∧ DReps K as H vs ds := by
  obtain ⟨rfl, q⟩ := getLst_ok h
  obtain ⟨a, vs, e1, e2⟩ := r.lst q
  exact ⟨a, vs, hv.2 a e1, e1, e2⟩
end
section
variable {X : Cx} {Γ : Fns} {con : Nat → Option D} {o a b : Expr} {es : List Expr} {co ca cb : CE} {cs : List CE} {pos apos : Pos}
theorem pd_append (ho : PE X o (tE X.K Γ con co)) (ha : PE X a (tE X.K Γ con ca)) (hbase : attributeBase o "append" X.env (eval o X.env) = eval o X.env) (hline : (apos.endLine == pos.line) = true) (hs : starEach [a] X.env = (false, eval a X.env) :: starEach [] X.env) :
    PE X (.Call (.Attribute o "append" apos) [a] [] pos) (tE X.K Γ con (.append co ca)) :=
  (pe_bm PySem.F.plainAttrs_list PySem.F.slot_list_append PySem.F.type_list_append mt_append ho (pa_cons ha pa_nil hs) hbase (by rw [hs]; rfl) hline hs rfl).impD fun σ H Q ⟨as, env, st, d, st', er, sr, e, q⟩ => by
    simp only [evE] at e
    obtain ⟨⟨x, st1⟩, e1, e⟩ := Res.bind_ok e
    obtain ⟨⟨i0, ds0⟩, e2, e⟩ := Res.bind_ok e
    obtain ⟨⟨y, st2⟩, e3, e⟩ := Res.bind_ok e
    obtain ⟨⟨i, ds⟩, e4, e⟩ := Res.bind_ok e
    simp only at e
    split at e
    · cases e
    · rename_i hz
      simp only [Bool.or_eq_true, decide_eq_true_eq, not_or, Bool.not_eq_true] at hz
      cases e
      refine ⟨as, env, st, x, st1, er, sr, e1, fun v H1 as1 s1 sr1 hv => ?_⟩
      obtain ⟨a0, vs0, ev, g1, g2, g3, g4⟩ := getLst_at sr1 hv e2
      refine ⟨by rw [ev]; exact .inl ⟨rfl, vs0, .inl (.inl g2)⟩, as1, env, st1, y, st2, er.step s1, sr1, e3, fun u H2 as2 s2 sr2 hu => ?_⟩
      obtain ⟨a1, vs, ev1, k1, k2, k3, k4⟩ := getLst_at sr2 (hv.step s2) e4
      have hl : vs.length < sizeLine := by rw [k4.length, ← LIM_eq]; omega
      refine ⟨a1, vs, u, ev1, rfl, k2, hl, ?_⟩
      have hu' := hu.toD hz.1
      obtain ⟨s3, sr3⟩ := sr2.write (i := i) (o := .lst (ds ++ [y])) (u := .lst (vs ++ [u])) k1 fun s0 => ⟨_, upd_same, by simp; omega, DReps.step s0 _ _ (k4.append (.cons hu' .nil))⟩
      exact q _ _ as2 ((s1.trans s2).trans s3) sr3 DRep.non.toV
theorem pd_extend (ho : PE X o (tE X.K Γ con co)) (ha : PE X a (tE X.K Γ con ca)) (hbase : attributeBase o "extend" X.env (eval o X.env) = eval o X.env) (hline : (apos.endLine == pos.line) = true) (hs : starEach [a] X.env = (false, eval a X.env) :: starEach [] X.env) :
    PE X (.Call (.Attribute o "extend" apos) [a] [] pos) (tE X.K Γ con (.extend co ca)) :=
  (pe_bm PySem.F.plainAttrs_list PySem.F.slot_list_extend PySem.F.type_list_extend mt_extend ho (pa_cons ha pa_nil hs) hbase (by rw [hs]; rfl) hline hs rfl).impD fun σ H Q ⟨as, env, st, d, st', er, sr, e, q⟩ => by
    simp only [evE] at e
    obtain ⟨⟨x, st1⟩, e1, e⟩ := Res.bind_ok e
    obtain ⟨⟨i0, ds0⟩, e2, e⟩ := Res.bind_ok e
    obtain ⟨⟨y, st2⟩, e3, e⟩ := Res.bind_ok e
    obtain ⟨⟨i, ds⟩, e4, e⟩ := Res.bind_ok e
    simp only at e
    split at e
    · rename_i ys hy
      split at e
      · cases e
      · rename_i hz
        simp only [decide_eq_true_eq] at hz
        cases e
        refine ⟨as, env, st, x, st1, er, sr, e1, fun v H1 as1 s1 sr1 hv => ?_⟩
        obtain ⟨a0, vs0, ev, g1, g2, g3, g4⟩ := getLst_at sr1 hv e2
        refine ⟨by rw [ev]; exact .inl ⟨rfl, vs0, .inl (.inl g2)⟩, as1, env, st1, y, st2, er.step s1, sr1, e3, fun u H2 as2 s2 sr2 hu => ?_⟩
        obtain ⟨a1, vs, ev1, k1, k2, k3, k4⟩ := getLst_at sr2 (hv.step s2) e4
        obtain ⟨b1, us, ev2, m2, m3, m4⟩ := hu.lst sr2 hy
        have hl : vs.length + us.length ≤ sizeLine := by rw [k4.length, m4.length, ← LIM_eq]; omega
        refine ⟨a1, b1, vs, us, ev1, by rw [ev2], k2, m2, hl, ?_⟩
        obtain ⟨s3, sr3⟩ := sr2.write (i := i) (o := .lst (ds ++ ys)) (u := .lst (vs ++ us)) k1 fun s0 => ⟨_, upd_same, by simp; omega, DReps.step s0 _ _ (k4.append m4)⟩
        exact q _ _ as2 ((s1.trans s2).trans s3) sr3 DRep.non.toV
    · cases e
theorem pd_pop (ho : PE X o (tE X.K Γ con co)) (hbase : attributeBase o "pop" X.env (eval o X.env) = eval o X.env) (hline : (apos.endLine == pos.line) = true) :
    PE X (.Call (.Attribute o "pop" apos) [] [] pos) (tE X.K Γ con (.pop co)) :=
  (pe_bm0 PySem.F.plainAttrs_list PySem.F.slot_list_pop PySem.F.type_list_pop mt_pop ho hbase hline).impD fun σ H Q ⟨as, env, st, d, st', er, sr, e, q⟩ => by
    simp only [evE] at e
    obtain ⟨⟨x, st1⟩, e1, e⟩ := Res.bind_ok e
    obtain ⟨⟨i, ds⟩, e2, e⟩ := Res.bind_ok e
    simp only at e
    split at e
    · rename_i d' hd
      cases e
      refine ⟨as, env, st, x, st1, er, sr, e1, fun v H1 as1 s1 sr1 hv => ?_⟩
      obtain ⟨a1, vs, ev, k1, k2, k3, k4⟩ := getLst_at sr1 hv e2
      have hg : ds[ds.length - 1]? = some d := by rw [← List.getLast?_eq_getElem?]; exact hd
      obtain ⟨w, hw1, hw2⟩ := k4.get hg
      refine ⟨by rw [ev]; exact .inl ⟨rfl, vs, .inl (.inl k2)⟩, a1, vs, w, ev, rfl, k2, by rw [k4.length]; exact hw1, ?_⟩
      obtain ⟨s3, sr3⟩ := sr1.write (i := i) (o := .lst ds.dropLast) (u := .lst vs.dropLast) k1 fun s0 => ⟨_, upd_same, by simp; omega, DReps.step s0 _ _ (by
        rw [List.dropLast_eq_take, List.dropLast_eq_take, k4.length]; exact k4.take _)⟩
      exact q _ _ as1 (s1.trans s3) sr3 (DRep.step s3 _ _ hw2).toV
    · cases e
theorem pd_popAt (ho : PE X o (tE X.K Γ con co)) (ha : PE X a (tE X.K Γ con ca)) (hbase : attributeBase o "pop" X.env (eval o X.env) = eval o X.env) (hline : (apos.endLine == pos.line) = true) (hs : starEach [a] X.env = (false, eval a X.env) :: starEach [] X.env) :
    PE X (.Call (.Attribute o "pop" apos) [a] [] pos) (tE X.K Γ con (.popAt co ca)) :=
  (pe_bm PySem.F.plainAttrs_list PySem.F.slot_list_pop PySem.F.type_list_pop mt_popAt ho (pa_cons ha pa_nil hs) hbase (by rw [hs]; rfl) hline hs rfl).impD fun σ H Q ⟨as, env, st, d, st', er, sr, e, q⟩ => by
    simp only [evE] at e
    obtain ⟨⟨x, st1⟩, e1, e⟩ := Res.bind_ok e
    obtain ⟨⟨i0, ds0⟩, e2, e⟩ := Res.bind_ok e
    obtain ⟨⟨y, st2⟩, e3, e⟩ := Res.bind_ok e
    obtain ⟨⟨i, ds⟩, e4, e⟩ := Res.bind_ok e
    simp only at e
    split at e
    · rename_i k hk
      split at e
      · rename_i h0
        split at e
        · rename_i d' hd
          cases e
          refine ⟨as, env, st, x, st1, er, sr, e1, fun v H1 as1 s1 sr1 hv => ?_⟩
          obtain ⟨a0, vs0, ev, g1, g2, g3, g4⟩ := getLst_at sr1 hv e2
          refine ⟨by rw [ev]; exact .inl ⟨rfl, vs0, .inl (.inl g2)⟩, as1, env, st1, _, st2, er.step s1, sr1, e3, fun u H2 as2 s2 sr2 hu => ?_⟩
          obtain ⟨a1, vs, ev1, k1, k2, k3, k4⟩ := getLst_at sr2 (hv.step s2) e4
          cases hu
          obtain ⟨w, hw1, hw2⟩ := k4.get hd
          have hlt : k.toNat < vs.length := by
            by_cases hl : k.toNat < vs.length
            · exact hl
            · rw [List.getElem?_eq_none (by simpa using hl)] at hw1; cases hw1
          have hz := sizeLine_eq
          refine ⟨a1, vs, k, k.toNat, w, ev1, rfl, k2, by omega, by omega, seqIndex_of h0 (by omega), hw1, ?_⟩
          obtain ⟨s3, sr3⟩ := sr2.write (i := i) (o := .lst (ds.eraseIdx k.toNat)) (u := .lst (vs.eraseIdx k.toNat)) k1 fun s0 => ⟨_, upd_same, by have := List.length_eraseIdx_le vs k.toNat; omega, DReps.step s0 _ _ (k4.eraseIdx _)⟩
          exact q _ _ as2 ((s1.trans s2).trans s3) sr3 (DRep.step s3 _ _ hw2).toV
        · cases e
      · cases e
    · cases e
theorem pd_dnew : PE X (.Dict [] [] pos) (tE X.K Γ con .dnew) :=
  pe_dnewK.impD fun σ H Q ⟨as, env, st, d, st', er, sr, e, q⟩ p hp => by
    simp only [evE] at e
    cases e
    obtain ⟨s2, sr2, hv2⟩ := sr.alloc (o := .dic []) (u := .dK []) hp fun as' s => ⟨[], upd_same, Nat.zero_le _, .nil⟩
    exact q _ _ _ s2 sr2 hv2
theorem pd_dget1 (hu : X.A.units + 1 < cLine) (ho : PE X o (tE X.K Γ con co)) (ha : PE X a (tE X.K Γ con ca)) (m : M1 X o "get" apos a pos) : PE X (.Call (.Attribute o "get" apos) [a] [] pos) (tE X.K Γ con (.dget co ca none)) :=
  (pe_dget1 hu ho ha m).impD fun σ H Q ⟨as, env, st, d, st', er, sr, e, q⟩ => by
    simp only [evE, evO] at e
    obtain ⟨⟨od, st1⟩, e1, e⟩ := Res.bind_ok e
    obtain ⟨kvs0, e2, e⟩ := Res.bind_ok e
    obtain ⟨⟨kd, st2⟩, e3, e⟩ := Res.bind_ok e
    simp only [Res.ok_bind] at e
    split at e
    · rename_i kvs k hk1 hk2
      cases e
      have h0 : snap st1 od = .dic kvs0 := by
        cases hq : snap st1 od <;> simp only [hq, asDic] at e2 <;> first | (cases e2; rfl) | cases e2
      refine ⟨as, env, st, od, st1, er, sr, e1, fun v H1 as1 s1 sr1 hv => ?_⟩
      obtain ⟨a1, vs, ev, g1, _⟩ := hv.dic sr1 h0
      refine ⟨a1, ev, .inl ⟨vs, g1⟩, as1, env, st1, kd, _, er.step s1, sr1, e3, fun u H2 as2 s2 sr2 hu2 => ?_⟩
      obtain ⟨a2, o2, ev2, k1, k2, k3⟩ := m_dget (X := X) (pins := []) (s := X.s_0) (σ := σ) (hv.step s2) hu2 sr2 hk1 hk2
      have ea : a1 = a2 := by rw [ev] at ev2; cases ev2; rfl
      subst ea
      refine ⟨o2, k2, ?_⟩
      rcases k3 with ⟨d', w, j1, rfl, j2⟩ | ⟨j1, rfl⟩
      · rw [j1] at q
        exact q _ _ as2 (s1.trans s2) sr2 j2.toV
      · rw [j1] at q
        exact q _ _ as2 (s1.trans s2) sr2 DRep.non.toV
    · cases e
theorem pd_dget2 {f : Expr} {cf : CE} (hu : X.A.units + 1 < cLine) (ho : PE X o (tE X.K Γ con co)) (ha : PE X a (tE X.K Γ con ca)) (hf : PE X f (tE X.K Γ con cf)) (m : M2 X o "get" apos a f pos) : PE X (.Call (.Attribute o "get" apos) [a, f] [] pos) (tE X.K Γ con (.dget co ca (some cf))) :=
  (pe_dget2 hu ho ha hf m).impD fun σ H Q ⟨as, env, st, d, st', er, sr, e, q⟩ => by
    simp only [evE, evO] at e
    obtain ⟨⟨od, st1⟩, e1, e⟩ := Res.bind_ok e
    obtain ⟨kvs0, e2, e⟩ := Res.bind_ok e
    obtain ⟨⟨kd, st2⟩, e3, e⟩ := Res.bind_ok e
    obtain ⟨⟨fo, st3⟩, e4, e⟩ := Res.bind_ok e
    obtain ⟨⟨fd, st4⟩, e5, e6⟩ := Res.bind_ok e4
    cases e6
    simp only at e
    split at e
    · rename_i kvs k hk1 hk2
      cases e
      have h0 : snap st1 od = .dic kvs0 := by
        cases hq : snap st1 od <;> simp only [hq, asDic] at e2 <;> first | (cases e2; rfl) | cases e2
      refine ⟨as, env, st, od, st1, er, sr, e1, fun v H1 as1 s1 sr1 hv => ?_⟩
      obtain ⟨a1, vs, ev, g1, _⟩ := hv.dic sr1 h0
      refine ⟨a1, ev, .inl ⟨vs, g1⟩, as1, env, st1, kd, _, er.step s1, sr1, e3, fun u H2 as2 s2 sr2 hu2 => ⟨as2, env, _, fd, _, (er.step s1).step s2, sr2, e5, fun z H3 as3 s3 sr3 hz => ?_⟩⟩
      obtain ⟨a2, o2, ev2, k1, k2, k3⟩ := m_dget (X := X) (pins := []) (s := X.s_0) (σ := σ) ((hv.step s2).step s3) (hu2.step s3) sr3 hk1 hk2
      have ea : a1 = a2 := by rw [ev] at ev2; cases ev2; rfl
      subst ea
      refine ⟨o2, k2, ?_⟩
      rcases k3 with ⟨d', w, j1, rfl, j2⟩ | ⟨j1, rfl⟩
      · rw [j1] at q
        exact q _ _ as3 ((s1.trans s2).trans s3) sr3 j2.toV
      · rw [j1] at q
        exact q _ _ as3 ((s1.trans s2).trans s3) sr3 hz
    · cases e
end
end En

set_option Elab.async false
set_option linter.all false
set_option maxRecDepth 100000
set_option maxHeartbeats 1000000
namespace En
open PySem PySem.Spec PyProof.Rows L2
section
open AutoSeq1 (wpAny_loadPart')
theorem meets_enum_tup (l : Addr) (items : Array Value) (n : Nat) (dct : Option Addr) (sl : Array (Option Value)) :
    Meets (Builtin.«enumerate.__new__» ⟨[.type "enumerate", .ref l], []⟩) (fun _ R s => s.heap.get? l = some { cls := .type "tuple", dict := dct, data := .seq items n, slots := sl } ∧
      R (.ok (.ret (.ref (s.heap.push { cls := .type "tuple_iterator", data := .fields #[.ref l, .int 0 0] }).objs.size)))
        { s with heap := (s.heap.push { cls := .type "tuple_iterator", data := .fields #[.ref l, .int 0 0] }).push { cls := .type "enumerate", data := .fields #[.none, .bool false, .ref s.heap.objs.size, rawInt 0, .none, .none] } }) :=
  .of_wp fun prog w A R s h => by
    obtain ⟨hp, g, d, tk, os⟩ := s
    obtain ⟨hl, h⟩ := h
    have hsub := sub_enumerate
    have hT : Heap.IsTuple (Shared.heap ⟨hp, g, d, tk, os⟩) l items := ⟨_, hl, rfl, n, rfl⟩
    wp_walk using wpAny_loadPart' hl
    refine wpAny_stack_any fun st => wpAny_pure ?_
    split
    · rename_i c _ _ _ _ _
      cases (c == Value.type "enumerate")
      · wp_walk using wpAny_loadPart' hl, wpAny_pyIter_tuple hT
        exact ⟨_, rfl, h⟩
      · wp_walk using wpAny_loadPart' hl, wpAny_pyIter_tuple hT
        exact ⟨_, rfl, h⟩
    · wp_walk using wpAny_loadPart' hl, wpAny_pyIter_tuple hT
      exact ⟨_, rfl, h⟩
variable {prog : Program} {w : World} {A : Around} {E : Value → Shared → Prop} {s : Shared}
theorem call_enum_tup {l : Addr} {items : Array Value} {Q : Value → Shared → Prop} (hL : IsTup s.heap l items)
    (h : ∀ h', IsEnum h' (s.heap.objs.size + 1) s.heap.objs.size 0 .none → h'.IsTupleIter s.heap.objs.size l 0 → (∀ b o, s.heap.get? b = some o → h'.get? b = some o) → Q (.ref (s.heap.objs.size + 1)) { s with heap := h' }) :
    wpAny (model prog w) A (call (.type "enumerate") [.ref l]) Q E s := by
  obtain ⟨⟨c, dct, dt, sl⟩, hl, hc, n, hd⟩ := hL
  simp only at hc hd
  subst hc hd
  refine callType_new F.called_enumerate (by decide) (F.typeCall_enumerate_1 _) (F.newCall_enumerate_1 _) (fun obj => F.args_object_init_2 obj _) F.entry_enumerate_new (meets_enum_tup l items n dct sl) ⟨hl, ?_⟩
  have hz : (s.heap.push { cls := .type "tuple_iterator", data := .fields #[.ref l, .int 0 0] }).objs.size = s.heap.objs.size + 1 := Heap.size_push ..
  show _ ∧ _
  rw [hz]
  have he : IsEnum ((s.heap.push { cls := .type "tuple_iterator", data := .fields #[.ref l, .int 0 0] }).push { cls := .type "enumerate", data := .fields #[.none, .bool false, .ref s.heap.objs.size, rawInt 0, .none, .none] }) (s.heap.objs.size + 1) s.heap.objs.size 0 .none := by
    have := Heap.get?_push_size (s.heap.push { cls := .type "tuple_iterator", data := .fields #[.ref l, .int 0 0] }) (o := { cls := .type "enumerate", data := .fields #[.none, .bool false, .ref s.heap.objs.size, rawInt 0, .none, .none] }) rfl
    rw [hz] at this
    exact this
  exact ⟨⟨_, he, rfl⟩, h _ he ⟨_, Heap.get?_push_of_some _ (Heap.get?_push_size _ rfl), rfl, rfl⟩ fun b o x => Heap.get?_push_of_some _ (Heap.get?_push_of_some _ x)⟩
end
/-- the tuple at a, each item in a new pair -/
def IteT (K : PySem.W.Frag) (a : Addr) : It :=
  ⟨fun i H => ∃ (xs : List V) (x : V), SqT K H a xs ∧ xs[i]? = some x, fun i H v H' => ∃ T x, v = .ref T ∧ H T = none ∧ H' = upd H T (.tup [.int (i : Nat), x]) ∧ ∀ xs, SqT K H a xs → xs[i]? = some x, fun i H => ∃ xs : List V, SqT K H a xs ∧ xs.length ≤ i⟩
theorem turn_enumT {P : Program} {w : World} {K : PySem.W.Frag} {elts : List Expr} {kk : Nat} {tpos : Pos} (a e it : Addr) :
    Turn P w K (.Tuple elts kk tpos) (IteT K a) [e, it] e (fun i h => (∃ old, IsEnum h e it ((i : Nat) : Int) old) ∧ h.IsTupleIter it a i ∧ e ≠ it) where
  mem := by simp
  obj := fun i h st b hb => by
    obtain ⟨⟨old, he⟩, ⟨o, ho, hc, hd⟩, _⟩ := st
    have e' : b = e ∨ b = it := by simpa using hb
    rcases e' with z | z
    · rw [z]; exact ⟨_, he, fun v q => nomatch q⟩
    · rw [z]; exact ⟨o, ho, fun v q => by rw [hd] at q; cases q⟩
  keep := fun i h h' st k => let ⟨⟨old, he⟩, hi, hne⟩ := st; ⟨⟨old, k e (by simp) _ he⟩, hi.at fun o q => k it (by simp) o q, hne⟩
  item := by
    intro X hP hw hK hc i pins s σ H E I hf st hg
    subst hP hw hK
    obtain ⟨⟨old, he⟩, hit, hne⟩ := st
    obtain ⟨xs, x, hq, hx⟩ := hg
    obtain ⟨its, rv, p, hz⟩ := I.tuple hq
    obtain ⟨u, hu, ru⟩ := rv.get hx
    have hel : e < s.heap.objs.size := Heap.lt_size he
    have hil : it < s.heap.objs.size := by obtain ⟨_, q, _⟩ := hit; exact Heap.lt_size q
    obtain ⟨op, hop, hcp, _⟩ := id p
    have hai : a ≠ it := fun z => by
      obtain ⟨o2, q2, c2, _⟩ := hit
      rw [z, q2] at hop; cases hop; rw [c2] at hcp; exact absurd (Value.type.inj hcp) (by decide)
    have hae : e ≠ a := fun z => by
      rw [← z] at hop
      have := he.symm.trans hop
      cases this
      exact absurd (Value.type.inj hcp) (by decide)
    have hlt : i < its.toArray.size := by
      by_cases hl : i < its.length
      · simpa using hl
      · rw [List.getElem?_eq_none (by simpa using hl)] at hu; cases hu
    refine wpAny_pyNext_enum_itemD (Draws.tuple (A := X.A.in1) (I.ok.hd hc) it a hai its.toArray) he ⟨hit, p⟩ hlt hne (by simp [hne, hae]) fun x' h' tk px ho hst hT hsz hk => ?_
    have ex : x' = u := by
      have : its.toArray[i]? = some x' := px
      rw [show its.toArray[i]? = its[i]? by simp] at this
      exact Option.some.inj (this.symm.trans hu)
    subst ex
    refine ⟨_, rfl, wpAny_letOwnedTupleGo_enum (s := { s with heap := h', toks := tk + 1 }) ho fun h'' he' sb => ?_⟩
    have hT2 : h''.get? s.heap.objs.size = some { cls := .type "tuple", data := .seq #[.int i tk, x'] } := (sb.2 _ (Nat.ne_of_gt hel)).trans hT
    have new : ObjOk X.prog X.w (upd H s.heap.objs.size (.tup [.int (i : Nat), x])) h'' s.heap.objs.size (.tup [.int (i : Nat), x]) :=
      ⟨by show 2 ≤ sizeLine; decide, [.int i tk, x'], .cons ⟨_, rfl⟩ (.cons ru .nil), ⟨_, hT2, rfl, _, rfl⟩⟩
    have I1 : Inv X pins σ (upd H s.heap.objs.size (.tup [.int (i : Nat), x])) { s with heap := h'', toks := tk + 1 } :=
      I.turnedNew (ch := [e, it]) (fun b ob hb q => (sb.2 b (fun z => hb (by simp [z]))).trans (hk b ob (fun z => hb (by simp [z])) (fun z => hb (by simp [z])) q)) hf (Nat.le_refl _) new
    refine ⟨.ref s.heap.objs.size, _, I1, rfl, ⟨_, x, rfl, I.hok.fresh (Nat.le_refl _), rfl, fun ys hy => by rw [I.tuple_inj hy hq]; exact hx⟩, ⟨⟨x', ?_⟩, hst.1.at fun o q => (sb.2 it (Ne.symm hne)).trans q, hne⟩, fun b hb => ?_⟩
    · have e1 : ((i + 1 : Nat) : Int) = (i : Int) + 1 := by omega
      rw [e1]; exact he'
    · have hb' : b < s.heap.objs.size := by
        have e' : b = e ∨ b = it := by simpa using hb
        rcases e' with z | z
        · rw [z]; exact hel
        · rw [z]; exact hil
      rw [upd_ne (Nat.ne_of_lt hb')]
      exact (hf b hb).1
  done := by
    intro X hP hw hK hc i pins s σ H E I hf st hg
    subst hP hw hK
    obtain ⟨⟨old, he⟩, hit, hne⟩ := st
    obtain ⟨xs, hq, hx⟩ := hg
    obtain ⟨its, rv, p, hz⟩ := I.tuple hq
    obtain ⟨f0, f1, f2, f3, f4, f5⟩ := hf it (by simp)
    obtain ⟨op, hop, hcp, _⟩ := id p
    have hai : a ≠ it := fun z => by
      obtain ⟨o2, q2, c2, _⟩ := hit
      rw [z, q2] at hop; cases hop; rw [c2] at hcp; exact absurd (Value.type.inj hcp) (by decide)
    have hl := rv.length
    have hT : s.TypeIs (.ref e) "enumerate" := ⟨_, he, rfl⟩
    unfold pyNext
    refine wpAny_bind (wpAny_attempt (wpAny_callSpecial?_slot (name := Str.ofString "__next__") hT F.slot_enumerate_next (wpAny_call_entry F.slot_enumerate_next hT F.entry_enumerate_next ?_ (F.args_enumerate_next_1 _))))
    show wpAny _ _ (field (.ref e) 2 >>= _) _ _ _
    refine wpAny_bind (wpAny_field he rfl (x := .ref it) rfl ?_)
    refine wpAny_bind (wpAny_nextOf_tuple_end (A := X.A.in1) (I.ok.hd hc) hit (show s.heap.IsTuple a its.toArray from p) (by simp; omega) fun h' x he' hx' => ?_)
    obtain ⟨o, ho, hc'⟩ := hx'
    refine wpAny_bind (wpAny_isInstance (T := "StopIteration") (b := true) ⟨o, ho, hc'⟩ isSubtype_stop ?_)
    exact wpAny_pure ⟨rfl, I.turned (t' := s.toks) (fun b o hb q => he' b o hb q) f0 f1 f3 f4 f5⟩
  self := fun A i s Q E st h => let ⟨⟨_, he⟩, _⟩ := st; wpAny_pyIter_enum he h
def iEnumT (K : PySem.W.Frag) (ta : TA) : TI := fun σ H R => ta σ H fun vs H1 => ∃ a xs, vs = [.ref a] ∧ SqT K H1 a xs ∧ R (IteT K a) H1
theorem pi_enumT {X : Cx} {e : Expr} {ta : TA} {p pos tpos : Pos} {elts : List Expr} {kk : Nat} (hg : Gl X "enumerate") (hm : X.mg "enumerate" = none) (ha : PA X [e] ta) (hs : starEach [e] X.env = [(false, eval e X.env)]) :
    PI X (.Tuple elts kk tpos) (.Call (.Name "enumerate" p) [e] [] pos) (iEnumT X.K ta) := by
  refine ⟨fun pins s σ H R I h => ?_⟩
  refine Call_ (ld_blt I hg hm boot_enumerate (PyProof.Rows.callWith_type1 (thn (ha.run pos pins s σ H _ I h) fun us s1 ⟨vs, H1, I1, r1, q1⟩ => ?_) hs rfl))
  obtain ⟨a, xs, ex, hq, q⟩ := q1
  subst ex
  cases r1 with
  | cons r rr =>
    cases rr
    cases r
    obtain ⟨its, rv, p', hz⟩ := I1.tuple hq
    refine call_enum_tup p' fun h' he hit hk => wpAny_pyIter_enum he ?_
    have I2 : Inv X pins σ H1 { s1 with heap := h' } := I1.kept (t' := s1.toks) hk
    refine ⟨s1.heap.objs.size + 1, [s1.heap.objs.size + 1, s1.heap.objs.size], _, _, H1, rfl, I2, turn_enumT a (s1.heap.objs.size + 1) s1.heap.objs.size, ⟨⟨.none, he⟩, hit, Nat.succ_ne_self _⟩, fun b hb => ?_, q⟩
    have e' : b = s1.heap.objs.size + 1 ∨ b = s1.heap.objs.size := by simpa using hb
    have hle : s1.heap.objs.size ≤ b := by
      rcases e' with z | z
      · rw [z]; exact Nat.le_add_right _ _
      · rw [z]; exact Nat.le_refl _
    exact I1.fpOk hle (I1.hok.fresh hle)

section
variable {prog : Program} {w : World} {A : Around} {E : Value → Shared → Prop} {s : Shared}
theorem fm_congr {α β : Type} {f g : α → Option β} : ∀ {l : List α}, (∀ k ∈ l, f k = g k) → l.filterMap f = l.filterMap g
  | [], _ => rfl
  | x :: l, h => by
    rw [List.filterMap_cons, List.filterMap_cons, h x List.mem_cons_self, fm_congr fun k hk => h k (List.mem_cons_of_mem _ hk)]
theorem pick_back (xs : Array Value) : ((List.range xs.size).filterMap fun (k : Nat) => xs[((xs.size : Int) - 1 + (k : Int) * (-1)).toNat]?) = xs.toList.reverse := by
  have e : ∀ k ∈ List.range xs.size, xs[((xs.size : Int) - 1 + (k : Int) * (-1)).toNat]? = xs.toList.reverse[k]? := fun k hk => by
    have hk' := List.mem_range.mp hk
    have e1 : ((xs.size : Int) - 1 + (k : Int) * (-1)).toNat = xs.size - 1 - k := by omega
    rw [e1, List.getElem?_reverse (by simpa using hk'), Array.getElem?_toList]
    simp
  rw [fm_congr e]
  have h2 : ∀ (l : List Value), (List.range l.length).filterMap (fun k => l[k]?) = l := by
    intro l
    have h := PySem.W.krv_all l.toArray
    simpa using h
  have := h2 xs.toList.reverse
  rw [List.length_reverse, Array.length_toList] at this
  exact this
theorem getItem_tup_back {t sl : Addr} {items : Array Value} {u : Tok} {Q : Value → Shared → Prop} (ht : IsTup s.heap t items) (hs : s.heap.IsSliceOf sl .none .none (.int (-1) u))
    (h : Q (.ref s.heap.objs.size) { s with heap := s.heap.push { cls := .type "tuple", data := .seq items.toList.reverse.toArray } }) (hsz : items.size ≤ sizeLine) : wpAny (model prog w) A (getItem (.ref t) (.ref sl)) Q E s := by
  have htake : sizeOk (.seq items.toList.reverse.toArray) := by
    show items.toList.reverse.toArray.size ≤ sizeLine
    simpa using hsz
  obtain ⟨os, hos, hcs, hds⟩ := id hs
  have hTs : s.TypeIs (.ref sl) "slice" := ⟨os, hos, hcs⟩
  unfold getItem
  try with_reducible refine wpAny_holding ?_
  first | refine wpAny_bind (wpAny_pure ?_) | skip
  refine wpAny_bind (wpAny_sequenceKey ht.typeIs (by decide) ?_)
  refine wpAny_bind (wpAny_callSpecial?_slot (name := Str.ofString "__getitem__") ht.typeIs PyProof.Rows.slot_tuple_getitem (wpAny_call_entry PyProof.Rows.slot_tuple_getitem ht.typeIs entry_tuple_getitem ?_ (args_tuple_getitem _ _)))
  show wpAny _ _ (Builtin.Tuple.tupleItemsOf (.ref t) >>= _) _ _ s
  refine wpAny_bind (tupleItemsOf_ ht ?_)
  refine wpAny_bind (wpAny_typeOf hTs ?_)
  rw [if_pos (by decide)]
  have app : wpAny (model prog w) A.in1 (Builtin.Slice.sliceApplied (.ref sl) (pure (items.size : Int))) (fun r s' => r = ((items.size : Int) - 1, -1, items.size) ∧ s' = s) E s := by
    unfold Builtin.Slice.sliceApplied Builtin.Slice.sliceFields
    refine wpAny_bind (wpAny_bind (wpAny_field hos hds (x := .none) rfl (wpAny_bind (wpAny_field hos hds (x := .none) rfl (wpAny_bind (wpAny_field hos hds (x := .int (-1) u) rfl (wpAny_pure ?_)))))))
    refine wpAny_bind (slicePart_int ?_)
    show wpAny _ _ (if ((-1 : Int) == 0) = true then _ else _) _ _ s
    rw [if_neg (by decide)]
    refine wpAny_bind (slicePart_none (wpAny_bind (slicePart_none (wpAny_bind (wpAny_pure ?_)))))
    refine wpAny_pure ⟨?_, rfl⟩
    show (((items.size : Int) - 1, -1, Builtin.Slice.slicePlaces ((items.size : Int) - 1) (-1) (-1)) : Int × Int × Nat) = _
    have : Builtin.Slice.slicePlaces ((items.size : Int) - 1) (-1) (-1) = items.size := by
      unfold Builtin.Slice.slicePlaces
      have h1 : ¬ ((-1 : Int) > 0) := by decide
      simp only [h1, if_false]
      by_cases h2 : (items.size : Int) - 1 > -1
      · rw [if_pos h2, show (- -1 : Int) = 1 by decide, Int.ediv_one]
        omega
      · rw [if_neg h2]
        omega
    rw [this]
  refine wpAny_bind (wpAny_mono app (fun r s' ⟨e1, e2⟩ => ?_) fun _ _ x => x)
  subst e1 e2
  show wpAny _ _ (if (((items.size : Int) - 1 == 0 && (-1 : Int) == 1 && items.size == items.size) = true) then _ else _) _ _ _
  rw [if_neg (by simp)]
  show wpAny _ _ (Builtin.Tuple.tupleExact ((List.range items.size).filterMap fun (k : Nat) => items[((items.size : Int) - 1 + (k : Int) * (-1)).toNat]?).toArray >>= _) _ _ _
  rw [pick_back]
  first
    | exact wpAny_bind (m := Builtin.Tuple.tupleExact _) (wpAny_newObj_type (wpAny_pure ⟨_, rfl, wpAny_pure h⟩) htake)
    | exact wpAny_bind (m := Builtin.Tuple.tupleExact _) (wpAny_newObj_type (wpAny_bind (wpAny_pure (wpAny_pure ⟨_, rfl, wpAny_pure h⟩))) htake)
end
end En

set_option Elab.async false
set_option linter.all false
set_option maxRecDepth 100000
set_option maxHeartbeats 1000000
namespace En
open PySem PySem.Spec PyProof.Rows L2
section
variable {X : Cx} {Γ : Fns} {con : Nat → Option D} {a b : Expr} {es : List Expr} {ca cb : CE} {cs : List CE} {pos : Pos}
def tRevA (K : PySem.W.Frag) (te : TE) : TE := fun σ H Q => te σ H fun x H1 => ∃ a xs, x = .ref a ∧ ((SqL K H1 a xs ∧ ∀ p, H1 p = none → Q (.ref p) (upd H1 p (.lst xs.reverse))) ∨ (SqT K H1 a xs ∧ ∀ p, H1 p = none → Q (.ref p) (upd H1 p (.tup xs.reverse))))
theorem pe_revA {e : Expr} {te : TE} {k : Nat} {p1 p2 p3 : Pos} (he : PE X e te) : PE X (.Subscript e (.Slice none none (some (.UnaryOp .USub (.Constant (.int 1) k p1) p2)) p3) pos) (tRevA X.K te) := by
  refine ⟨fun pins s σ H Q I h => ?_⟩
  refine Subscript_ (thn (he.run pins s σ H _ I h) fun v s1 ⟨x, H1, I1, r1, q1⟩ => ?_)
  obtain ⟨a, xs, ex, q1⟩ := q1
  subst ex
  cases r1
  have hst : PO X (some (.UnaryOp .USub (.Constant (.int 1) k p1) p2)) (tPart (tUn (rU fun i => .int (-i)) (tC (.int 1)))) := po_some (pe_un un_neg pe_int)
  refine wpAny_Slice (thn (po_none.run pins s1 σ H1 (fun o H2 => o = none ∧ H2 = H1) I1 ⟨rfl, rfl⟩) fun vl s2 ⟨l, H2, I2, pl, el, e2⟩ => ?_)
  subst el e2
  refine thn (po_none.run pins s2 σ H2 (fun o H3 => o = none ∧ H3 = H2) I2 ⟨rfl, rfl⟩) fun vu s3 ⟨u, H3, I3, pu, eu, e3⟩ => ?_
  subst eu e3
  refine thn (hst.run pins s3 σ H3 (fun o H4 => o = some (-1) ∧ H4 = H3) I3 ⟨1, rfl, -1, rfl, rfl, rfl⟩) fun vs s4 ⟨o, H4, I4, ps, eo, e4⟩ => ?_
  subst eo e4
  have I5 : Inv X pins σ H4 { s4 with heap := s4.heap.push { cls := .type "slice", data := .fields #[vl, vu, vs] } } := I4.kept (t' := s4.toks) fun b ob q => Heap.get?_push_of_some _ q
  show wpAny (model X.prog X.w) X.A (subscriptTail e (.Slice none none (some (.UnaryOp .USub (.Constant (.int 1) k p1) p2)) p3) (.ref a) (.ref s4.heap.objs.size)) (EP X pins σ Q) X.xe { s4 with heap := s4.heap.push { cls := .type "slice", data := .fields #[vl, vu, vs] } }
  rcases q1 with ⟨hx, q⟩ | ⟨hx, q⟩
  · obtain ⟨its, r, ht, hz⟩ := I5.list hx
    have hlen := r.length
    refine tail_any (ops := [.ref a, .ref s4.heap.objs.size]) ht.isList.typeIs (PySem.slot_list_getitem.lookup) ?_ (by with_unfolding_all rfl)
    refine wpAny_getItem_list_slice ht.isList (Heap.IsSliceOf.new _ vl vu vs) pl pu ps (by decide) ?_ (by rw [List.size_toArray]; omega)
    rw [PySem.W.krv_pick]
    refine ⟨.ref _, _, I5.laid (t' := s4.toks) (o := .lst xs.reverse) (fun b ob q => Heap.get?_push_of_some _ q) (Nat.le_refl _) ?_, rfl, q _ (I5.hok.fresh (Nat.le_refl _))⟩
    exact ⟨by rw [List.length_reverse]; exact hz, _, 0, r.reverse, Heap.get?_push_size _ rfl⟩
  · obtain ⟨its, r, ht, hz⟩ := I5.tuple hx
    have hlen := r.length
    cases pl
    cases pu
    cases ps
    refine tail_any (ops := [.ref a, .ref s4.heap.objs.size]) ht.typeIs (PyProof.Rows.slot_tuple_getitem.lookup) ?_ (by with_unfolding_all rfl)
    refine getItem_tup_back ht (Heap.IsSliceOf.new ..) ?_ (by rw [List.size_toArray]; omega)
    refine ⟨.ref _, _, I5.laid (t' := s4.toks) (o := .tup xs.reverse) (fun b ob q => Heap.get?_push_of_some _ q) (Nat.le_refl _) ?_, rfl, q _ (I5.hok.fresh (Nat.le_refl _))⟩
    exact ⟨by rw [List.length_reverse]; exact hz, its.reverse, r.reverse, ⟨_, Heap.get?_push_size _ rfl, rfl, 0, by simp⟩⟩
theorem pd_rev {k : Nat} {p1 p2 p3 : Pos} (ha : PE X a (tE X.K Γ con ca)) : PE X (.Subscript a (.Slice none none (some (.UnaryOp .USub (.Constant (.int 1) k p1) p2)) p3) pos) (tE X.K Γ con (.rev ca)) :=
  (pe_revA ha).impD fun σ H Q ⟨as, env, st, d, st', er, sr, e, q⟩ => by
    simp only [evE] at e
    obtain ⟨⟨x, st1⟩, e1, e⟩ := Res.bind_ok e
    obtain ⟨d', e2, e3⟩ := Res.bind_ok e
    cases e3
    refine ⟨as, env, st, x, _, er, sr, e1, fun v H1 as1 s1 sr1 hv => ?_⟩
    cases hd : snap st1 x with
    | lst ds =>
      simp only [hd, revD] at e2
      cases e2
      obtain ⟨b, vs, rfl, h1, h2, h3⟩ := hv.lst sr1 hd
      exact ⟨b, vs, rfl, .inl ⟨.inl (.inl h1), fun p hp => q _ _ as1 (s1.trans (Step.same (same_new hp))) (sr1.same (same_new hp)) (new_lst sr1 hp (by rw [List.length_reverse]; exact h2) h3.reverse).toV⟩⟩
    | tup ds =>
      simp only [hd, revD] at e2
      cases e2
      obtain ⟨b, vs, rfl, h1, h2, h3⟩ := hv.tup sr1 hd
      exact ⟨b, vs, rfl, .inr ⟨h1.sq, fun p hp => q _ _ as1 (s1.trans (Step.same (same_new hp))) (sr1.same (same_new hp)) (new_tup hp (by rw [List.length_reverse]; exact h2) h3.reverse).toV⟩⟩
    | _ => simp only [hd, revD] at e2; cases e2
end
/-- the store object i becomes a value -/
theorem SRel.freeze {K : PySem.W.Frag} {as : Ads} {st : Sto} {H : Hp} (r : SRel K as st H) {i : Nat} {a : Addr} (ha : as.c[i]? = some (some a)) :
    Step as ⟨as.c.set i none, as.p⟩ H H ∧ SRel K ⟨as.c.set i none, as.p⟩ (st.set i .dead) H ∧ ¬ (⟨as.c.set i none, as.p⟩ : Ads).Has a := by
  have hl : i < as.c.length := by
    by_cases hl : i < as.c.length
    · exact hl
    · rw [List.getElem?_eq_none (by simpa using hl)] at ha; cases ha
  have at_ : ∀ {j : Nat} {x : Option Addr}, (as.c.set i none)[j]? = some x → (i = j ∧ x = none) ∨ (i ≠ j ∧ as.c[j]? = some x) := fun {j x} h => by
    by_cases hj : i = j
    · subst hj
      rw [List.getElem?_set_self hl] at h
      exact .inl ⟨rfl, (Option.some.inj h).symm⟩
    · rw [List.getElem?_set_ne hj] at h
      exact .inr ⟨hj, h⟩
  have nin : ∀ b, some b ∈ as.c.set i none → some b ∈ as.c ∧ b ≠ a := fun b hb => by
    obtain ⟨j, hj⟩ := List.mem_iff_getElem?.mp hb
    rcases at_ hj with ⟨_, z⟩ | ⟨hne, z⟩
    · cases z
    · exact ⟨List.mem_of_getElem? z, fun e => by subst e; exact hne (r.nd i j b ha z)⟩
  have s : Step as ⟨as.c.set i none, as.p⟩ H H := by
    refine ⟨by simp, fun j b h => ?_, fun j h => ?_, fun b h => .inl (nin b h).1, fun _ _ h _ => h, fun _ _ h => h, rfl⟩
    · by_cases hj : i = j
      · subst hj; exact .inr (List.getElem?_set_self hl)
      · exact .inl (by show (as.c.set i none)[j]? = _; rw [List.getElem?_set_ne hj]; exact h)
    · by_cases hj : i = j
      · subst hj; exact List.getElem?_set_self hl
      · show (as.c.set i none)[j]? = _
        rw [List.getElem?_set_ne hj]; exact h
  refine ⟨s, ⟨by simp [r.len], fun j k b h1 h2 => ?_, fun j o e => ?_, r.pr, fun b hb m => r.dj b hb (nin b m).1⟩, fun h => ?_⟩
  · rcases at_ h1 with ⟨_, z⟩ | ⟨_, z1⟩
    · cases z
    · rcases at_ h2 with ⟨_, z⟩ | ⟨_, z2⟩
      · cases z
      · exact r.nd j k b z1 z2
  · by_cases hj : i = j
    · subst hj
      rw [List.getElem?_set_self (by rw [← r.len]; exact hl)] at e
      cases e
      exact ⟨none, List.getElem?_set_self hl, trivial⟩
    · rw [List.getElem?_set_ne hj] at e
      obtain ⟨x, e1, q⟩ := r.rep j o e
      refine ⟨x, by show (as.c.set i none)[j]? = _; rw [List.getElem?_set_ne hj]; exact e1, ?_⟩
      cases x with
      | none => cases o <;> exact q
      | some b =>
        cases o with
        | lst ds => obtain ⟨vs, e2, z, p⟩ := q; exact ⟨vs, e2, z, DReps.step s _ _ p⟩
        | dic ds => obtain ⟨vs, e2, z, p⟩ := q; exact ⟨vs, e2, z, KReps.step s _ _ p⟩
        | dead => exact q
  · rcases h with h | h
    · exact (nin a h).2 rfl
    · exact r.dj a h (List.mem_of_getElem? ha)
section
variable {X : Cx} {Γ : Fns} {con : Nat → Option D} {a b : Expr} {es : List Expr} {ca cb : CE} {cs : List CE} {pos : Pos}
theorem pd_frz (ha : PE X a (tE X.K Γ con ca)) : PE X a (tE X.K Γ con (.frz ca)) :=
  ha.impD fun σ H Q ⟨as, env, st, d, st', er, sr, e, q⟩ => by
    simp only [evE] at e
    obtain ⟨⟨x, st1⟩, e1, e⟩ := Res.bind_ok e
    refine ⟨as, env, st, x, _, er, sr, e1, fun v H1 as1 s1 sr1 hv => ?_⟩
    simp only at e
    split at e
    · rename_i i
      split at e
      · rename_i ds hd
        cases e
        obtain ⟨a0, vs, k1, k2, k3, k4⟩ := sr1.lst hd
        obtain ⟨s2, sr2, n2⟩ := sr1.freeze k1
        have ev := hv.2 a0 k1
        subst ev
        exact q _ _ _ (s1.trans s2) sr2 (DRep.lst k2 n2 k3 (DReps.step s2 _ _ k4)).toV
      · rename_i ds hd
        cases e
        obtain ⟨a0, vs, k1, k2, k3, k4⟩ := sr1.dic hd
        obtain ⟨s2, sr2, n2⟩ := sr1.freeze k1
        have ev := hv.2 a0 k1
        subst ev
        exact q _ _ _ (s1.trans s2) sr2 (DRep.dic (.inl k2) n2 k3 (KReps.step s2 _ _ k4)).toV
      · cases e
    · cases e
end

mutual
def slotsT : Tg → List Nat
  | .name i => [i]
  | .tup ts => slotsTs ts
def slotsTs : List Tg → List Nat
  | [] => []
  | t :: ts => slotsT t ++ slotsTs ts
end
/-- σ' is σ but at the slots vs -/
def OnlyAt (vs : List Nat) (σ σ' : L2.St) : Prop := σ'.length = σ.length ∧ ∀ i, i ∉ vs → σ'[i]? = σ[i]?
theorem OnlyAt.refl (vs : List Nat) (σ : L2.St) : OnlyAt vs σ σ := ⟨rfl, fun _ _ => rfl⟩
theorem OnlyAt.trans {vs us : List Nat} {σ σ1 σ2 : L2.St} (h : OnlyAt vs σ σ1) (g : OnlyAt us σ1 σ2) : OnlyAt (vs ++ us) σ σ2 :=
  ⟨g.1.trans h.1, fun i hi => by rw [List.mem_append, not_or] at hi; rw [g.2 i hi.2, h.2 i hi.1]⟩
theorem OnlyAt.mono {vs us : List Nat} {σ σ1 : L2.St} (h : OnlyAt vs σ σ1) (s : ∀ i ∈ vs, i ∈ us) : OnlyAt us σ σ1 := ⟨h.1, fun i hi => h.2 i fun z => hi (s i z)⟩
theorem wipe_in {vs : List Nat} {σ : L2.St} {i : Nat} (hi : i ∈ vs) : (L2.wipe σ vs)[i]? = if i < σ.length then some none else none := by
  induction vs with
  | nil => simp at hi
  | cons v vs ih =>
    unfold L2.wipe
    by_cases h : v = i
    · subst h
      by_cases hl : v < σ.length
      · rw [List.getElem?_set_self (by rw [wipe_length]; exact hl), if_pos hl]
      · rw [List.getElem?_eq_none (by simp [wipe_length]; omega), if_neg hl]
    · rw [List.getElem?_set_ne h]
      rcases List.mem_cons.mp hi with e | e
      · exact absurd e.symm h
      · exact ih e
theorem OnlyAt.wipe {vs : List Nat} {σ σ' : L2.St} (h : OnlyAt vs σ σ') : L2.wipe σ' vs = L2.wipe σ vs := by
  refine List.ext_getElem? fun i => ?_
  by_cases hi : i ∈ vs
  · rw [wipe_in hi, wipe_in hi, h.1]
  · rw [wipe_out hi, wipe_out hi, h.2 i hi]
/-- a target by its code -/
def tG (K : PySem.W.Frag) (t : Tg) : TG := fun v σ H Q => ∃ as env d env', ERep K as H σ env ∧ VRep K as H v d ∧ asgT t d env = some env' ∧ ∀ σ', ERep K as H σ' env' → OnlyAt (slotsT t) σ σ' → Q σ' H
def tGs (K : PySem.W.Frag) (ts : List Tg) : TGs := fun vs σ H Q => ∃ as env ds env', ERep K as H σ env ∧ DReps K as H vs ds ∧ asgTs ts ds env = some env' ∧ ∀ σ', ERep K as H σ' env' → OnlyAt (slotsTs ts) σ σ' → Q σ' H
theorem _root_.L2.PG.impD {X : Cx} {e : Expr} {t t' : TG} (h : PG X e t) (f : ∀ v σ H Q, t' v σ H Q → t v σ H Q) : PG X e t' := ⟨fun pins s σ H v u Q I r q => h.run pins s σ H v u Q I r (f _ _ _ _ q)⟩
theorem _root_.L2.PGs.impD {X : Cx} {e : List Expr} {t t' : TGs} (h : PGs X e t) (f : ∀ v σ H Q, t' v σ H Q → t v σ H Q) : PGs X e t' := ⟨fun pins s σ H v u Q I r q => h.run pins s σ H v u Q I r (f _ _ _ _ q)⟩
section
variable {X : Cx} {pos : Pos}
theorem pdg_name {i : Nat} {x : Str} (hN : X.N.Nodup) (hi : X.N[i]? = some x) (hx : Loc X.env.scope x) (hf : X.fn x = true ∨ X.env.scope.names.lookup x = some .local) : PG X (.Name x pos) (tG X.K (.name i)) :=
  (pg_name hN hi hx hf).impD fun v σ H Q ⟨as, env, d, env', er, hv, e, q⟩ => by
    simp only [asgT] at e
    cases e
    refine q _ (er.set hv) ⟨by simp, fun j hj => ?_⟩
    have : i ≠ j := fun z => hj (by simp [slotsT, z])
    rw [List.getElem?_set_ne this]
theorem pdg_nil : PGs X [] (tGs X.K []) := pgs_nil.impD fun vs σ H Q ⟨as, env, ds, env', er, hv, e, q⟩ => by
  cases hv with
  | nil => simp only [asgTs] at e; cases e; exact ⟨rfl, q _ er (OnlyAt.refl _ _)⟩
  | cons => simp [asgTs] at e
theorem pdg_cons {e : Expr} {es : List Expr} {t : Tg} {ts : List Tg} (h1 : PG X e (tG X.K t)) (h2 : PGs X es (tGs X.K ts)) (hs : (assignEach (e :: es) X.env).map (·.2) = assign e X.env :: (assignEach es X.env).map (·.2)) : PGs X (e :: es) (tGs X.K (t :: ts)) :=
  (pgs_cons h1 h2 hs).impD fun vs σ H Q ⟨as, env, ds, env', er, hv, e, q⟩ => by
    cases hv with
    | nil => simp [asgTs] at e
    | cons h r =>
      simp only [asgTs] at e
      split at e
      · rename_i env1 e1
        exact ⟨_, _, rfl, as, env, _, env1, er, h.toV, e1, fun σ1 er1 o1 => ⟨as, env1, _, env', er1, r, e, fun σ2 er2 o2 => q σ2 er2 (o1.trans o2)⟩⟩
      · cases e
theorem pdg_tup {es : List Expr} {k : Nat} {ts : List Tg} {n : Nat} (hc : X.calm = true) (h : PGs X es (tGs X.K ts)) (hn : (assignEach es X.env).length = n) (hts : ts.length = n) (hst : (assignEach es X.env).findIdx? (·.1) = none) : PG X (.Tuple es k pos) (tG X.K (.tup ts)) :=
  (pg_tup hc h hn hst).impD fun v σ H Q ⟨as, env, d, env', er, hv, e, q⟩ => by
    cases d with
    | tup ds =>
      simp only [asgT] at e
      cases hv with
      | tup h1 h2 h3 =>
        refine ⟨_, _, rfl, h1.sq, ?_, as, env, ds, env', er, h3, e, fun σ' er' o => q σ' er' o⟩
        have len : ∀ {ts : List Tg} {ds : List D} {env env' : Env}, asgTs ts ds env = some env' → ds.length = ts.length := by
          intro ts
          induction ts with
          | nil => intro ds env env' h; cases ds with
            | nil => rfl
            | cons => simp [asgTs] at h
          | cons t ts ih => intro ds env env' h; cases ds with
            | nil => simp [asgTs] at h
            | cons d ds =>
              simp only [asgTs] at h
              split at h
              · simp [ih h]
              · cases h
        rw [h3.length, len e, hts]
    | _ => simp [asgT] at e
end
end En

set_option Elab.async false
set_option linter.all false
set_option maxRecDepth 100000
set_option maxHeartbeats 1000000
namespace En
open PySem PySem.Spec PyProof.Rows L2 RZ
theorem _root_.L2.PI.impD {X : Cx} {tg e : Expr} {t t' : TI} (h : PI X tg e t) (f : ∀ σ H R, t' σ H R → t σ H R) : PI X tg e t' := ⟨fun pins s σ H R I q => h.run pins s σ H R I (f _ _ _ q)⟩
/-- what data in the heap lean on is left as it is -/
structure TRd (as as' : Ads) (H H' : Hp) : Prop where
  tup : ∀ (a : Addr) (xs : List V), H a = some (.tup xs) → H' a = some (.tup xs)
  lst : ∀ (a : Addr) (xs : List V), H a = some (.lst xs) → ¬ as.Has a → H' a = some (.lst xs) ∧ ¬ as'.Has a
  rls : ∀ (a : Addr) (xs : List V), Rd H a (.lst xs) → ¬ as.Has a → Rd H' a (.lst xs) ∧ ¬ as'.Has a
  rdk : ∀ (a : Addr) (xs : List (Key × V)), Rd H a (.dK xs) → ¬ as.Has a → Rd H' a (.dK xs) ∧ ¬ as'.Has a
structure TR (as as' : Ads) (H H' : Hp) : Prop where
  tup : ∀ (a : Addr) (xs : List V), H a = some (.tup xs) → H' a = some (.tup xs)
  ext : ∀ (a : Addr) (o : HO), H a = some o → ¬ as.Has a → H' a = some o ∧ ¬ as'.Has a
theorem TR.d {as as' : Ads} {H H' : Hp} (t : TR as as' H H') : TRd as as' H H' where
  tup := t.tup
  lst := fun a xs h n => t.ext a _ h n
  rls := fun a xs h n => by
    rcases h with h | ⟨o, h⟩
    · exact ⟨.inl (t.ext a _ h n).1, (t.ext a _ h n).2⟩
    · exact ⟨.inr ⟨o, (t.ext a _ h n).1⟩, (t.ext a _ h n).2⟩
  rdk := fun a xs h n => by
    rcases h with h | ⟨o, h⟩
    · exact ⟨.inl (t.ext a _ h n).1, (t.ext a _ h n).2⟩
    · exact ⟨.inr ⟨o, (t.ext a _ h n).1⟩, (t.ext a _ h n).2⟩
theorem Step.tr {as as' : Ads} {H H' : Hp} (s : Step as as' H H') : TR as as' H H' := ⟨s.tup, fun _ _ h n => ⟨s.extH h n, s.notin h n⟩⟩
section
variable {K : PySem.W.Frag} {as as' : Ads} {H H' : Hp}
theorem LsA.trd {a : Addr} {xs : List V} (t : TRd as as' H H') (h : LsA K as H a xs) : LsA K as' H' a xs := by
  rcases h with ⟨h, n⟩ | h
  · exact .inl (t.rls a xs h n)
  · exact .inr h
theorem TpA.trd {a : Addr} {xs : List V} (t : TRd as as' H H') (h : TpA K H a xs) : TpA K H' a xs := by
  rcases h with h | h
  · exact .inl (t.tup _ _ h)
  · exact .inr h
mutual
theorem DRep.trd (t : TRd as as' H H') : ∀ (d : D) (v : V), DRep K as H v d → DRep K as' H' v d
  | .non, _, h => by cases h; exact .non
  | .bl b, _, h => by cases h; exact .bl b
  | .int b, _, h => by cases h; exact .int b
  | .str b, _, h => by cases h; exact .str b
  | .tup ds, _, h => by
    cases h with
    | tup h z r => exact .tup (h.trd t) z (DReps.trd t ds _ r)
  | .lst ds, _, h => by
    cases h with
    | lst h n z r => exact .lst (t.lst _ _ h n).1 (t.lst _ _ h n).2 z (DReps.trd t ds _ r)
  | .ro ds, _, h => by
    cases h with
    | ro h z r => exact .ro (h.trd t) z (DReps.trd t ds _ r)
  | .dic ds, _, h => by
    cases h with
    | dic h n z r => exact .dic (t.rdk _ _ h n).1 (t.rdk _ _ h n).2 z (KReps.trd t ds _ r)
  | .mref i, _, h => by cases h
theorem DReps.trd (t : TRd as as' H H') : ∀ (ds : List D) (vs : List V), DReps K as H vs ds → DReps K as' H' vs ds
  | [], _, h => by cases h; exact .nil
  | d :: ds, _, h => by
    cases h with
    | cons h r => exact .cons (DRep.trd t d _ h) (DReps.trd t ds _ r)
theorem KReps.trd (t : TRd as as' H H') : ∀ (ds : List (Key × D)) (vs : List (Key × V)), KReps K as H vs ds → KReps K as' H' vs ds
  | [], _, h => by cases h; exact .nil
  | (k, d) :: ds, _, h => by
    cases h with
    | cons h r => exact .cons (DRep.trd t d _ h) (KReps.trd t ds _ r)
end
theorem VRep.trd {v : V} {d : D} (t : TRd as as' H H') (hc : as'.c = as.c) (h : VRep K as H v d) : VRep K as' H' v d := by
  cases d with
  | mref i => obtain ⟨l, h⟩ := h; exact ⟨by rw [hc]; exact l, fun a e => h a (by rw [← hc]; exact e)⟩
  | _ => exact DRep.trd t _ _ h
theorem ERep.trd {σ : L2.St} {env : Env} (t : TRd as as' H H') (hc : as'.c = as.c) (h : ERep K as H σ env) : ERep K as' H' σ env :=
  ⟨h.len, fun i d e => let ⟨v, e1, q⟩ := h.get i d e; ⟨v, e1, q.trd t hc⟩⟩
theorem SRel.trd {st : Sto} (r : SRel K as st H) (t : TRd as as' H H') (hc : as'.c = as.c) (hs : ∀ a, some a ∈ as.c → H' a = H a) (pr : ∀ a ∈ as'.p, ∃ o, H' a = some o) (dj : ∀ a ∈ as'.p, some a ∉ as.c) : SRel K as' st H' := by
  refine ⟨by rw [hc]; exact r.len, by rw [hc]; exact r.nd, fun i o e => ?_, pr, by rw [hc]; exact dj⟩
  obtain ⟨x, e1, q⟩ := r.rep i o e
  refine ⟨x, by rw [hc]; exact e1, ?_⟩
  cases x with
  | none => cases o <;> exact q
  | some b =>
    have hb : H' b = H b := hs b (List.mem_of_getElem? e1)
    cases o with
    | lst ds => obtain ⟨vs, e2, z, p⟩ := q; exact ⟨vs, by rw [hb]; exact e2, z, DReps.trd t _ _ p⟩
    | dic ds => obtain ⟨vs, e2, z, p⟩ := q; exact ⟨vs, by rw [hb]; exact e2, z, KReps.trd t _ _ p⟩
    | dead => exact q
end
/-- the walk J gives the data ds in turn -/
structure Wk (K : PySem.W.Frag) (J : It) (as : Ads) (H : Hp) (ds : List D) : Prop where
  go : ∀ (as' : Ads) (H' : Hp) (i : Nat), TR as as' H H' → i < ds.length → J.go i H'
  stop : ∀ (as' : Ads) (H' : Hp) (i : Nat), TR as as' H H' → ds.length ≤ i → J.stop i H'
  yld : ∀ (as' : Ads) (st' : Sto) (H' : Hp) (i : Nat) (x : V) (H'' : Hp) (d : D), TR as as' H H' → SRel K as' st' H' → J.yld i H' x H'' → ds[i]? = some d → Same H' H'' ∧ DRep K as' H'' x d
def tI (K : PySem.W.Frag) (Γ : Fns) (con : Nat → Option D) (ci : CI) : TI := fun σ H R => ∃ as env st ds st', ERep K as H σ env ∧ SRel K as st H ∧ evI Γ con ci env st = .ok (ds, st') ∧
  ∀ J H' as', Step as as' H H' → SRel K as' st' H' → Wk K J as' H' ds → ds.length ≤ sizeLine → R J H'
section
variable {K : PySem.W.Frag} {as : Ads} {H : Hp} {ds : List D} {vs : List V} {a : Addr}
theorem LsA.lst (h : H a = some (.lst vs)) (n : ¬ as.Has a) : LsA K as H a vs := .inl ⟨.inl h, n⟩
theorem wk_list (h : LsA K as H a vs) (r : DReps K as H vs ds) : Wk K (Itl K a) as H ds where
  go := fun as' H' i s hi => by
    have hl : i < vs.length := by rw [r.length]; exact hi
    exact ⟨vs, vs[i], (h.trd s.d).sq, by simp [hl]⟩
  stop := fun as' H' i s hi => ⟨vs, (h.trd s.d).sq, by rw [r.length]; exact hi⟩
  yld := fun as' st' H' i x H'' d s sr y e => by
    obtain ⟨e1, y⟩ := y
    subst e1
    obtain ⟨v, e2, q⟩ := r.get e
    have := y vs (h.trd s.d).sq
    rw [e2] at this
    cases this
    exact ⟨Same.refl _, DRep.trd s.d _ _ q⟩
theorem wk_tup (h : TpA K H a vs) (r : DReps K as H vs ds) : Wk K (Itt K a) as H ds where
  go := fun as' H' i s hi => by
    have hl : i < vs.length := by rw [r.length]; exact hi
    exact ⟨vs, vs[i], (h.trd s.d).sq, by simp [hl]⟩
  stop := fun as' H' i s hi => ⟨vs, (h.trd s.d).sq, by rw [r.length]; exact hi⟩
  yld := fun as' st' H' i x H'' d s sr y e => by
    obtain ⟨e1, y⟩ := y
    subst e1
    obtain ⟨v, e2, q⟩ := r.get e
    have := y vs (h.trd s.d).sq
    rw [e2] at this
    cases this
    exact ⟨Same.refl _, DRep.trd s.d _ _ q⟩
theorem wk_str (z : Str) : Wk K (Its z) as H (z.cps.toList.map fun c => .str ⟨#[c]⟩) where
  go := fun as' H' i s hi => by
    show i < z.cps.size
    simpa using hi
  stop := fun as' H' i s hi => by
    show z.cps.size ≤ i
    simpa using hi
  yld := fun as' st' H' i x H'' d s sr y e => by
    obtain ⟨e1, c, e2, e3⟩ := y
    subst e1 e3
    rw [List.getElem?_map, Array.getElem?_toList, e2] at e
    cases e
    exact ⟨Same.refl _, .str _⟩
theorem rngD_length : ∀ (n : Nat) (a : Int), (rngD a n).length = n
  | 0, _ => rfl
  | n + 1, a => by simp [rngD, rngD_length n]
theorem rngD_get : ∀ (n : Nat) (a : Int) (i : Nat) (d : D), (rngD a n)[i]? = some d → d = .int (a + i)
  | 0, _, i, d, h => by simp [rngD] at h
  | n + 1, a, 0, d, h => by simp [rngD] at h; simp [← h]
  | n + 1, a, i + 1, d, h => by
    simp only [rngD, List.getElem?_cons_succ] at h
    rw [rngD_get n (a + 1) i d h]
    congr 1
    omega
theorem wk_range (lo : Int) (n : Nat) : Wk K (Itr lo n) as H (rngD lo n) where
  go := fun as' H' i s hi => by rw [rngD_length] at hi; exact hi
  stop := fun as' H' i s hi => by rw [rngD_length] at hi; exact hi
  yld := fun as' st' H' i x H'' d s sr y e => by
    obtain ⟨e1, e2⟩ := y
    subst e1 e2
    rw [rngD_get n lo i d e]
    exact ⟨Same.refl _, .int _⟩
theorem enumD_length : ∀ (ds : List D) (k : Nat), (enumD k ds).length = ds.length
  | [], _ => rfl
  | d :: ds, k => by simp [enumD, enumD_length ds]
theorem enumD_get : ∀ (ds : List D) (k i : Nat) (d : D), (enumD k ds)[i]? = some d → ∃ x, ds[i]? = some x ∧ d = .tup [.int ((k + i : Nat) : Int), x]
  | [], _, i, d, h => by simp [enumD] at h
  | x :: ds, k, 0, d, h => by simp [enumD] at h; exact ⟨x, rfl, by simp [← h]⟩
  | x :: ds, k, i + 1, d, h => by
    simp only [enumD, List.getElem?_cons_succ] at h
    obtain ⟨y, e1, e2⟩ := enumD_get ds (k + 1) i d h
    exact ⟨y, by simpa using e1, by rw [e2]; congr 3; omega⟩
theorem pair_rep {as' : Ads} {H' : Hp} {T : Addr} {x y : V} {d e : D} (hT : H' T = none) (hx : DRep K as' H' x d) (hy : DRep K as' H' y e) : DRep K as' (upd H' T (.tup [x, y])) (.ref T) (.tup [d, e]) :=
  new_tup hT (by show 2 ≤ sizeLine; decide) (.cons hx (.cons hy .nil))
theorem wk_enum (h : LsA K as H a vs) (r : DReps K as H vs ds) : Wk K (Ite K a) as H (enumD 0 ds) where
  go := fun as' H' i s hi => by
    rw [enumD_length] at hi
    have hl : i < vs.length := by rw [r.length]; exact hi
    exact ⟨vs, vs[i], (h.trd s.d).sq, by simp [hl]⟩
  stop := fun as' H' i s hi => ⟨vs, (h.trd s.d).sq, by rw [r.length]; rw [enumD_length] at hi; exact hi⟩
  yld := fun as' st' H' i x H'' d s sr y e => by
    obtain ⟨T, x', rfl, nT, rfl, f⟩ := y
    obtain ⟨z, e1, rfl⟩ := enumD_get ds 0 i d e
    obtain ⟨v, e2, q⟩ := r.get e1
    have := f vs (h.trd s.d).sq
    rw [e2] at this
    cases this
    refine ⟨same_new nT, ?_⟩
    have := pair_rep nT (DRep.int (K := K) (as := as') (H := H') ((i : Nat) : Int)) (DRep.trd s.d _ _ q)
    simpa using this
theorem wk_enumT (h : TpA K H a vs) (r : DReps K as H vs ds) : Wk K (IteT K a) as H (enumD 0 ds) where
  go := fun as' H' i s hi => by
    rw [enumD_length] at hi
    have hl : i < vs.length := by rw [r.length]; exact hi
    exact ⟨vs, vs[i], (h.trd s.d).sq, by simp [hl]⟩
  stop := fun as' H' i s hi => ⟨vs, (h.trd s.d).sq, by rw [r.length]; rw [enumD_length] at hi; exact hi⟩
  yld := fun as' st' H' i x H'' d s sr y e => by
    obtain ⟨T, x', rfl, nT, rfl, f⟩ := y
    obtain ⟨z, e1, rfl⟩ := enumD_get ds 0 i d e
    obtain ⟨v, e2, q⟩ := r.get e1
    have := f vs (h.trd s.d).sq
    rw [e2] at this
    cases this
    refine ⟨same_new nT, ?_⟩
    have := pair_rep nT (DRep.int (K := K) (as := as') (H := H') ((i : Nat) : Int)) (DRep.trd s.d _ _ q)
    simpa using this
theorem zipD_length : ∀ (xs ys : List D), (zipD xs ys).length = min xs.length ys.length
  | [], _ => by simp [zipD]
  | _ :: _, [] => by simp [zipD]
  | x :: xs, y :: ys => by simp [zipD, zipD_length xs ys]
theorem zipD_get : ∀ (xs ys : List D) (i : Nat) (d : D), (zipD xs ys)[i]? = some d → ∃ x y, xs[i]? = some x ∧ ys[i]? = some y ∧ d = .tup [x, y]
  | [], _, i, d, h => by simp [zipD] at h
  | _ :: _, [], i, d, h => by simp [zipD] at h
  | x :: xs, y :: ys, 0, d, h => by simp [zipD] at h; exact ⟨x, y, rfl, rfl, h.symm⟩
  | x :: xs, y :: ys, i + 1, d, h => by
    simp only [zipD, List.getElem?_cons_succ] at h
    obtain ⟨x', y', e1, e2, e3⟩ := zipD_get xs ys i d h
    exact ⟨x', y', by simpa using e1, by simpa using e2, e3⟩
theorem wk_zip {b : Addr} {us : List V} {es : List D} (h : LsA K as H a vs) (r : DReps K as H vs ds) (h2 : LsA K as H b us) (r2 : DReps K as H us es) : Wk K (Itz K a b) as H (zipD ds es) where
  go := fun as' H' i s hi => by
    rw [zipD_length] at hi
    have hl : i < vs.length := by rw [r.length]; omega
    have hl2 : i < us.length := by rw [r2.length]; omega
    exact ⟨vs, us, vs[i], us[i], (h.trd s.d).sq, (h2.trd s.d).sq, by simp [hl], by simp [hl2]⟩
  stop := fun as' H' i s hi => ⟨vs, us, (h.trd s.d).sq, (h2.trd s.d).sq, by rw [r.length, r2.length]; rw [zipD_length] at hi; omega⟩
  yld := fun as' st' H' i x H'' d s sr y e => by
    obtain ⟨T, x1, x2, rfl, nT, rfl, f1, f2⟩ := y
    obtain ⟨z1, z2, e1, e2, rfl⟩ := zipD_get ds es i d e
    obtain ⟨v1, g1, q1⟩ := r.get e1
    obtain ⟨v2, g2, q2⟩ := r2.get e2
    have t1 := f1 vs (h.trd s.d).sq
    have t2 := f2 us (h2.trd s.d).sq
    rw [g1] at t1
    rw [g2] at t2
    cases t1
    cases t2
    exact ⟨same_new nT, pair_rep nT (DRep.trd s.d _ _ q1) (DRep.trd s.d _ _ q2)⟩
theorem wk_zipT {b : Addr} {us : List V} {es : List D} (h : TpA K H a vs) (r : DReps K as H vs ds) (h2 : TpA K H b us) (r2 : DReps K as H us es) : Wk K (ItzT K a b) as H (zipD ds es) where
  go := fun as' H' i s hi => by
    rw [zipD_length] at hi
    have hl : i < vs.length := by rw [r.length]; omega
    have hl2 : i < us.length := by rw [r2.length]; omega
    exact ⟨vs, us, vs[i], us[i], (h.trd s.d).sq, (h2.trd s.d).sq, by simp [hl], by simp [hl2]⟩
  stop := fun as' H' i s hi => ⟨vs, us, (h.trd s.d).sq, (h2.trd s.d).sq, by rw [r.length, r2.length]; rw [zipD_length] at hi; omega⟩
  yld := fun as' st' H' i x H'' d s sr y e => by
    obtain ⟨T, x1, x2, rfl, nT, rfl, f1, f2⟩ := y
    obtain ⟨z1, z2, e1, e2, rfl⟩ := zipD_get ds es i d e
    obtain ⟨v1, g1, q1⟩ := r.get e1
    obtain ⟨v2, g2, q2⟩ := r2.get e2
    have t1 := f1 vs (h.trd s.d).sq
    have t2 := f2 us (h2.trd s.d).sq
    rw [g1] at t1
    rw [g2] at t2
    cases t1
    cases t2
    exact ⟨same_new nT, pair_rep nT (DRep.trd s.d _ _ q1) (DRep.trd s.d _ _ q2)⟩
theorem kD_rep (k : Key) : DRep K as H (kV k) (kD k) := by cases k <;> constructor
theorem wk_items {o : Obj} {kvs : List (Key × V)} {ks : List (Key × D)} (h : H a = some (.frz o (.dK kvs))) (n : ¬ as.Has a) (r : KReps K as H kvs ks) : Wk K (Iti a o kvs) as H (ks.map fun kv => .tup [kD kv.1, kv.2]) where
  go := fun as' H' i s hi => ⟨(s.ext _ _ h n).1, by rw [r.length]; simpa using hi⟩
  stop := fun as' H' i s hi => ⟨(s.ext _ _ h n).1, by rw [r.length]; simpa using hi⟩
  yld := fun as' st' H' i x H'' d s sr y e => by
    obtain ⟨T, k, v, e1, rfl, nT, rfl⟩ := y
    have key : ∀ {ks : List (Key × D)} {kvs : List (Key × V)} {i : Nat}, KReps K as H kvs ks → kvs[i]? = some (k, v) → ∃ d, ks[i]? = some (k, d) ∧ DRep K as H v d := by
      intro ks
      induction ks with
      | nil => intro kvs i r e; cases r; simp at e
      | cons p ks ih =>
        intro kvs i r e
        cases r with
        | cons q r =>
          cases i with
          | zero => simp at e; obtain ⟨rfl, rfl⟩ := e; exact ⟨_, rfl, q⟩
          | succ i => obtain ⟨d, e1, e2⟩ := ih r (by simpa using e); exact ⟨d, by simpa using e1, e2⟩
    obtain ⟨d', e2, q⟩ := key r e1
    rw [List.getElem?_map, e2] at e
    cases e
    exact ⟨same_new nT, pair_rep nT (kD_rep k) (DRep.trd s.d _ _ q)⟩
end
section
variable {X : Cx} {Γ : Fns} {con : Nat → Option D} {tg a b : Expr} {ca cb : CE} {pos p : Pos}
def iSeq (K : PySem.W.Frag) (tl : TE) : TI := fun σ H R => tl σ H fun x H1 => (∃ a, x = .ref a ∧ (∃ xs, SqL K H1 a xs) ∧ R (Itl K a) H1) ∨ (∃ a, x = .ref a ∧ (∃ xs, SqT K H1 a xs) ∧ R (Itt K a) H1) ∨ ∃ z, x = .str z ∧ R (Its z) H1
theorem pi_seq {l : Expr} {tl : TE} (hl : PE X l tl) : PI X tg l (iSeq X.K tl) := by
  refine ⟨fun pins s σ H R I h => ?_⟩
  refine thn (hl.run pins s σ H _ I h) fun v s1 ⟨x, H1, I1, r1, q1⟩ => ?_
  rcases q1 with ⟨a, e, ⟨xs, hq⟩, q⟩ | ⟨a, e, ⟨xs, hq⟩, q⟩ | ⟨z, e, q⟩
  · subst e
    cases r1
    obtain ⟨its, rv, p, hz⟩ := I1.list hq
    exact wpAny_pyIter_list p.isList (pi_one (tk := s1.toks) I1 _ (turn_list a _) ⟨_, Heap.get?_push_size _ rfl, rfl, rfl⟩ q)
  · subst e
    cases r1
    obtain ⟨its, rv, p, hz⟩ := I1.tuple hq
    exact wpAny_pyIter_tuple (show s1.heap.IsTuple a its.toArray from p) (pi_one (tk := s1.toks) I1 _ (turn_tuple a _) ⟨_, Heap.get?_push_size _ rfl, rfl, rfl⟩ q)
  · subst e
    obtain ⟨t, rfl⟩ := r1
    cases ha : z.cps.all (· < 128)
    · exact wpAny_pyIter_wide ha (pi_one (tk := s1.toks) I1 _ (turn_str _ z t "str_iterator" (.inr rfl)) ⟨_, Heap.get?_push_size _ rfl, rfl, rfl⟩ q)
    · exact wpAny_pyIter_ascii ha (pi_one (tk := s1.toks) I1 _ (turn_str _ z t "str_ascii_iterator" (.inl rfl)) ⟨_, Heap.get?_push_size _ rfl, rfl, rfl⟩ q)
theorem pdi_seq (ha : PE X a (tE X.K Γ con ca)) : PI X tg a (tI X.K Γ con (.seq ca)) :=
  (pi_seq ha).impD fun σ H R ⟨as, env, st, ds, st', er, sr, e, q⟩ => by
    simp only [evI] at e
    obtain ⟨⟨x, st1⟩, e1, e⟩ := Res.bind_ok e
    obtain ⟨ds', e2, e3⟩ := Res.bind_ok e
    cases e3
    refine ⟨as, env, st, x, _, er, sr, e1, fun v H1 as1 s1 sr1 hv => ?_⟩
    cases x with
    | lst xs =>
      cases e2
      cases hv with
      | lst h1 h2 h3 h4 => exact .inl ⟨_, rfl, ⟨_, .inl (.inl h1)⟩, q _ _ as1 s1 sr1 (wk_list (.lst h1 h2) h4) (by rw [← h4.length]; exact h3)⟩
    | ro xs =>
      cases e2
      cases hv with
      | ro h1 h3 h4 => exact .inl ⟨_, rfl, ⟨_, h1.sq⟩, q _ _ as1 s1 sr1 (wk_list h1 h4) (by rw [← h4.length]; exact h3)⟩
    | tup xs =>
      cases e2
      cases hv with
      | tup h1 h3 h4 => exact .inr (.inl ⟨_, rfl, ⟨_, h1.sq⟩, q _ _ as1 s1 sr1 (wk_tup h1 h4) (by rw [← h4.length]; exact h3)⟩)
    | str z =>
      simp only [seqItems] at e2
      split at e2
      · rename_i hl
        cases e2
        cases hv
        exact .inr (.inr ⟨z, rfl, q _ _ as1 s1 sr1 (wk_str z) (by rw [← LIM_eq, List.length_map, Array.length_toList]; exact hl)⟩)
      · cases e2
    | _ => cases e2
theorem pdi_range1 (hg : Gl X "range") (hm : X.mg "range" = none) (ha : PE X a (tE X.K Γ con ca)) (hs : starEach [a] X.env = [(false, eval a X.env)]) : PI X tg (.Call (.Name "range" p) [a] [] pos) (tI X.K Γ con (.range1 ca)) :=
  (pi_range1 hg hm (pa_cons ha pa_nil hs) hs).impD fun σ H R ⟨as, env, st, ds, st', er, sr, e, q⟩ => by
    simp only [evI] at e
    obtain ⟨⟨x, st1⟩, e1, e⟩ := Res.bind_ok e
    cases x with
    | int j =>
      simp only at e
      split at e
      · rename_i h
        cases e
        refine ⟨as, env, st, _, _, er, sr, e1, fun v H1 as1 s1 sr1 hv => ?_⟩
        cases hv
        exact ⟨j, rfl, h.1, by omega, q _ _ as1 s1 sr1 (wk_range 0 j.toNat) (by rw [rngD_length, sizeLine_eq]; omega)⟩
      · cases e
    | _ => cases e
theorem pdi_range2 (hg : Gl X "range") (hm : X.mg "range" = none) (ha : PE X a (tE X.K Γ con ca)) (hb : PE X b (tE X.K Γ con cb)) (hs : starEach [a, b] X.env = [(false, eval a X.env), (false, eval b X.env)]) (hs2 : starEach [b] X.env = [(false, eval b X.env)]) : PI X tg (.Call (.Name "range" p) [a, b] [] pos) (tI X.K Γ con (.range2 ca cb)) :=
  (pi_range2 hg hm (pa_cons ha (pa_cons hb pa_nil hs2) (by rw [hs, hs2])) hs hs2).impD fun σ H R ⟨as, env, st, ds, st', er, sr, e, q⟩ => by
    simp only [evI] at e
    obtain ⟨⟨x, st1⟩, e1, e⟩ := Res.bind_ok e
    obtain ⟨⟨y, st2⟩, e2, e⟩ := Res.bind_ok e
    simp only at e
    split at e
    · rename_i i j _
      split at e
      · rename_i h
        cases e
        refine ⟨as, env, st, _, _, er, sr, e1, fun v H1 as1 s1 sr1 hv => ⟨as1, env, st1, _, _, er.step s1, sr1, e2, fun u H2 as2 s2 sr2 hu => ?_⟩⟩
        cases hv
        cases hu
        exact ⟨i, j, rfl, ⟨h.1.1, h.1.2, h.2.1.1, h.2.1.2⟩, q _ _ as2 (s1.trans s2) sr2 (wk_range i (j - i).toNat) (by rw [rngD_length, sizeLine_eq]; omega)⟩
      · cases e
    · cases e
theorem pdi_zip {elts : List Expr} {kk : Nat} {tpos : Pos} (hg : Gl X "zip") (hm : X.mg "zip" = none) (ha : PE X a (tE X.K Γ con ca)) (hb : PE X b (tE X.K Γ con cb)) (hs : starEach [a, b] X.env = (false, eval a X.env) :: starEach [b] X.env) (hs2 : starEach [b] X.env = (false, eval b X.env) :: starEach [] X.env) :
    PI X (.Tuple elts kk tpos) (.Call (.Name "zip" p) [a, b] [] pos) (tI X.K Γ con (.zip ca cb)) :=
  (pi_zipA hg hm (pa_cons ha (pa_cons hb pa_nil hs2) hs) hs (by rw [hs2]; rfl)).impD fun σ H R ⟨as, env, st, ds, st', er, sr, e, q⟩ => by
    simp only [evI] at e
    obtain ⟨⟨x, st1⟩, e1, e⟩ := Res.bind_ok e
    obtain ⟨⟨y, st2⟩, e2, e⟩ := Res.bind_ok e
    simp only at e
    split at e
    · rename_i xs ys
      cases e
      refine ⟨as, env, st, _, _, er, sr, e1, fun v H1 as1 s1 sr1 hv => ⟨as1, env, st1, _, _, er.step s1, sr1, e2, fun u H2 as2 s2 sr2 hu => ?_⟩⟩
      have hv2 := hv.step s2
      cases hv2 with
      | lst h1 h2 h3 h4 =>
        cases hu with
        | lst k1 k2 k3 k4 =>
          exact ⟨_, _, _, _, rfl, .inl ⟨.inl (.inl h1), .inl (.inl k1), q _ _ as2 (s1.trans s2) sr2 (wk_zip (.lst h1 h2) h4 (.lst k1 k2) k4) (by rw [zipD_length, ← h4.length]; omega)⟩⟩
    · rename_i xs ys
      cases e
      refine ⟨as, env, st, _, _, er, sr, e1, fun v H1 as1 s1 sr1 hv => ⟨as1, env, st1, _, _, er.step s1, sr1, e2, fun u H2 as2 s2 sr2 hu => ?_⟩⟩
      have hv2 := hv.step s2
      cases hv2 with
      | tup h1 h3 h4 =>
        cases hu with
        | tup k1 k3 k4 =>
          exact ⟨_, _, _, _, rfl, .inr ⟨h1.sq, k1.sq, q _ _ as2 (s1.trans s2) sr2 (wk_zipT h1 h4 k1 k4) (by rw [zipD_length, ← h4.length]; omega)⟩⟩
    · cases e
theorem pdi_enum {elts : List Expr} {kk : Nat} {tpos : Pos} (hg : Gl X "enumerate") (hm : X.mg "enumerate" = none) (ha : PE X a (tE X.K Γ con ca)) (hs : starEach [a] X.env = [(false, eval a X.env)]) :
    PI X (.Tuple elts kk tpos) (.Call (.Name "enumerate" p) [a] [] pos) (tI X.K Γ con (.enum ca)) := by
  have h1 := pi_enum (X := X) (p := p) (pos := pos) (tpos := tpos) (elts := elts) (kk := kk) hg hm (pa_cons ha pa_nil hs) hs
  have h2 := pi_enumT (X := X) (p := p) (pos := pos) (tpos := tpos) (elts := elts) (kk := kk) hg hm (pa_cons ha pa_nil hs) hs
  refine ⟨fun pins s σ H R I ⟨as, env, st, ds, st', er, sr, e, q⟩ => ?_⟩
  simp only [evI] at e
  obtain ⟨⟨x, st1⟩, e1, e⟩ := Res.bind_ok e
  simp only at e
  split at e
  · rename_i xs
    cases e
    refine h1.run pins s σ H R I ⟨as, env, st, _, _, er, sr, e1, fun v H1 as1 s1 sr1 hv => ?_⟩
    cases hv with
    | lst k1 k2 k3 k4 => exact ⟨_, _, rfl, .inl (.inl k1), q _ _ as1 s1 sr1 (wk_enum (.lst k1 k2) k4) (by rw [enumD_length, ← k4.length]; exact k3)⟩
  · rename_i xs
    cases e
    refine h2.run pins s σ H R I ⟨as, env, st, _, _, er, sr, e1, fun v H1 as1 s1 sr1 hv => ?_⟩
    cases hv with
    | tup k1 k3 k4 => exact ⟨_, _, rfl, k1.sq, q _ _ as1 s1 sr1 (wk_enumT k1 k4) (by rw [enumD_length, ← k4.length]; exact k3)⟩
  · cases e
end
end En

set_option Elab.async false
set_option linter.all false
set_option maxRecDepth 100000
set_option maxHeartbeats 1000000
namespace En
open PySem PySem.Spec PyProof.Rows L2
theorem _root_.L2.PTs.impD {X : Cx} {es : List Expr} {t t' : TT} (h : PTs X es t) (f : ∀ σ H Q, t' σ H Q → t σ H Q) : PTs X es t' := ⟨fun pins s σ H Q I q => h.run pins s σ H Q I (f _ _ _ q)⟩
def tTo (K : PySem.W.Frag) (Γ : Fns) (con : Nat → Option D) (c : Option CE) : TT := fun σ H Q => ∃ as env st b st', ERep K as H σ env ∧ SRel K as st H ∧ evT Γ con c env st = .ok (b, st') ∧ ∀ H' as', Step as as' H H' → SRel K as' st' H' → Q b H'
theorem pdts_none {X : Cx} {Γ : Fns} {con : Nat → Option D} : PTs X [] (tTo X.K Γ con none) := pts_nil.impD fun σ H Q ⟨as, env, st, b, st', er, sr, e, q⟩ => by
  simp only [evT] at e
  cases e
  exact q H as (Step.refl _ _) sr
theorem pdts_some {X : Cx} {Γ : Fns} {con : Nat → Option D} {a : Expr} {ca : CE} (h : PT X a (tTest' X.K Γ con ca)) : PTs X [a] (tTo X.K Γ con (some ca)) := (pts_one h).impD fun σ H Q ⟨as, env, st, b, st', er, sr, e, q⟩ => by
  simp only [evT] at e
  obtain ⟨⟨d, st1⟩, e1, e⟩ := Res.bind_ok e
  obtain ⟨r, e2, e⟩ := Res.bind_ok e
  cases e
  cases asBool_ok e2
  exact ⟨as, env, st, _, _, er, sr, e1, q⟩
theorem wipe_wipe {vs : List Nat} {σ : L2.St} : L2.wipe (L2.wipe σ vs) vs = L2.wipe σ vs := by
  refine List.ext_getElem? fun i => ?_
  by_cases hi : i ∈ vs
  · rw [wipe_in hi, wipe_in hi, wipe_length]
  · rw [wipe_out hi]

section
variable {K : PySem.W.Frag} {as : Ads} {H : Hp} {st : Sto} {Dl : Addr}
theorem tr_start (h : H Dl = none) (u : HO) : TR as ⟨as.c, Dl :: as.p⟩ H (upd H Dl u) where
  tup := fun a xs e => by rw [upd_ne (ne_of_none e h)]; exact e
  ext := fun a o e n => by
    have hne := ne_of_none e h
    refine ⟨by rw [upd_ne hne]; exact e, fun m => ?_⟩
    rcases m with m | m
    · exact n (.inl m)
    · rcases List.mem_cons.mp m with z | z
      · exact hne z
      · exact n (.inr z)
theorem SRel.start (r : SRel K as st H) (h : H Dl = none) (u : HO) : SRel K ⟨as.c, Dl :: as.p⟩ st (upd H Dl u) := by
  have fr := r.fresh h
  refine r.trd (tr_start h u).d rfl (fun a ha => ?_) (fun a ha => ?_) fun a ha => ?_
  · rw [upd_ne]
    intro e
    subst e
    exact fr (.inl ha)
  · rcases List.mem_cons.mp ha with z | z
    · exact ⟨u, by rw [z, upd_same]⟩
    · obtain ⟨o, e⟩ := r.pr a z
      exact ⟨o, by rw [upd_ne (ne_of_none e h)]; exact e⟩
  · rcases List.mem_cons.mp ha with z | z
    · rw [z]; exact fun m => fr (.inl m)
    · exact r.dj a z
/-- the state in the midst of making the list at Dl, from H1 on -/
structure Mid (K : PySem.W.Frag) (Dl : Addr) (as1 : Ads) (H1 : Hp) (as' : Ads) (st' : Sto) (H : Hp) : Prop where
  p : as'.p = Dl :: as1.p
  step : Step as1 ⟨as'.c, as1.p⟩ H1 H
  rel : SRel K as' st' H
theorem Mid.tr {as1 as' : Ads} {H1 : Hp} {st' : Sto} (hD : H1 Dl = none) (m : Mid K Dl as1 H1 as' st' H) : TR as1 as' H1 H where
  tup := m.step.tup
  ext := fun a o e n => by
    refine ⟨m.step.extH e n, fun z => ?_⟩
    have hne := ne_of_none e hD
    rcases z with z | z
    · exact m.step.notin e n (.inl z)
    · rw [m.p] at z
      rcases List.mem_cons.mp z with y | y
      · exact hne y
      · exact n (.inr y)
theorem Mid.core {as1 as' : Ads} {H1 : Hp} {st' : Sto} (hD : H1 Dl = none) (m : Mid K Dl as1 H1 as' st' H) {v : V} {d : D} (h : VRep K as1 H1 v d) : VRep K as' H v d := by
  cases d with
  | mref i =>
    have h2 := VRep.step m.step h
    exact h2
  | _ => exact DRep.trd (m.tr hD).d _ _ h
theorem Mid.env {as1 as' : Ads} {H1 : Hp} {st' : Sto} (hD : H1 Dl = none) (m : Mid K Dl as1 H1 as' st' H) {σ : L2.St} {env : Env} (h : ERep K as1 H1 σ env) : ERep K as' H σ env :=
  ⟨h.len, fun i d e => let ⟨v, e1, q⟩ := h.get i d e; ⟨v, e1, m.core hD q⟩⟩
theorem Mid.start (r : SRel K as st H) (h : H Dl = none) (u : HO) : Mid K Dl as H ⟨as.c, Dl :: as.p⟩ st (upd H Dl u) := ⟨rfl, Step.same (same_new h), r.start h u⟩
theorem Mid.go {as1 as' as'' : Ads} {H1 H2 : Hp} {st' st'' : Sto} (hD : H1 Dl = none) (m : Mid K Dl as1 H1 as' st' H) (s : Step as' as'' H H2) (r : SRel K as'' st'' H2) : Mid K Dl as1 H1 as'' st'' H2 := by
  refine ⟨s.prot.trans m.p, ?_, r⟩
  refine ⟨Nat.le_trans m.step.len s.len, fun j a h => ?_, fun j h => s.dead j (m.step.dead j h), fun a h => ?_, fun a o e n => ?_, fun a xs e => s.tup a xs (m.step.tup a xs e), rfl⟩
  · rcases m.step.old j a h with z | z
    · exact s.old j a z
    · exact .inr (s.dead j z)
  · rcases s.new a h with z | z
    · exact m.step.new a z
    · cases q : H1 a with
      | none => exact .inr rfl
      | some o =>
        by_cases mm : some a ∈ as1.c
        · exact .inl mm
        · rw [m.step.ext a o q mm] at z; cases z
  · exact s.ext a o (m.step.ext a o e n) (m.step.notinC e n)
/-- the list at Dl is written -/
theorem Mid.put {as1 as' : Ads} {H1 : Hp} {st' : Sto} (hD : H1 Dl = none) (m : Mid K Dl as1 H1 as' st' H) (hl : ∀ xs, H Dl ≠ some (.tup xs)) (u : HO) : Mid K Dl as1 H1 as' st' (upd H Dl u) ∧ TR as' as' H (upd H Dl u) := by
  have has : as'.Has Dl := .inr (by rw [m.p]; exact List.mem_cons_self)
  have t : TR as' as' H (upd H Dl u) := ⟨fun a xs e => by
    have : a ≠ Dl := fun z => by subst z; exact hl xs e
    rw [upd_ne this]; exact e, fun a o e n => by
    have : a ≠ Dl := fun z => by subst z; exact n has
    exact ⟨by rw [upd_ne this]; exact e, n⟩⟩
  have nc : some Dl ∉ as'.c := m.rel.dj Dl (by rw [m.p]; exact List.mem_cons_self)
  refine ⟨⟨m.p, ?_, m.rel.trd t.d rfl (fun a ha => ?_) (fun a ha => ?_) m.rel.dj⟩, t⟩
  · exact ⟨m.step.len, m.step.old, m.step.dead, m.step.new, fun a o e n => by rw [upd_ne (ne_of_none e hD)]; exact m.step.ext a o e n, fun a xs e => by rw [upd_ne (ne_of_none e hD)]; exact m.step.tup a xs e, rfl⟩
  · have : a ≠ Dl := fun z => by subst z; exact nc ha
    rw [upd_ne this]
  · by_cases z : a = Dl
    · exact ⟨u, by rw [z, upd_same]⟩
    · obtain ⟨o, e⟩ := m.rel.pr a ha
      exact ⟨o, by rw [upd_ne z]; exact e⟩
/-- the list is made: by value -/
theorem Mid.done {as1 as' : Ads} {H1 : Hp} {st' : Sto} (hD : H1 Dl = none) (sr1 : SRel K as1 st H1) (m : Mid K Dl as1 H1 as' st' H) : SRel K ⟨as'.c, as1.p⟩ st' H ∧ TR as' ⟨as'.c, as1.p⟩ H H ∧ ¬ (⟨as'.c, as1.p⟩ : Ads).Has Dl := by
  have t : TR as' ⟨as'.c, as1.p⟩ H H := ⟨fun _ _ e => e, fun a o e n => ⟨e, fun z => by
    rcases z with z | z
    · exact n (.inl z)
    · exact n (.inr (by rw [m.p]; exact List.mem_cons_of_mem _ z))⟩⟩
  refine ⟨m.rel.trd t.d rfl (fun _ _ => rfl) (fun a ha => m.rel.pr a (by rw [m.p]; exact List.mem_cons_of_mem _ ha)) fun a ha => m.rel.dj a (by rw [m.p]; exact List.mem_cons_of_mem _ ha), t, fun z => ?_⟩
  rcases z with z | z
  · exact m.rel.dj Dl (by rw [m.p]; exact List.mem_cons_self) z
  · obtain ⟨o, e⟩ := sr1.pr Dl z
    rw [hD] at e; cases e
end

/-- the turns of a list comprehension -/
abbrev compF (Γ : Fns) (con : Nat → Option D) (t : Tg) (test : Option CE) (e : CE) (own : List Nat) (env : Env) : D → Sto → Res (Option D × Sto) := fun x s => (Res.of (asgT t x (wipeD env own))).bind fun env1 => (evT Γ con test env1 s).bind fun (b, s1) =>
  if b then (evE Γ con e env1 s1).bind fun (d, s2) => if d.isRef then .bad else .ok (some d, s2) else .ok (none, s1)
theorem compGo_len {f : D → Sto → Res (Option D × Sto)} : ∀ {ds : List D} {st : Sto} {rs : List D} {st2 : Sto}, compGo f ds st = .ok (rs, st2) → rs.length ≤ ds.length
  | [], st, rs, st2, h => by simp only [compGo] at h; cases h; exact Nat.le_refl _
  | x :: r, st, rs, st2, h => by
    simp only [compGo] at h
    obtain ⟨⟨o, st1⟩, e1, h⟩ := Res.bind_ok h
    obtain ⟨⟨ds', st3⟩, e2, h⟩ := Res.bind_ok h
    have := compGo_len e2
    cases h
    cases o <;> simp <;> omega
section
variable {K : PySem.W.Frag} {Γ : Fns} {con : Nat → Option D}
/-- the reading of a comprehension's loop; fin: what is told of the made list -/
theorem lc_loop {wi : TI} {t : Tg} {test : Option CE} {e : CE} {vs : List Nat} (hsub : ∀ i ∈ slotsT t, i ∈ vs) {σ : L2.St} {H : Hp} {Q : VK} {as : Ads} {env : Env} {st st1 st2 : Sto} {ds rs : List D} (er : ERep K as H σ env) (sr : SRel K as st H)
    (hwi : ∀ R : It → Hp → Prop, (∀ J H1 as1, Step as as1 H H1 → SRel K as1 st1 H1 → Wk K J as1 H1 ds → ds.length ≤ sizeLine → R J H1) → wi σ H R) (e2 : compGo (compF Γ con t test e vs env) ds st1 = .ok (rs, st2))
    (fin : ∀ as1 H1 Dl as' H' ws, Step as as1 H H1 → SRel K as1 st1 H1 → H1 Dl = none → Mid K Dl as1 H1 as' st2 H' → H' Dl = some (.lst ws) → DReps K as' H' ws rs → ws.length ≤ sizeLine → Q (.ref Dl) H') :
    tLc wi (tG K t) (tTo K Γ con test) (tE K Γ con e) vs σ H Q := by
  refine hwi _ fun J H1 as1 s1 sr1 wk hlen Dl hD => ?_
  refine ⟨fun i m H => m + i = ds.length ∧ ∃ as' st' ws done rest, Mid K Dl as1 H1 as' st' H ∧ H Dl = some (.lst ws) ∧ DReps K as' H ws done ∧ done.length ≤ i ∧ compGo (compF Γ con t test e vs env) (ds.drop i) st' = .ok (rest, st2) ∧ rs = done ++ rest,
    ⟨ds.length, by omega, ⟨as1.c, Dl :: as1.p⟩, st1, [], [], rs, Mid.start sr1 hD _, upd_same, .nil, Nat.le_refl _, by simpa using e2, rfl⟩, ?_⟩
  rintro i m H2 ⟨hm, as', st', ws, done, rest, mid, hDl, rep, hdl, ego, ers⟩
  by_cases hi : i < ds.length
  · right
    refine ⟨wk.go as' H2 i (mid.tr hD) hi, fun H' => ∃ as' st' ws done rest, Mid K Dl as1 H1 as' st' H' ∧ H' Dl = some (.lst ws) ∧ DReps K as' H' ws done ∧ done.length ≤ i + 1 ∧ compGo (compF Γ con t test e vs env) (ds.drop (i + 1)) st' = .ok (rest, st2) ∧ rs = done ++ rest,
      fun H' hN => ⟨m - 1, by omega, by omega, hN⟩, fun x H' hy => ?_⟩
    obtain ⟨sm, hx⟩ := wk.yld as' st' H2 i x H' ds[i] (mid.tr hD) mid.rel hy (List.getElem?_eq_getElem hi)
    rw [List.drop_eq_getElem_cons hi] at ego
    simp only [compGo] at ego
    obtain ⟨⟨o, stA⟩, g1, ego⟩ := Res.bind_ok ego
    obtain ⟨⟨rest', stB⟩, g2, ego⟩ := Res.bind_ok ego
    simp only [compF] at g1
    obtain ⟨env1, g3, g1⟩ := Res.bind_ok g1
    obtain ⟨⟨b, stC⟩, g4, g1⟩ := Res.bind_ok g1
    have midA := mid.go hD (Step.same sm) (mid.rel.same sm)
    have hDA : H' Dl = some (.lst ws) := sm _ _ hDl
    have repA := DReps.step (Step.same (as := as') sm) _ _ rep
    have g3' : asgT t ds[i] (wipeD env vs) = some env1 := by
      cases hq : asgT t ds[i] (wipeD env vs) with
      | none => rw [hq] at g3; cases g3
      | some z => rw [hq] at g3; cases g3; rfl
    refine ⟨as', wipeD env vs, ds[i], env1, (midA.env hD (er.step s1)).wipe vs, hx.toV, g3', fun σ2 er2 o2 => ⟨?_, ?_⟩⟩
    · rw [(o2.mono hsub).wipe, wipe_wipe]
    · refine ⟨as', env1, st', b, stC, er2, midA.rel, g4, fun H3 as3 s3 sr3 => ?_⟩
      have mid3 := midA.go hD s3 sr3
      have nD : some Dl ∉ as'.c := mid.rel.dj Dl (by rw [mid.p]; exact List.mem_cons_self)
      have hD3 : H3 Dl = some (.lst ws) := s3.ext _ _ hDA nD
      have rep3 := DReps.step s3 _ _ repA
      cases b with
      | false =>
        cases g1
        cases ego
        exact iteF ⟨as3, _, ws, done, _, mid3, hD3, rep3, by omega, g2, ers⟩
      | true =>
        simp only [if_true] at g1
        obtain ⟨⟨d, stE⟩, g5, g1⟩ := Res.bind_ok g1
        simp only at g1
        split at g1
        · cases g1
        · rename_i hr
          cases g1
          cases ego
          refine iteT ⟨as3, env1, stC, d, stA, er2.step s3, sr3, g5, fun y H4 as4 s4 sr4 hy4 => ?_⟩
          have mid4 := mid3.go hD s4 sr4
          have nD3 : some Dl ∉ as3.c := mid3.rel.dj Dl (by rw [mid3.p]; exact List.mem_cons_self)
          have hD4 : H4 Dl = some (.lst ws) := s4.ext _ _ hD3 nD3
          have rep4 := DReps.step s4 _ _ rep3
          have hlw : ws.length = done.length := rep.length
          refine ⟨ws, hD4, by omega, ?_⟩
          obtain ⟨mid5, t5⟩ := mid4.put hD (fun xs z => by rw [hD4] at z; cases z) (.lst (ws ++ [y]))
          have hy' := hy4.toD (by simpa using hr)
          refine ⟨as4, stA, ws ++ [y], done ++ [d], rest', mid5, upd_same, DReps.trd t5.d _ _ (rep4.append (.cons hy' .nil)), by simp; omega, g2, ?_⟩
          rw [ers, List.append_assoc]
          rfl
  · left
    have hdrop : ds.drop i = [] := List.drop_eq_nil_of_le (by omega)
    rw [hdrop] at ego
    simp only [compGo] at ego
    cases ego
    rw [List.append_nil] at ers
    subst ers
    exact ⟨wk.stop as' H2 i (mid.tr hD) (by omega), fin as1 H1 Dl as' H2 ws s1 sr1 hD mid hDl rep (by have := rep.length; omega)⟩
theorem lc_val {t : Tg} {ci : CI} {test : Option CE} {e : CE} {vs : List Nat} (hsub : ∀ i ∈ slotsT t, i ∈ vs) : ∀ σ H Q, tE K Γ con (.comp t ci test e vs) σ H Q → tLc (tI K Γ con ci) (tG K t) (tTo K Γ con test) (tE K Γ con e) vs σ H Q := fun σ H Q ⟨as, env, st, d, st', er, sr, ee, q⟩ => by
  simp only [evE] at ee
  obtain ⟨⟨ds, st1⟩, e1, ee⟩ := Res.bind_ok ee
  obtain ⟨⟨rs, st2⟩, e2, ee⟩ := Res.bind_ok ee
  cases ee
  refine lc_loop (st := st) hsub er sr (fun R hR => ⟨as, env, st, ds, st1, er, sr, e1, hR⟩) e2 fun as1 H1 Dl as' H' ws s1 sr1 hD mid hDl rep hz => ?_
  obtain ⟨sr2, t2, n2⟩ := mid.done hD sr1
  exact q _ _ ⟨as'.c, as1.p⟩ (s1.trans mid.step) sr2 (DRep.lst hDl n2 hz (DReps.trd t2.d _ _ rep)).toV
theorem lc_mut {t : Tg} {ci : CI} {test : Option CE} {e : CE} {vs : List Nat} (hsub : ∀ i ∈ slotsT t, i ∈ vs) : ∀ σ H Q, tE K Γ con (.compM t ci test e vs) σ H Q → tLc (tI K Γ con ci) (tG K t) (tTo K Γ con test) (tE K Γ con e) vs σ H Q := fun σ H Q ⟨as, env, st, d, st', er, sr, ee, q⟩ => by
  simp only [evE] at ee
  obtain ⟨⟨ds, st1⟩, e1, ee⟩ := Res.bind_ok ee
  obtain ⟨⟨rs, st2⟩, e2, ee⟩ := Res.bind_ok ee
  cases ee
  refine lc_loop (st := st) hsub er sr (fun R hR => ⟨as, env, st, ds, st1, er, sr, e1, hR⟩) e2 fun as1 H1 Dl as' H' ws s1 sr1 hD mid hDl rep hz => ?_
  obtain ⟨sr2, t2, n2⟩ := mid.done hD sr1
  have rep2 := DReps.trd t2.d _ _ rep
  -- the list becomes an object of the store
  have st3 : Step as1 ⟨as'.c ++ [some Dl], as1.p⟩ H1 H' := by
    refine ⟨by have := mid.step.len; simp at this ⊢; omega, fun j a h => ?_, fun j h => ?_, fun a h => ?_, mid.step.ext, mid.step.tup, rfl⟩
    · have hj : j < as'.c.length := by
        have h1 := mid.step.len
        have : j < as1.c.length := by
          by_cases hl : j < as1.c.length
          · exact hl
          · rw [List.getElem?_eq_none (by simpa using hl)] at h; cases h
        simp at h1; omega
      show (as'.c ++ [some Dl])[j]? = _ ∨ (as'.c ++ [some Dl])[j]? = _
      rw [List.getElem?_append_left hj]
      exact mid.step.old j a h
    · have hj : j < as'.c.length := by
        have h1 := mid.step.len
        have : j < as1.c.length := by
          by_cases hl : j < as1.c.length
          · exact hl
          · rw [List.getElem?_eq_none (by simpa using hl)] at h; cases h
        simp at h1; omega
      show (as'.c ++ [some Dl])[j]? = _
      rw [List.getElem?_append_left hj]
      exact mid.step.dead j h
    · rcases List.mem_append.mp h with h | h
      · exact mid.step.new a h
      · simp at h; subst h; exact .inr hD
  have tB : TR as' ⟨as'.c ++ [some Dl], as1.p⟩ H' H' := ⟨fun _ _ e => e, fun a o e n => ⟨e, fun z => by
    rcases z with z | z
    · rcases List.mem_append.mp z with z | z
      · exact n (.inl z)
      · simp at z; subst z; exact n (.inr (by rw [mid.p]; exact List.mem_cons_self))
    · exact n (.inr (by rw [mid.p]; exact List.mem_cons_of_mem _ z))⟩⟩
  have nDc : some Dl ∉ as'.c := fun z => n2 (.inl z)
  have sr3 : SRel K ⟨as'.c ++ [some Dl], as1.p⟩ (st2 ++ [.lst rs]) H' := by
    refine ⟨by have := sr2.len; simp at this ⊢; exact this, fun i j a h1 h2 => ?_, fun i o ee => ?_, sr2.pr, fun a ha m => ?_⟩
    · have key : ∀ {i : Nat}, (as'.c ++ [some Dl])[i]? = some (some a) → (as'.c[i]? = some (some a) ∧ a ≠ Dl) ∨ (i = as'.c.length ∧ a = Dl) := fun {i} h => by
        by_cases hi : i < as'.c.length
        · rw [List.getElem?_append_left hi] at h
          exact .inl ⟨h, fun z => by subst z; exact nDc (List.mem_of_getElem? h)⟩
        · rw [List.getElem?_append_right (by omega)] at h
          by_cases hz : i - as'.c.length = 0
          · rw [hz] at h; simp at h; exact .inr ⟨by omega, h.symm⟩
          · rw [List.getElem?_eq_none (by simp; omega)] at h; cases h
      rcases key h1 with ⟨a1, a2⟩ | ⟨a1, a2⟩
      · rcases key h2 with ⟨b1, b2⟩ | ⟨b1, b2⟩
        · exact sr2.nd i j a a1 b1
        · exact absurd b2 a2
      · rcases key h2 with ⟨b1, b2⟩ | ⟨b1, b2⟩
        · exact absurd a2 b2
        · omega
    · have hl := sr2.len
      simp only at hl
      by_cases hi : i < st2.length
      · rw [List.getElem?_append_left hi] at ee
        obtain ⟨x, g1, g2⟩ := mid.rel.rep i o ee
        refine ⟨x, by show (as'.c ++ [some Dl])[i]? = _; rw [List.getElem?_append_left (by omega)]; exact g1, ?_⟩
        cases x with
        | none => cases o <;> exact g2
        | some b =>
          cases o with
          | lst ds => obtain ⟨vs, e2, z, p⟩ := g2; exact ⟨vs, e2, z, DReps.trd tB.d _ _ p⟩
          | dic ds => obtain ⟨vs, e2, z, p⟩ := g2; exact ⟨vs, e2, z, KReps.trd tB.d _ _ p⟩
          | dead => exact g2
      · rw [List.getElem?_append_right (by omega)] at ee
        by_cases hz' : i - st2.length = 0
        · rw [hz'] at ee
          simp at ee
          subst ee
          refine ⟨some Dl, ?_, ws, hDl, hz, DReps.trd tB.d _ _ rep⟩
          show (as'.c ++ [some Dl])[i]? = _
          rw [List.getElem?_append_right (by omega)]
          have : i - as'.c.length = 0 := by omega
          rw [this]; rfl
        · rw [List.getElem?_eq_none (by simp; omega)] at ee; cases ee
    · rcases List.mem_append.mp m with m | m
      · exact sr2.dj a ha m
      · simp at m
        subst m
        exact n2 (.inr ha)
  refine q _ _ _ (s1.trans st3) sr3 ⟨by have := sr2.len; simp at this ⊢; omega, fun a h => ?_⟩
  have h : (as'.c ++ [some Dl])[st2.length]? = some (some a) := h
  have hl := sr2.len
  simp only at hl
  rw [← hl, List.getElem?_append_right (Nat.le_refl _)] at h
  simp at h
  rw [h]
end
end En

set_option Elab.async false
set_option linter.all false
set_option maxRecDepth 100000
set_option maxHeartbeats 1000000
namespace En
open PySem PySem.Spec PyProof.Rows L2
theorem _root_.L2.PE.orD {X : Cx} {e : Expr} {t t' : TE} (h : PE X e t) (h' : PE X e t') : PE X e (fun σ H Q => t σ H Q ∨ t' σ H Q) := ⟨fun pins s σ H Q I q => q.elim (fun z => h.run pins s σ H Q I z) fun z => h'.run pins s σ H Q I z⟩
section
variable {K : PySem.W.Frag} {as : Ads} {H : Hp} {st : Sto} {a : Addr} {kvs : List (Key × V)} {od : Obj}
theorem lock_tr (h : H a = some (.dK kvs)) (n : ¬ as.Has a) : TRd as as H (upd H a (.frz od (.dK kvs))) where
  tup := fun b xs e => by
    have : b ≠ a := fun z => by subst z; rw [h] at e; cases e
    rw [upd_ne this]; exact e
  lst := fun b xs e m => by
    have : b ≠ a := fun z => by subst z; rw [h] at e; cases e
    exact ⟨by rw [upd_ne this]; exact e, m⟩
  rls := fun b xs e m => by
    have : b ≠ a := fun z => by
      subst z
      rcases e with e | ⟨o, e⟩ <;> (rw [h] at e; cases e)
    exact ⟨by unfold Rd; rw [upd_ne this]; exact e, m⟩
  rdk := fun b xs e m => by
    refine ⟨?_, m⟩
    by_cases z : b = a
    · subst z
      rcases e with e | ⟨o, e⟩
      · rw [h] at e; cases e; exact .inr ⟨od, upd_same⟩
      · rw [h] at e; cases e
    · unfold Rd; rw [upd_ne z]; exact e
theorem unlock_tr (h : H a = some (.frz od (.dK kvs))) : TRd as as H (upd H a (.dK kvs)) where
  tup := fun b xs e => by
    have : b ≠ a := fun z => by subst z; rw [h] at e; cases e
    rw [upd_ne this]; exact e
  lst := fun b xs e m => by
    have : b ≠ a := fun z => by subst z; rw [h] at e; cases e
    exact ⟨by rw [upd_ne this]; exact e, m⟩
  rls := fun b xs e m => by
    have : b ≠ a := fun z => by
      subst z
      rcases e with e | ⟨o, e⟩ <;> (rw [h] at e; cases e)
    exact ⟨by unfold Rd; rw [upd_ne this]; exact e, m⟩
  rdk := fun b xs e m => by
    refine ⟨?_, m⟩
    by_cases z : b = a
    · subst z
      rcases e with e | ⟨o, e⟩
      · rw [h] at e; cases e
      · rw [h] at e; cases e; exact .inl upd_same
    · unfold Rd; rw [upd_ne z]; exact e
theorem lock_rel (r : SRel K as st H) (h : H a = some (.dK kvs)) (n : ¬ as.Has a) : SRel K as st (upd H a (.frz od (.dK kvs))) := by
  refine r.trd (lock_tr h n) rfl (fun b hb => ?_) (fun b hb => ?_) r.dj
  · have : b ≠ a := fun z => by subst z; exact n (.inl hb)
    rw [upd_ne this]
  · by_cases z : b = a
    · exact ⟨_, by rw [z, upd_same]⟩
    · obtain ⟨o, e⟩ := r.pr b hb
      exact ⟨o, by rw [upd_ne z]; exact e⟩
theorem unlock_rel (r : SRel K as st H) (h : H a = some (.frz od (.dK kvs))) (n : ¬ as.Has a) : SRel K as st (upd H a (.dK kvs)) := by
  refine r.trd (unlock_tr h) rfl (fun b hb => ?_) (fun b hb => ?_) r.dj
  · have : b ≠ a := fun z => by subst z; exact n (.inl hb)
    rw [upd_ne this]
  · by_cases z : b = a
    · exact ⟨_, by rw [z, upd_same]⟩
    · obtain ⟨o, e⟩ := r.pr b hb
      exact ⟨o, by rw [upd_ne z]; exact e⟩
/-- behind the lock -/
theorem unlock_step {as' : Ads} {H' : Hp} (h : H a = some (.dK kvs)) (n : ¬ as.Has a) (s : Step as as' (upd H a (.frz od (.dK kvs))) H') : H' a = some (.frz od (.dK kvs)) ∧ ¬ as'.Has a ∧ Step as as' H (upd H' a (.dK kvs)) := by
  have h1 : H' a = some (.frz od (.dK kvs)) := s.extH upd_same n
  refine ⟨h1, s.notin upd_same n, s.len, s.old, s.dead, fun b hb => ?_, fun b o e m => ?_, fun b xs e => ?_, s.prot⟩
  · rcases s.new b hb with z | z
    · exact .inl z
    · by_cases y : b = a
      · subst y; rw [upd_same] at z; cases z
      · rw [upd_ne y] at z; exact .inr z
  · by_cases y : b = a
    · subst y; rw [h] at e; cases e; exact upd_same
    · rw [upd_ne y]; exact s.ext b o (by rw [upd_ne y]; exact e) m
  · have y : b ≠ a := fun z => by subst z; rw [h] at e; cases e
    rw [upd_ne y]
    exact s.tup b xs (by rw [upd_ne y]; exact e)
end
section
variable {X : Cx} {Γ : Fns} {con : Nat → Option D}
/-- what a comprehension's code wants of the text -/
structure LcOk (X : Cx) (Γ : Fns) (con : Nat → Option D) (tg : Expr) (ifs : List Expr) (scope : Scope) (own : List (Str × Nat)) (t : Tg) (test : Option CE) : Prop where
  calm : X.calm = true
  nd : X.N.Nodup
  blk : BlkOk X.N X.env.scope scope own
  sub : ∀ i ∈ slotsT t, i ∈ own.map (·.2)
  tgt : ∀ (s : Shared) (H : Hp) (C : Addr) (cl : List (Str × Addr)) (fp : List Addr), PG (X.blk s H scope (compEnvC scope cl C X.env) fp) tg (tG X.K t)
  tst : ∀ (s : Shared) (H : Hp) (C : Addr) (cl : List (Str × Addr)) (fp : List Addr), PTs (X.blk s H scope (compEnvC scope cl C X.env) fp) ifs (tTo X.K Γ con test)
theorem pd_comp {elt tg iter : Expr} {ifs : List Expr} {scope : Scope} {own : List (Str × Nat)} {pos : Pos} {t : Tg} {ci : CI} {test : Option CE} {ce : CE} (ok : LcOk X Γ con tg ifs scope own t test) (hi : PI X tg iter (tI X.K Γ con ci))
    (he : ∀ (s : Shared) (H : Hp) (C : Addr) (cl : List (Str × Addr)) (fp : List Addr), PE (X.blk s H scope (compEnvC scope cl C X.env) fp) elt (tE X.K Γ con ce)) (hs : ∀ x, foldedSetIterable iter X.env x = pure x) :
    PE X (.ListComp elt [⟨tg, iter, ifs, 0⟩] scope pos) (tE X.K Γ con (.comp t ci test ce (own.map (·.2)))) :=
  (pe_lc ok.calm ok.nd hi ok.blk ok.tgt ok.tst he hs).impD (lc_val ok.sub)
theorem pd_compM {elt tg iter : Expr} {ifs : List Expr} {scope : Scope} {own : List (Str × Nat)} {pos : Pos} {t : Tg} {ci : CI} {test : Option CE} {ce : CE} (ok : LcOk X Γ con tg ifs scope own t test) (hi : PI X tg iter (tI X.K Γ con ci))
    (he : ∀ (s : Shared) (H : Hp) (C : Addr) (cl : List (Str × Addr)) (fp : List Addr), PE (X.blk s H scope (compEnvC scope cl C X.env) fp) elt (tE X.K Γ con ce)) (hs : ∀ x, foldedSetIterable iter X.env x = pure x) :
    PE X (.ListComp elt [⟨tg, iter, ifs, 0⟩] scope pos) (tE X.K Γ con (.compM t ci test ce (own.map (·.2)))) :=
  (pe_lc ok.calm ok.nd hi ok.blk ok.tgt ok.tst he hs).impD (lc_mut ok.sub)
theorem pd_compItems {elt iter : Expr} {elts : List Expr} {kk : Nat} {tpos : Pos} {ifs : List Expr} {scope : Scope} {own : List (Str × Nat)} {pos apos cpos : Pos} {t : Tg} {j : Nat} {test : Option CE} {ce : CE} (ok : LcOk X Γ con (.Tuple elts kk tpos) ifs scope own t test)
    (hv : PE X iter (tVar j)) (hbase : attributeBase iter "items" X.env (eval iter X.env) = eval iter X.env) (hline : (apos.endLine == cpos.line) = true)
    (he : ∀ (s : Shared) (H : Hp) (C : Addr) (cl : List (Str × Addr)) (fp : List Addr), PE (X.blk s H scope (compEnvC scope cl C X.env) fp) elt (tE X.K Γ con ce)) (hs : ∀ x, foldedSetIterable (.Call (.Attribute iter "items" apos) [] [] cpos) X.env x = pure x) :
    PE X (.ListComp elt [⟨.Tuple elts kk tpos, .Call (.Attribute iter "items" apos) [] [] cpos, ifs, 0⟩] scope pos) (tE X.K Γ con (.comp t (.items (.var j)) test ce (own.map (·.2)))) := by
  have base := pe_lc (X := X) (pos := pos) ok.calm ok.nd (pi_items hv hbase hline) ok.blk ok.tgt ok.tst he hs
  refine ((pe_lock base).orD base).impD fun σ H Q ⟨as, env, st, d, st', er, sr, ee, q⟩ => ?_
  simp only [evE, evI] at ee
  obtain ⟨⟨ds, st1⟩, e1, ee⟩ := Res.bind_ok ee
  obtain ⟨⟨rs, st2⟩, e2, ee⟩ := Res.bind_ok ee
  cases ee
  obtain ⟨⟨x, stX⟩, e3, e1⟩ := Res.bind_ok e1
  obtain ⟨ds', e4, e5⟩ := Res.bind_ok e1
  cases e5
  split at e3
  · rename_i dj hdj
    cases e3
    cases hx : x with
    | dic ks =>
      subst hx
      cases e4
      obtain ⟨v, ev, hvr⟩ := er.get j _ hdj
      cases hvr with
      | @dic a kvs _ h1 h2 h3 h4 =>
        have lenD : (ks.map fun kv => D.tup [kD kv.1, kv.2]).length ≤ sizeLine := by rw [List.length_map, ← h4.length]; exact h3
        rcases h1 with h1 | ⟨o, h1⟩
        · left
          refine ⟨a, .dK kvs, h1, trivial, fun od => ?_⟩
          have sr0 := lock_rel (od := od) sr h1 h2
          have er0 := er.trd (lock_tr (od := od) h1 h2) rfl
          have h4' := KReps.trd (lock_tr (od := od) h1 h2) _ _ h4
          refine lc_loop (st := st) (Γ := Γ) (con := con) ok.sub er0 sr0 (fun R hR => ⟨_, ev, a, od, kvs, rfl, upd_same, hR _ _ as (Step.refl _ _) sr0 (wk_items upd_same h2 h4') lenD⟩) e2 fun as1 H1 Dl as' H' ws s1 sr1 hD mid hDl rep hz => ?_
          obtain ⟨sr2, t2, n2⟩ := mid.done hD sr1
          obtain ⟨g1, g2, g3⟩ := unlock_step h1 h2 (s1.trans mid.step)
          refine ⟨g1, q _ _ _ g3 (unlock_rel sr2 g1 g2) (DRep.trd (unlock_tr g1) _ _ (DRep.lst hDl n2 hz (DReps.trd t2.d _ _ rep))).toV⟩
        · right
          refine lc_loop (st := st) (Γ := Γ) (con := con) ok.sub er sr (fun R hR => ⟨_, ev, a, o, kvs, rfl, h1, hR _ _ as (Step.refl _ _) sr (wk_items h1 h2 h4) lenD⟩) e2 fun as1 H1 Dl as' H' ws s1 sr1 hD mid hDl rep hz => ?_
          obtain ⟨sr2, t2, n2⟩ := mid.done hD sr1
          exact q _ _ ⟨as'.c, as1.p⟩ (s1.trans mid.step) sr2 (DRep.lst hDl n2 hz (DReps.trd t2.d _ _ rep)).toV
    | _ => subst hx; cases e4
  · cases e3
end
abbrev dcompF (Γ : Fns) (con : Nat → Option D) (t : Tg) (test : Option CE) (k v : CE) (own : List Nat) (env : Env) : D → Sto → Res (Option (Key × D) × Sto) := fun x s => (Res.of (asgT t x (wipeD env own))).bind fun env1 => (evT Γ con test env1 s).bind fun (b, s1) =>
  if b then (evE Γ con k env1 s1).bind fun (kd, s2) => (evE Γ con v env1 s2).bind fun (d, s3) => if d.isRef then .bad else (Res.of (keyOf kd)).bind fun kk => .ok (some (kk, d), s3) else .ok (none, s1)
section
variable {X : Cx} {Γ : Fns} {con : Nat → Option D}
theorem dc_val {K : PySem.W.Frag} {t : Tg} {ci : CI} {test : Option CE} {k v : CE} {vs : List Nat} (hsub : ∀ i ∈ slotsT t, i ∈ vs) : ∀ σ H Q, tE K Γ con (.dcomp t ci test k v vs) σ H Q → tDc (tI K Γ con ci) (tG K t) (tTo K Γ con test) (tE K Γ con k) (tE K Γ con v) vs σ H Q := fun σ H Q ⟨as, env, st, d, st', er, sr, ee, q⟩ => by
  simp only [evE] at ee
  obtain ⟨⟨ds, st1⟩, e1, ee⟩ := Res.bind_ok ee
  obtain ⟨⟨rs, st2⟩, e2, ee⟩ := Res.bind_ok ee
  cases ee
  have e2 : dcompGo (dcompF Γ con t test k v vs env) ds [] st1 = .ok (rs, st2) := e2
  refine ⟨as, env, st, ds, st1, er, sr, e1, fun J H1 as1 s1 sr1 wk hlen Dl hD => ?_⟩
  refine ⟨fun i m H => m + i = ds.length ∧ ∃ as' st'' ws acc, Mid K Dl as1 H1 as' st'' H ∧ H Dl = some (.dK ws) ∧ KReps K as' H ws acc ∧ acc.length ≤ i ∧ dcompGo (dcompF Γ con t test k v vs env) (ds.drop i) acc st'' = .ok (rs, st2),
    ⟨ds.length, by omega, ⟨as1.c, Dl :: as1.p⟩, st1, [], [], Mid.start sr1 hD _, upd_same, .nil, Nat.le_refl _, by simpa using e2⟩, ?_⟩
  rintro i m H2 ⟨hm, as', st'', ws, acc, mid, hDl, rep, hdl, ego⟩
  by_cases hi : i < ds.length
  · right
    refine ⟨wk.go as' H2 i (mid.tr hD) hi, fun H' => ∃ as' st'' ws acc, Mid K Dl as1 H1 as' st'' H' ∧ H' Dl = some (.dK ws) ∧ KReps K as' H' ws acc ∧ acc.length ≤ i + 1 ∧ dcompGo (dcompF Γ con t test k v vs env) (ds.drop (i + 1)) acc st'' = .ok (rs, st2),
      fun H' hN => ⟨m - 1, by omega, by omega, hN⟩, fun x H' hy => ?_⟩
    obtain ⟨sm, hx⟩ := wk.yld as' st'' H2 i x H' ds[i] (mid.tr hD) mid.rel hy (List.getElem?_eq_getElem hi)
    rw [List.drop_eq_getElem_cons hi] at ego
    simp only [dcompGo] at ego
    obtain ⟨⟨o, stA⟩, g1, ego⟩ := Res.bind_ok ego
    simp only [dcompF] at g1
    obtain ⟨env1, g3, g1⟩ := Res.bind_ok g1
    obtain ⟨⟨b, stC⟩, g4, g1⟩ := Res.bind_ok g1
    have midA := mid.go hD (Step.same sm) (mid.rel.same sm)
    have hDA : H' Dl = some (.dK ws) := sm _ _ hDl
    have repA := KReps.step (Step.same (as := as') sm) _ _ rep
    have g3' : asgT t ds[i] (wipeD env vs) = some env1 := by
      cases hq : asgT t ds[i] (wipeD env vs) with
      | none => rw [hq] at g3; cases g3
      | some z => rw [hq] at g3; cases g3; rfl
    refine ⟨as', wipeD env vs, ds[i], env1, (midA.env hD (er.step s1)).wipe vs, hx.toV, g3', fun σ2 er2 o2 => ⟨?_, ?_⟩⟩
    · rw [(o2.mono hsub).wipe, wipe_wipe]
    · refine ⟨as', env1, st'', b, stC, er2, midA.rel, g4, fun H3 as3 s3 sr3 => ?_⟩
      have mid3 := midA.go hD s3 sr3
      have nD : some Dl ∉ as'.c := mid.rel.dj Dl (by rw [mid.p]; exact List.mem_cons_self)
      have hD3 : H3 Dl = some (.dK ws) := s3.ext _ _ hDA nD
      have rep3 := KReps.step s3 _ _ repA
      cases b with
      | false =>
        cases g1
        exact iteF ⟨as3, _, ws, acc, mid3, hD3, rep3, by omega, ego⟩
      | true =>
        simp only [if_true] at g1
        obtain ⟨⟨kd, stE⟩, g5, g1⟩ := Res.bind_ok g1
        obtain ⟨⟨vd, stF⟩, g6, g1⟩ := Res.bind_ok g1
        simp only at g1
        split at g1
        · cases g1
        · rename_i hr
          obtain ⟨kk, g7, g1⟩ := Res.bind_ok g1
          cases g1
          refine iteT ⟨as3, env1, stC, kd, stE, er2.step s3, sr3, g5, fun y H4 as4 s4 sr4 hy4 => ⟨as4, env1, stE, vd, _, (er2.step s3).step s4, sr4, g6, fun z H5 as5 s5 sr5 hz5 => ?_⟩⟩
          have mid5 := (mid3.go hD s4 sr4).go hD s5 sr5
          have nD3 : some Dl ∉ as3.c := mid3.rel.dj Dl (by rw [mid3.p]; exact List.mem_cons_self)
          have hD5 : H5 Dl = some (.dK ws) := (s4.trans s5).ext _ _ hD3 nD3
          have rep5 := KReps.step (s4.trans s5) _ _ rep3
          have hlw : ws.length = acc.length := rep.length
          have hk : keyOf kd = some kk := by
            cases hq : keyOf kd with
            | none => rw [hq] at g7; cases g7
            | some z => rw [hq] at g7; cases g7; rfl
          have ey : y = kV kk := by
            cases kd with
            | int i => exact DRep.key hy4 hk
            | str i => exact DRep.key hy4 hk
            | _ => cases hk
          refine ⟨ws, kk, ey, hD5, by omega, ?_⟩
          obtain ⟨mid6, t6⟩ := mid5.put hD (fun xs z => by rw [hD5] at z; cases z) (.dK (putK ws kk z))
          have hz' := hz5.toD (by simpa using hr)
          refine ⟨as5, _, putK ws kk z, dput acc kk vd, mid6, upd_same, KReps.trd t6.d _ _ (rep5.put hz'), ?_, ego⟩
          have l1 := len_put ws kk z
          have l2 := (rep5.put (k := kk) hz').length
          omega
  · left
    have hdrop : ds.drop i = [] := List.drop_eq_nil_of_le (by omega)
    rw [hdrop] at ego
    simp only [dcompGo] at ego
    cases ego
    obtain ⟨sr2, t2, n2⟩ := mid.done hD sr1
    exact ⟨wk.stop as' H2 i (mid.tr hD) (by omega), q _ _ ⟨as'.c, as1.p⟩ (s1.trans mid.step) sr2 (DRep.dic (.inl hDl) n2 (by have := rep.length; omega) (KReps.trd t2.d _ _ rep)).toV⟩
theorem pd_dcomp {kx vx tg iter : Expr} {ifs : List Expr} {scope : Scope} {own : List (Str × Nat)} {pos : Pos} {t : Tg} {ci : CI} {test : Option CE} {ck cv : CE} (ok : LcOk X Γ con tg ifs scope own t test) (hi : PI X tg iter (tI X.K Γ con ci))
    (hk : ∀ (s : Shared) (H : Hp) (C : Addr) (cl : List (Str × Addr)) (fp : List Addr), PE (X.blk s H scope (compEnvC scope cl C X.env) fp) kx (tE X.K Γ con ck))
    (he : ∀ (s : Shared) (H : Hp) (C : Addr) (cl : List (Str × Addr)) (fp : List Addr), PE (X.blk s H scope (compEnvC scope cl C X.env) fp) vx (tE X.K Γ con cv)) (hs : ∀ x, foldedSetIterable iter X.env x = pure x) :
    PE X (.DictComp kx vx [⟨tg, iter, ifs, 0⟩] scope pos) (tE X.K Γ con (.dcomp t ci test ck cv (own.map (·.2)))) :=
  (pe_dc ok.calm ok.nd hi ok.blk ok.tgt ok.tst hk he hs).impD (dc_val ok.sub)
end
end En

set_option Elab.async false
set_option linter.all false
set_option maxRecDepth 100000
set_option maxHeartbeats 1000000
namespace En
open PySem PySem.Spec PyProof.Rows L2
/-- what is wanted where code ends -/
def EndOf (K : PySem.W.Frag) (Dn : Ends) (as' : Ads) (σ' : L2.St) (H' : Hp) : Fl → Prop
  | .next => Dn.nx σ' H'
  | .brk => Dn.bk σ' H'
  | .cont => Dn.ct σ' H'
  | .ret d => ∀ v, VRep K as' H' v d → Dn.rt v H'
def tBk (K : PySem.W.Frag) (ev : Env → Sto → Res (Fl × Env × Sto)) : TS := fun Dn σ H => ∃ as env st fl env' st', ERep K as H σ env ∧ SRel K as st H ∧ ev env st = .ok (fl, env', st') ∧
  ∀ σ' H' as', Step as as' H H' → SRel K as' st' H' → ERep K as' H' σ' env' → EndOf K Dn as' σ' H' fl
section
variable {X : Cx} {Γ : Fns} {con : Nat → Option D} {F : Nat} {pos : Pos} {st : Stmt} {sts : List Stmt} {c : CS} {cs : List CS} {a b : Expr} {ca cb : CE}
abbrev tS (K : PySem.W.Frag) (Γ : Fns) (con : Nat → Option D) (F : Nat) (c : CS) : TS := tBk K (evS Γ con F c)
abbrev tSs (K : PySem.W.Frag) (Γ : Fns) (con : Nat → Option D) (F : Nat) (c : List CS) : TS := tBk K (evSs Γ con F c)
theorem pds_nil : PSs X [] (tSs X.K Γ con F []) := pss_nil.impD fun Dn σ H ⟨as, env, s, fl, env', s', er, sr, e, q⟩ => by
  simp only [evSs] at e
  cases e
  exact q σ H as (Step.refl _ _) sr er
theorem pds_cons (h1 : PS X st (tS X.K Γ con F c)) (h2 : PSs X sts (tSs X.K Γ con F cs)) : PSs X (st :: sts) (tSs X.K Γ con F (c :: cs)) := (pss_cons h1 h2).impD fun Dn σ H ⟨as, env, s, fl, env', s', er, sr, e, q⟩ => by
  simp only [evSs] at e
  obtain ⟨⟨fl1, env1, s1⟩, e1, e⟩ := Res.bind_ok e
  refine ⟨as, env, s, fl1, env1, s1, er, sr, e1, fun σ1 H1 as1 st1 sr1 er1 => ?_⟩
  cases fl1 with
  | next => exact ⟨as1, env1, s1, fl, env', s', er1, sr1, e, fun σ2 H2 as2 st2 sr2 er2 => q σ2 H2 as2 (st1.trans st2) sr2 er2⟩
  | brk => cases e; exact q σ1 H1 as1 st1 sr1 er1
  | cont => cases e; exact q σ1 H1 as1 st1 sr1 er1
  | ret d => cases e; exact q σ1 H1 as1 st1 sr1 er1
theorem pd_pass : PS X (.Pass pos) (tS X.K Γ con F .pass) := ps_pass.impD fun Dn σ H ⟨as, env, s, fl, env', s', er, sr, e, q⟩ => by
  simp only [evS] at e
  cases e
  exact q σ H as (Step.refl _ _) sr er
theorem pd_break : PS X (.Break pos) (tS X.K Γ con F .brk) := ps_break.impD fun Dn σ H ⟨as, env, s, fl, env', s', er, sr, e, q⟩ => by
  simp only [evS] at e
  cases e
  exact q σ H as (Step.refl _ _) sr er
theorem pd_continue : PS X (.Continue pos) (tS X.K Γ con F .cont) := ps_continue.impD fun Dn σ H ⟨as, env, s, fl, env', s', er, sr, e, q⟩ => by
  simp only [evS] at e
  cases e
  exact q σ H as (Step.refl _ _) sr er
theorem pd_never : PS X st (tS X.K Γ con F .never) := ps_never.impD fun Dn σ H ⟨as, env, s, fl, env', s', er, sr, e, q⟩ => by
  simp only [evS] at e
  cases e
theorem pd_ex (ha : PE X a (tE X.K Γ con ca)) (hs : swapsWith a none pos.line X.env = pure false) : PS X (.Expr a pos) (tS X.K Γ con F (.ex ca)) := (ps_expr ha hs).impD fun Dn σ H ⟨as, env, s, fl, env', s', er, sr, e, q⟩ => by
  simp only [evS] at e
  obtain ⟨⟨d, s1⟩, e1, e⟩ := Res.bind_ok e
  cases e
  exact ⟨as, env, s, d, _, er, sr, e1, fun v H1 as1 st1 sr1 hv => q σ H1 as1 st1 sr1 (er.step st1)⟩
theorem pd_ret (ha : PE X a (tE X.K Γ con ca)) : PS X (.Return (some a) pos) (tS X.K Γ con F (.ret ca)) := (ps_ret ha).impD fun Dn σ H ⟨as, env, s, fl, env', s', er, sr, e, q⟩ => by
  simp only [evS] at e
  obtain ⟨⟨d, s1⟩, e1, e⟩ := Res.bind_ok e
  cases e
  exact ⟨as, env, s, d, _, er, sr, e1, fun v H1 as1 st1 sr1 hv => q σ H1 as1 st1 sr1 (er.step st1) v hv⟩
theorem pd_retN : PS X (.Return none pos) (tS X.K Γ con F .retN) := ps_retN.impD fun Dn σ H ⟨as, env, s, fl, env', s', er, sr, e, q⟩ => by
  simp only [evS] at e
  cases e
  exact q σ H as (Step.refl _ _) sr er _ DRep.non.toV
theorem pd_if {x y : List Stmt} {cx cy : List CS} (hc : PT X a (tTest' X.K Γ con ca)) (hx : PSs X x (tSs X.K Γ con F cx)) (hy : PSs X y (tSs X.K Γ con F cy)) : PS X (.If a x y pos) (tS X.K Γ con F (.ite ca cx cy)) :=
  (ps_if hc hx hy).impD fun Dn σ H ⟨as, env, s, fl, env', s', er, sr, e, q⟩ => by
    simp only [evS] at e
    obtain ⟨⟨d, s1⟩, e1, e⟩ := Res.bind_ok e
    obtain ⟨r, e2, e⟩ := Res.bind_ok e
    cases asBool_ok e2
    refine ⟨as, env, s, _, _, er, sr, e1, fun H1 as1 st1 sr1 => ?_⟩
    cases r with
    | true => exact iteT ⟨as1, env, s1, fl, env', s', er.step st1, sr1, e, fun σ2 H2 as2 st2 sr2 er2 => q σ2 H2 as2 (st1.trans st2) sr2 er2⟩
    | false => exact iteF ⟨as1, env, s1, fl, env', s', er.step st1, sr1, e, fun σ2 H2 as2 st2 sr2 er2 => q σ2 H2 as2 (st1.trans st2) sr2 er2⟩
theorem asg_imp {t : Tg} {te : TE} (hte : te = tE X.K Γ con ca) : ∀ Dn σ H, tS X.K Γ con F (.asg t ca) Dn σ H → tAsg te (tG X.K t) Dn σ H := fun Dn σ H ⟨as, env, s, fl, env', s', er, sr, e, q⟩ => by
  subst hte
  simp only [evS] at e
  obtain ⟨⟨d, s1⟩, e1, e⟩ := Res.bind_ok e
  obtain ⟨env1, e2, e⟩ := Res.bind_ok e
  cases e
  have e2' : asgT t d env = some env' := by
    cases hq : asgT t d env with
    | none => rw [hq] at e2; cases e2
    | some z => rw [hq] at e2; cases e2; rfl
  exact ⟨as, env, s, d, _, er, sr, e1, fun v H1 as1 st1 sr1 hv => ⟨as1, env, d, env', er.step st1, hv, e2', fun σ2 er2 _ => q σ2 H1 as1 st1 sr1 er2⟩⟩
theorem pd_asg {tg : Expr} {t : Tg} (ha : PE X a (tE X.K Γ con ca)) (hg : PG X tg (tG X.K t)) (hs : swapsWithSole [tg] a pos.line X.env = pure false) (hw : swappedStores [tg] a X.env = pure none) (h1 : (assignEach [tg] X.env).map (·.2) = [assign tg X.env]) : PS X (.Assign [tg] a pos) (tS X.K Γ con F (.asg t ca)) :=
  (ps_asg ha hg hs hw h1).impD (asg_imp rfl)
/-- name = [..] -/
theorem pd_setLc {i : Nat} {y : Str} {py : Pos} {elt tg iter : Expr} {ifs : List Expr} {scope : Scope} {own : List (Str × Nat)} {spos : Pos} {t : Tg} {ci : CI} {test : Option CE} {ce : CE} (ok : LcOk X Γ con tg ifs scope own t test) (hi : PI X tg iter (tI X.K Γ con ci))
    (he : ∀ (s : Shared) (H : Hp) (C : Addr) (cl : List (Str × Addr)) (fp : List Addr), PE (X.blk s H scope (compEnvC scope cl C X.env) fp) elt (tE X.K Γ con ce)) (hs : ∀ x, foldedSetIterable iter X.env x = pure x)
    (hy : X.N[i]? = some y) (hyl : X.env.scope.names.lookup y = some .local) (hsw : swapsWith (.ListComp elt [⟨tg, iter, ifs, 0⟩] scope pos) (some (.Name y py)) spos.line X.env = pure true) :
    PS X (.Assign [.Name y py] (.ListComp elt [⟨tg, iter, ifs, 0⟩] scope pos) spos) (tS X.K Γ con F (.asg (.name i) (.comp t ci test ce (own.map (·.2))))) :=
  (ps_setLc ok.calm ok.nd hy hyl hsw hi ok.blk ok.tgt ok.tst he hs).impD fun Dn σ H h => by
    have h2 := asg_imp (te := _) rfl Dn σ H h
    refine lc_val ok.sub σ H _ ?_
    obtain ⟨as, env, s, d, s', er, sr, e, q⟩ := h2
    refine ⟨as, env, s, d, s', er, sr, e, fun v H' as' st' sr' hv => ?_⟩
    obtain ⟨as2, env2, d2, env', er2, hv2, e2, q2⟩ := q v H' as' st' sr' hv
    simp only [asgT] at e2
    cases e2
    refine q2 _ (er2.set hv2) ⟨by simp, fun j hj => ?_⟩
    have : i ≠ j := fun z => hj (by simp [slotsT, z])
    rw [List.getElem?_set_ne this]
theorem pd_setLcM {i : Nat} {y : Str} {py : Pos} {elt tg iter : Expr} {ifs : List Expr} {scope : Scope} {own : List (Str × Nat)} {spos : Pos} {t : Tg} {ci : CI} {test : Option CE} {ce : CE} (ok : LcOk X Γ con tg ifs scope own t test) (hi : PI X tg iter (tI X.K Γ con ci))
    (he : ∀ (s : Shared) (H : Hp) (C : Addr) (cl : List (Str × Addr)) (fp : List Addr), PE (X.blk s H scope (compEnvC scope cl C X.env) fp) elt (tE X.K Γ con ce)) (hs : ∀ x, foldedSetIterable iter X.env x = pure x)
    (hy : X.N[i]? = some y) (hyl : X.env.scope.names.lookup y = some .local) (hsw : swapsWith (.ListComp elt [⟨tg, iter, ifs, 0⟩] scope pos) (some (.Name y py)) spos.line X.env = pure true) :
    PS X (.Assign [.Name y py] (.ListComp elt [⟨tg, iter, ifs, 0⟩] scope pos) spos) (tS X.K Γ con F (.asg (.name i) (.compM t ci test ce (own.map (·.2))))) :=
  (ps_setLc ok.calm ok.nd hy hyl hsw hi ok.blk ok.tgt ok.tst he hs).impD fun Dn σ H h => by
    have h2 := asg_imp (te := _) rfl Dn σ H h
    refine lc_mut ok.sub σ H _ ?_
    obtain ⟨as, env, s, d, s', er, sr, e, q⟩ := h2
    refine ⟨as, env, s, d, s', er, sr, e, fun v H' as' st' sr' hv => ?_⟩
    obtain ⟨as2, env2, d2, env', er2, hv2, e2, q2⟩ := q v H' as' st' sr' hv
    simp only [asgT] at e2
    cases e2
    refine q2 _ (er2.set hv2) ⟨by simp, fun j hj => ?_⟩
    have : i ≠ j := fun z => hj (by simp [slotsT, z])
    rw [List.getElem?_set_ne this]
theorem pd_set {i : Nat} {x : Str} {px : Pos} (hN : X.N.Nodup) (hi : X.N[i]? = some x) (hx : Loc X.env.scope x) (hf : X.fn x = true ∨ X.env.scope.names.lookup x = some .local) (ha : PE X a (tE X.K Γ con ca)) (hs : swapsWith a (some (.Name x px)) pos.line X.env = pure false) :
    PS X (.Assign [.Name x px] a pos) (tS X.K Γ con F (.asg (.name i) ca)) :=
  (ps_set hN hi hx ha hs hf).impD fun Dn σ H h => by
    obtain ⟨as, env, s, d, s', er, sr, e, q⟩ := asg_imp (te := _) rfl Dn σ H h
    refine ⟨as, env, s, d, s', er, sr, e, fun v H' as' st' sr' hv => ?_⟩
    obtain ⟨as2, env2, d2, env', er2, hv2, e2, q2⟩ := q v H' as' st' sr' hv
    simp only [asgT] at e2
    cases e2
    refine q2 _ (er2.set hv2) ⟨by simp, fun j hj => ?_⟩
    have : i ≠ j := fun z => hj (by simp [slotsT, z])
    rw [List.getElem?_set_ne this]
theorem pd_par2 {i j : Nat} {x y : Str} {px py pt : Pos} {kt k2 : Nat} {pt2 : Pos} (hc : X.calm = true) (hN : X.N.Nodup) (hi : X.N[i]? = some x) (hj : X.N[j]? = some y) (hij : i ≠ j)
    (hx : X.env.scope.names.lookup x = some .local) (hy : X.env.scope.names.lookup y = some .local) (hA : PA X [a, b] (tAs X.K Γ con [ca, cb]))
    (hw : swappedStores [.Tuple [.Name x px, .Name y py] kt pt] (.Tuple [a, b] k2 pt2) X.env = pure (some [x, y])) :
    PS X (.Assign [.Tuple [.Name x px, .Name y py] kt pt] (.Tuple [a, b] k2 pt2) pos) (tS X.K Γ con F (.par [i, j] [ca, cb])) :=
  (ps_par hc hN hi hj hij hx hy hA hw).impD fun Dn σ H ⟨as, env, s, fl, env', s', er, sr, e, q⟩ => by
    simp only [evS] at e
    obtain ⟨⟨ds, s1⟩, e1, e⟩ := Res.bind_ok e
    obtain ⟨env1, e2, e⟩ := Res.bind_ok e
    cases e
    refine ⟨as, env, s, ds, _, er, sr, e1, fun vs H1 as1 st1 sr1 hv => ?_⟩
    match ds, hv, e2 with
    | [d1, d2], hv, e2 =>
      obtain ⟨v, u, rfl, h1, h2⟩ := hv.two
      simp only [setAll, Res.of] at e2
      cases e2
      exact ⟨v, u, rfl, q _ H1 as1 st1 sr1 (((er.step st1).set h1).set h2)⟩
    | [], hv, e2 => simp [setAll, Res.of] at e2
    | [_], hv, e2 => simp [setAll, Res.of] at e2
    | _ :: _ :: _ :: _, hv, e2 => simp [setAll, Res.of] at e2
theorem pd_par3 {i j l : Nat} {x y z : Str} {c' : Expr} {cc : CE} {px py pz pt : Pos} {kt k2 : Nat} {pt2 : Pos} (hc : X.calm = true) (hN : X.N.Nodup) (hi : X.N[i]? = some x) (hj : X.N[j]? = some y) (hl : X.N[l]? = some z) (hij : i ≠ j) (hil : i ≠ l) (hjl : j ≠ l)
    (hx : X.env.scope.names.lookup x = some .local) (hy : X.env.scope.names.lookup y = some .local) (hz : X.env.scope.names.lookup z = some .local) (hA : PA X [a, b, c'] (tAs X.K Γ con [ca, cb, cc]))
    (hw : swappedStores [.Tuple [.Name x px, .Name y py, .Name z pz] kt pt] (.Tuple [a, b, c'] k2 pt2) X.env = pure (some [x, y, z])) :
    PS X (.Assign [.Tuple [.Name x px, .Name y py, .Name z pz] kt pt] (.Tuple [a, b, c'] k2 pt2) pos) (tS X.K Γ con F (.par [i, j, l] [ca, cb, cc])) :=
  (ps_par3 hc hN hi hj hl hij hil hjl hx hy hz hA hw).impD fun Dn σ H ⟨as, env, s, fl, env', s', er, sr, e, q⟩ => by
    simp only [evS] at e
    obtain ⟨⟨ds, s1⟩, e1, e⟩ := Res.bind_ok e
    obtain ⟨env1, e2, e⟩ := Res.bind_ok e
    cases e
    refine ⟨as, env, s, ds, _, er, sr, e1, fun vs H1 as1 st1 sr1 hv => ?_⟩
    match ds, hv, e2 with
    | [d1, d2, d3], hv, e2 =>
      cases hv with
      | cons h1 hv =>
        obtain ⟨v, u, rfl, h2, h3⟩ := hv.two
        simp only [setAll, Res.of] at e2
        cases e2
        exact ⟨_, v, u, rfl, q _ H1 as1 st1 sr1 ((((er.step st1).set h1).set h2).set h3)⟩
    | [], hv, e2 => simp [setAll, Res.of] at e2
    | [_], hv, e2 => simp [setAll, Res.of] at e2
    | [_, _], hv, e2 => simp [setAll, Res.of] at e2
    | _ :: _ :: _ :: _ :: _, hv, e2 => simp [setAll, Res.of] at e2
theorem iop_bop (op : BOp) (hop : op = .add ∨ op = .sub ∨ op = .mul ∨ op = .mod) : PIp X (pyBin op) (fun x y H Q => ∃ dx dy d, (∀ as', DRep X.K as' H x dx) ∧ (∀ as', DRep X.K as' H y dy) ∧ ((∃ a b, dx = .int a ∧ dy = .int b) ∨ ∃ a b, dx = .str a ∧ dy = .str b) ∧ bop op dx dy = .ok d ∧ ∀ v, (∀ as', DRep X.K as' H v d) → Q v H) := by
  intro pins s σ H x y v u Q I rx ry ⟨dx, dy, d, hx, hy, hd, e, q⟩
  have hx := hx ⟨[], []⟩
  have hy := hy ⟨[], []⟩
  rcases hd with ⟨a, b, rfl, rfl⟩ | ⟨a, b, rfl, rfl⟩
  · cases hx
    cases hy
    rcases hop with rfl | rfl | rfl | rfl
    · cases e; exact iop_add pins s σ H _ _ v u Q I rx ry ⟨a, b, rfl, rfl, q _ fun _ => .int _⟩
    · cases e; exact iop_sub pins s σ H _ _ v u Q I rx ry ⟨a, b, rfl, rfl, q _ fun _ => .int _⟩
    · simp only [bop] at e
      split at e
      · rename_i h
        cases e
        obtain ⟨t, rfl⟩ := rx
        obtain ⟨t', rfl⟩ := ry
        exact imul_int ⟨.int _, H, I.tok _, ⟨_, rfl⟩, q _ fun _ => .int _⟩ (CMulW.ok h)
      · cases e
    · simp only [bop] at e
      split at e
      · rename_i h
        cases e
        exact iop_mod pins s σ H _ _ v u Q I rx ry ⟨a, b, rfl, rfl, h, q _ fun _ => .int _⟩
      · cases e
  · cases hx
    cases hy
    rcases hop with rfl | rfl | rfl | rfl
    · simp only [bop] at e
      split at e
      · rename_i h
        cases e
        exact iop_add_str pins s σ H _ _ v u Q I rx ry ⟨a, b, rfl, rfl, by rw [← LIM_eq]; exact h, q _ fun _ => .str _⟩
      · cases e
    · cases e
    · cases e
    · cases e
theorem pd_aug {i : Nat} {x : Str} {px : Pos} {op : BOp} (hop : op = .add ∨ op = .sub ∨ op = .mul ∨ op = .mod) (hN : X.N.Nodup) (hi : X.N[i]? = some x) (hx : Loc X.env.scope x) (hf : X.fn x = true ∨ X.env.scope.names.lookup x = some .local) (ha : PE X a (tE X.K Γ con ca)) :
    PS X (.AugAssign (.Name x px) (pyBin op) a pos) (tS X.K Γ con F (.aug i op ca)) :=
  (ps_aug hN hi hx ha (iop_bop op hop) hf).impD fun Dn σ H ⟨as, env, s, fl, env', s', er, sr, e, q⟩ => by
    simp only [evS] at e
    split at e
    · rename_i d0 hd0
      obtain ⟨⟨d1, s1⟩, e1, e⟩ := Res.bind_ok e
      obtain ⟨v0, g1, g2⟩ := er.get i d0 hd0
      refine ⟨v0, g1, as, env, s, d1, s1, er, sr, e1, fun v H1 as1 st1 sr1 hv => ?_⟩
      simp only at e
      split at e
      · rename_i A B _
        obtain ⟨d, e3, e⟩ := Res.bind_ok e
        cases e
        cases g2
        cases hv
        refine ⟨.int A, .int B, d, fun _ => .int A, fun _ => .int B, .inl ⟨_, _, rfl, rfl⟩, e3, fun w hw => q _ H1 as1 st1 sr1 ((er.step st1).set (hw as1).toV)⟩
      · rename_i A B _
        obtain ⟨d, e3, e⟩ := Res.bind_ok e
        cases e
        cases g2
        cases hv
        refine ⟨.str A, .str B, d, fun _ => .str A, fun _ => .str B, .inr ⟨_, _, rfl, rfl⟩, e3, fun w hw => q _ H1 as1 st1 sr1 ((er.step st1).set (hw as1).toV)⟩
      · cases e
    · cases e
end
end En

set_option Elab.async false
set_option linter.all false
set_option maxRecDepth 100000
set_option maxHeartbeats 1000000
namespace En
open PySem PySem.Spec PyProof.Rows L2
section
variable {X : Cx} {Γ : Fns} {con : Nat → Option D} {F : Nat} {pos : Pos}
def rSetD : V → V → V → Hp → (Hp → Prop) → Prop := fun o i v H Q => ∃ a H', o = .ref a ∧ DPut H a i v H' ∧ Q H'
theorem set_dict (hu : X.A.units + 1 < cLine) : PSet X rSetD := by
  intro pins s σ H o i v ov iv u Q I ro ri rv ⟨a, H', eo, g, q⟩
  subst eo
  obtain rfl : ov = Value.ref a := ro
  exact d_setItem hu I g ri rv fun s' I' => ⟨H', I', q⟩
theorem set_or {r r' : V → V → V → Hp → (Hp → Prop) → Prop} (h : PSet X r) (h' : PSet X r') : PSet X (fun o i v H Q => r o i v H Q ∨ r' o i v H Q) := by
  intro pins s σ H o i v ov iv u Q I ro ri rv z
  rcases z with z | z
  · exact h pins s σ H o i v ov iv u Q I ro ri rv z
  · exact h' pins s σ H o i v ov iv u Q I ro ri rv z
theorem pd_setix {o i a : Expr} {co ci ca : CE} {tpos : Pos} (hu : X.A.units + 1 < cLine) (ho : PE X o (tE X.K Γ con co)) (hi : PE X i (tE X.K Γ con ci)) (ha : PE X a (tE X.K Γ con ca))
    (has : ∀ v, assign (.Subscript o i tpos) X.env v = (do
      let ov ← holding [v] (eval o X.env)
      let iv ← holding [v, ov] (eval i X.env)
      standAt tpos
      holding [v, ov, iv] (setItem ov iv v)
      release [v, ov, iv] [])) (hs : swapsWithSole [.Subscript o i tpos] a pos.line X.env = pure false) (hw : swappedStores [.Subscript o i tpos] a X.env = pure none) (h1 : (assignEach [.Subscript o i tpos] X.env).map (·.2) = [assign (.Subscript o i tpos) X.env]) :
    PS X (.Assign [.Subscript o i tpos] a pos) (tS X.K Γ con F (.setix co ci ca)) :=
  (ps_asg ha (pg_sub ho hi (set_or set_list (set_dict hu)) has) hs hw h1).impD fun Dn σ H ⟨as, env, s, fl, env', s', er, sr, e, q⟩ => by
    simp only [evS] at e
    obtain ⟨⟨y, s1⟩, e1, e⟩ := Res.bind_ok e
    obtain ⟨⟨x, s2⟩, e2, e⟩ := Res.bind_ok e
    obtain ⟨⟨z, s3⟩, e3, e⟩ := Res.bind_ok e
    simp only at e
    split at e
    · cases e
    · rename_i hr
      refine ⟨as, env, s, y, s1, er, sr, e1, fun v H1 as1 st1 sr1 hv => ⟨as1, env, s1, x, s2, er.step st1, sr1, e2, fun w H2 as2 st2 sr2 hw => ⟨as2, env, s2, z, s3, (er.step st1).step st2, sr2, e3, fun u H3 as3 st3 sr3 hu => ?_⟩⟩⟩
      have hv3 := ((hv.step st2).step st3).toD (by simpa using hr)
      have hw3 := hw.step st3
      have stp := (st1.trans st2).trans st3
      cases x with
      | mref j =>
        simp only at e
        cases hd : s3[j]? with
        | none => rw [hd] at e; cases z <;> cases e
        | some o =>
          rw [hd] at e
          cases o with
          | lst ds =>
            cases z with
            | int k =>
              simp only at e
              split at e
              · rename_i hk
                cases e
                obtain ⟨a0, vs, k1, k2, k3, k4⟩ := sr3.lst hd
                have ew := hw3.2 a0 k1
                subst ew
                cases hu
                left
                have hl : k.toNat < vs.length := by rw [k4.length]; exact hk.2
                refine ⟨a0, vs, k, k.toNat, rfl, rfl, k2, ?_, ?_⟩
                · unfold ixN
                  rw [if_pos hk.1, if_pos (by omega)]
                · obtain ⟨s4, sr4⟩ := sr3.write (i := j) (o := .lst (ds.set k.toNat y)) (u := .lst (vs.set k.toNat v)) k1 fun s0 => ⟨_, upd_same, by simpa using k3, DReps.step s0 _ _ (k4.set hv3 _)⟩
                  exact q σ _ as3 (stp.trans s4) sr4 ((er.step stp).step s4)
              · cases e
            | _ => cases e
          | dic kvs =>
            have e' : (match keyOf z with
              | some k => if kvs.length < LIM then Res.ok (Fl.next, env, s3.set j (.dic (dput kvs k y))) else .bad
              | none => .bad) = .ok (fl, env', s') := by cases z <;> exact e
            cases hk : keyOf z with
            | none => rw [hk] at e'; cases e'
            | some k =>
              rw [hk] at e'
              simp only at e'
              split at e'
              · rename_i hl
                cases e'
                obtain ⟨a0, vs, k1, k2, k3, k4⟩ := sr3.dic hd
                have ew := hw3.2 a0 k1
                subst ew
                have eu : u = kV k := by
                  cases z with
                  | int i => exact DRep.key hu hk
                  | str i => exact DRep.key hu hk
                  | _ => cases hk
                subst eu
                right
                have hlv : vs.length < sizeLine := by rw [k4.length, ← LIM_eq]; exact hl
                refine ⟨a0, _, rfl, DPut.k k2 hlv, ?_⟩
                obtain ⟨s4, sr4⟩ := sr3.write (i := j) (o := .dic (dput kvs k y)) (u := .dK (putK vs k v)) k1 fun s0 => ⟨_, upd_same, by have := len_put vs k v; omega, KReps.step s0 _ _ (k4.put hv3)⟩
                exact q σ _ as3 (stp.trans s4) sr4 ((er.step stp).step s4)
              · cases e'
          | dead => cases z <;> cases e
      | _ => cases e
/-- for target in ..: body -/
theorem pd_for {tg iter : Expr} {body : List Stmt} {t : Tg} {ci : CI} {cb : List CS} (hp : PassesOwn (model X.prog X.w) X.A X.env X.xe) (hc : X.calm = true) (hi : PI X tg iter (tI X.K Γ con ci)) (hg : PG X tg (tG X.K t)) (hb : PSs X body (tSs X.K Γ con F cb))
    (hs : ∀ x, foldedSetIterable iter X.env x = pure x) : PS X (.For tg iter body [] pos) (tS X.K Γ con F (.for_ t ci cb)) :=
  (ps_for hp hc hi hg hb hs).impD fun Dn σ H ⟨as, env, s, fl, env', s', er, sr, e, q⟩ => by
    simp only [evS] at e
    obtain ⟨⟨ds, s1⟩, e1, e⟩ := Res.bind_ok e
    refine ⟨as, env, s, ds, s1, er, sr, e1, fun J H1 as1 st1 sr1 wk hlen => ?_⟩
    refine ⟨fun i m σ H => m + i = ds.length ∧ ∃ as' st' env1, Step as1 as' H1 H ∧ SRel X.K as' st' H ∧ ERep X.K as' H σ env1 ∧ forGo (asgT t) (fun e s => evSs Γ con F cb e s) (ds.drop i) env1 st' = .ok (fl, env', s'),
      ⟨ds.length, by omega, as1, s1, env, Step.refl _ _, sr1, er.step st1, by simpa using e⟩, ?_⟩
    rintro i m σ2 H2 ⟨hm, as2, sto2, env2, st2, sr2, er2, ego⟩
    by_cases hi : i < ds.length
    · right
      refine ⟨wk.go as2 H2 i st2.tr hi, fun σ' H' => ∃ as' st' env1, Step as1 as' H1 H' ∧ SRel X.K as' st' H' ∧ ERep X.K as' H' σ' env1 ∧ forGo (asgT t) (fun e s => evSs Γ con F cb e s) (ds.drop (i + 1)) env1 st' = .ok (fl, env', s'),
        fun σ' H' hN => ⟨m - 1, by omega, by omega, hN⟩, fun x H' hy => ?_⟩
      obtain ⟨sm, hx⟩ := wk.yld as2 sto2 H2 i x H' ds[i] st2.tr sr2 hy (List.getElem?_eq_getElem hi)
      rw [List.drop_eq_getElem_cons hi] at ego
      simp only [forGo] at ego
      obtain ⟨env3, g3, ego⟩ := Res.bind_ok ego
      obtain ⟨⟨fl4, env4, s4⟩, g4, ego⟩ := Res.bind_ok ego
      have g3' : asgT t ds[i] env2 = some env3 := by
        cases hq : asgT t ds[i] env2 with
        | none => rw [hq] at g3; cases g3
        | some z => rw [hq] at g3; cases g3; rfl
      refine ⟨as2, env2, ds[i], env3, er2.step (Step.same sm), hx.toV, g3', fun σ3 er3 _ => ⟨as2, env3, sto2, fl4, env4, s4, er3, sr2.same sm, g4, fun σ5 H5 as5 st5 sr5 er5 => ?_⟩⟩
      have stp : Step as1 as5 H1 H5 := (st2.trans (Step.same sm)).trans st5
      cases fl4 with
      | next => exact ⟨as5, s4, env4, stp, sr5, er5, ego⟩
      | cont => exact ⟨as5, s4, env4, stp, sr5, er5, ego⟩
      | brk => cases ego; exact q σ5 H5 as5 (st1.trans stp) sr5 er5
      | ret d => cases ego; exact q σ5 H5 as5 (st1.trans stp) sr5 er5
    · left
      have hdrop : ds.drop i = [] := List.drop_eq_nil_of_le (by omega)
      rw [hdrop] at ego
      simp only [forGo] at ego
      cases ego
      exact ⟨wk.stop as2 H2 i st2.tr (by omega), q σ2 H2 as2 (st1.trans st2) sr2 er2⟩
theorem pd_while {c : Expr} {body : List Stmt} {cc : CE} {cb : List CS} (hp : PassesOwn (model X.prog X.w) X.A X.env X.xe) (hc : PT X c (tTest' X.K Γ con cc)) (hb : PSs X body (tSs X.K Γ con F cb)) : PS X (.While c body [] pos) (tS X.K Γ con F (.while_ cc cb)) :=
  (ps_while hp hc hb).impD fun Dn σ H ⟨as, env, s, fl, env', s', er, sr, e, q⟩ => by
    simp only [evS] at e
    refine ⟨fun m σ H2 => ∃ as' st' env1, Step as as' H H2 ∧ SRel X.K as' st' H2 ∧ ERep X.K as' H2 σ env1 ∧ whileGo (evE Γ con cc) (fun e s => evSs Γ con F cb e s) m env1 st' = .ok (fl, env', s'),
      ⟨F, as, s, env, Step.refl _ _, sr, er, e⟩, ?_⟩
    rintro m σ2 H2 ⟨as2, sto2, env2, st2, sr2, er2, ego⟩
    cases m with
    | zero => simp only [whileGo] at ego; cases ego
    | succ m =>
      simp only [whileGo] at ego
      obtain ⟨⟨d, s3⟩, g1, ego⟩ := Res.bind_ok ego
      obtain ⟨b, g2, ego⟩ := Res.bind_ok ego
      cases asBool_ok g2
      refine ⟨as2, env2, sto2, b, s3, er2, sr2, g1, fun H3 as3 st3 sr3 => ?_⟩
      cases b with
      | false =>
        cases ego
        exact iteF (q σ2 H3 as3 (st2.trans st3) sr3 (er2.step st3))
      | true =>
        simp only [if_true] at ego
        obtain ⟨⟨fl4, env4, s4⟩, g4, ego⟩ := Res.bind_ok ego
        refine iteT ⟨fun σ' H' => ∃ as' st' env1, Step as as' H H' ∧ SRel X.K as' st' H' ∧ ERep X.K as' H' σ' env1 ∧ whileGo (evE Γ con cc) (fun e s => evSs Γ con F cb e s) m env1 st' = .ok (fl, env', s'),
          fun σ' H' hN => ⟨m, Nat.lt_succ_self _, hN⟩, as3, env2, s3, fl4, env4, s4, er2.step st3, sr3, g4, fun σ5 H5 as5 st5 sr5 er5 => ?_⟩
        have stp : Step as as5 H H5 := (st2.trans st3).trans st5
        cases fl4 with
        | next => exact ⟨as5, s4, env4, stp, sr5, er5, ego⟩
        | cont => exact ⟨as5, s4, env4, stp, sr5, er5, ego⟩
        | brk => cases ego; exact q σ5 H5 as5 stp sr5 er5
        | ret d => cases ego; exact q σ5 H5 as5 stp sr5 er5
end
end En

set_option Elab.async false
set_option linter.all false
set_option maxRecDepth 100000
set_option maxHeartbeats 1000000
namespace En
open PySem PySem.Spec PyProof.Rows L2
abbrev SpD := List V → Hp → VK → Prop
/-- the def at f keeps the promise, where no repr is under way -/
structure FnG (P : Program) (w : World) (K : PySem.W.Frag) (mg : Str → Option Value) (base : Heap) (k : Nat) (f : Addr) (fd : FuncData) (ps : List Str) (sp : SpD) : Prop where
  len : ∀ vs H Q, sp vs H Q → vs.length = ps.length
  run : ∀ (A : Around) (outer : List PySem.Env) (s : Shared) (H : Hp) (args : Args) (us : List Value) (vs : List V) (Q : VK), A.guards = some [] → Room k A → Env0 P w K mg base A outer s H → BindsTo s fd args (ps.zip us) → Vals vs us → sp vs H Q →
    codeAny (model P w) A (.call (.ref f) args) (CR CX0 outer P w H s Q E0) s
def spF (K : PySem.W.Frag) (np : Nat) (g : List D → Sto → Res (D × Sto)) : SpD := fun vs H Q => ∃ as st ds d st', SRel K as st H ∧ VReps K as H vs ds ∧ ds.length = np ∧ g ds st = .ok (d, st') ∧ ∀ v H' as', Step as as' H H' → SRel K as' st' H' → VRep K as' H' v d → Q v H'
theorem evEs_length {Γ : Fns} {con : Nat → Option D} : ∀ {cs : List CE} {env : Env} {st : Sto} {ds : List D} {st1 : Sto}, evEs Γ con cs env st = .ok (ds, st1) → ds.length = cs.length := by
  intro cs
  induction cs with
  | nil => intro env st ds st1 h; simp only [evEs] at h; cases h; rfl
  | cons c cs ih =>
    intro env st ds st1 h
    simp only [evEs] at h
    obtain ⟨⟨x, s1⟩, h1, h⟩ := Res.bind_ok h
    obtain ⟨⟨xs, s2⟩, h2, h⟩ := Res.bind_ok h
    cases h
    simp [ih h2]
theorem DReps.toVs {K : PySem.W.Frag} {as : Ads} {H : Hp} : ∀ {ds : List D} {vs : List V}, DReps K as H vs ds → VReps K as H vs ds := by
  intro ds
  induction ds with
  | nil => intro vs h; cases h; exact .nil
  | cons d ds ih => intro vs h; cases h with | cons h r => exact .cons h.toV (ih r)
section
variable {X : Cx} {Γ : Fns} {con : Nat → Option D} {k : Nat} {f : Addr} {fd : FuncData} {ps : List Str} {sp : SpD} {dvs : List V} {dsv : List Value}
theorem run_fnG {pins : List (Addr × Obj)} {σ : L2.St} {H : Hp} {s : Shared} {Q : VK} {us : List Value} {vs : List V} (G : FnG X.prog X.w X.K X.mg X.base k f fd ps sp) (hg : X.A.guards = some []) (hr : Room k X.A) (hb : Binds X.K fd ps dsv) (hd : Vals dvs dsv)
    (I : Inv X pins σ H s) (r : Vals vs us) (h : sp (vs ++ dvs) H Q) : wpAny (model X.prog X.w) X.A (PySem.call (.ref f) us) (EP X pins σ Q) X.xe s := by
  have rr : Vals (vs ++ dvs) (us ++ dsv) := r.append hd
  have hlen : (us ++ dsv).length = ps.length := by rw [← rr.length]; exact G.len _ _ _ h
  refine wpAny_call (codeAny_mono (G.run X.A X.stack s H ⟨us, []⟩ (us ++ dsv) (vs ++ dvs) Q hg hr I.env0 (hb s us I.kIn hlen) rr h) fun res s' hq => ?_)
  cases res with
  | error e => exact False.elim hq
  | ok fl =>
    cases fl with
    | ret u => exact I.after hq
    | next => exact False.elim hq
    | brk => exact False.elim hq
    | cont => exact False.elim hq
/-- f(..) -/
theorem pd_call {x : Str} {p pos : Pos} {es : List Expr} {cs : List CE} {fi F : Nat} {fn : Fn} {Γ' : Fns} (G : FnG X.prog X.w X.K X.mg X.base k f fd ps (spF X.K fn.np (runBody Γ' con F fn))) (hΓ : Γ fi = runFn Γ' con F fn) (hg : X.A.guards = some []) (hr : Room k X.A)
    (hgl : Gl X x) (hm : X.mg x = some (.ref f)) (hk : PySem.W.keepIn X.K (.ref f) = true) (hb : Binds X.K fd ps dsv) (hd : Vals dvs dsv) (hdr : ∀ as H, DReps X.K as H dvs (fn.defs.drop (cs.length + fn.defs.length - fn.np)))
    (ha : PA X es (tAs X.K Γ con cs)) (hdb : (x == ("__debug__" : Str)) = false) (hcs : es = [] → cs = [])
    (hst : ∀ e es', es = e :: es' → starEach (e :: es') X.env = (false, eval e X.env) :: starEach es' X.env ∧ (backTo pos (starEach es' X.env)).any (·.1) = false) :
    PE X (.Call (.Name x p) es [] pos) (tE X.K Γ con (.call fi cs)) := by
  refine ⟨fun pins s σ H Q I ⟨as, env, st, d, st', er, sr, e, q⟩ => ?_⟩
  simp only [evE] at e
  obtain ⟨⟨ds, st1⟩, e1, e⟩ := Res.bind_ok e
  simp only [hΓ, runFn] at e
  split at e
  · rename_i hlen
    have hl : ds.length = cs.length := evEs_length e1
    have red : tAs X.K Γ con cs σ H fun vs H1 => spF X.K fn.np (runBody Γ' con F fn) (vs ++ dvs) H1 Q :=
      ⟨as, env, st, ds, st1, er, sr, e1, fun vs H1 as1 s1 sr1 hv => ⟨as1, st1, fillD fn ds, d, st', sr1, by
        unfold fillD
        rw [hl]
        exact hv.append (hdr as1 H1).toVs, hlen, e, fun v H2 as2 s2 sr2 hv2 => q v H2 as2 (s1.trans s2) sr2 hv2⟩⟩
    refine wpAny_Call_Name_kw (ld_glob I hgl hm ?_ hdb)
    cases es with
    | nil =>
      obtain rfl := hcs rfl
      have hs : spF X.K fn.np (runBody Γ' con F fn) ([] ++ dvs) H Q := by
        obtain ⟨as0, env0, st0, ds0, st10, er0, sr0, e10, q0⟩ := red
        simp only [evEs] at e10
        cases e10
        exact q0 [] H as0 (Step.refl _ _) sr0 .nil
      exact PySem.W.callWith_K0 I.kIn hk (run_fnG (us := []) G hg hr hb hd I .nil hs)
    | cons e0 es0 =>
      obtain ⟨h1, h2⟩ := hst e0 es0 rfl
      refine PySem.W.callWith_K (h₀ := X.base) I.ok.mod.kin hk (thn (ha.run pos pins s σ H _ I red) fun us s1 ⟨vs, H1, I1, r, q1⟩ => ⟨I1.kIn, ?_⟩) h1 h2
      exact run_fnG G hg hr hb hd I1 r q1
  · cases e
end
section
variable {K : PySem.W.Frag} {as as1 : Ads} {st st1 : Sto} {H H1 : Hp}
theorem SRel.pick (r : SRel K as1 st1 H1) {c : List (Option Addr)} {s : Sto} (φ : Nat → Nat) (inj : ∀ i k, i < c.length → k < c.length → φ i = φ k → i = k) (hl : c.length = s.length)
    (h1 : ∀ i x, c[i]? = some x → as1.c[φ i]? = some x) (h2 : ∀ i o, s[i]? = some o → st1[φ i]? = some o) : SRel K ⟨c, as1.p⟩ s H1 ∧ TRd as1 ⟨c, as1.p⟩ H1 H1 := by
  have sub : ∀ a, some a ∈ c → some a ∈ as1.c := fun a m => by
    obtain ⟨i, e⟩ := List.mem_iff_getElem?.mp m
    exact List.mem_of_getElem? (h1 i _ e)
  have hn : ∀ a, ¬ as1.Has a → ¬ (⟨c, as1.p⟩ : Ads).Has a := fun a n m => n (m.elim (fun m => .inl (sub a m)) .inr)
  have t : TRd as1 ⟨c, as1.p⟩ H1 H1 := TR.d ⟨fun _ _ h => h, fun a o h n => ⟨h, hn a n⟩⟩
  have lt : ∀ {i : Nat} {x : Option Addr}, c[i]? = some x → i < c.length := fun {i x} e => by
    by_cases q : i < c.length
    · exact q
    · rw [List.getElem?_eq_none (by simpa using q)] at e; cases e
  refine ⟨⟨hl, fun i j a e1 e2 => inj i j (lt e1) (lt e2) (r.nd _ _ a (h1 _ _ e1) (h1 _ _ e2)), fun i o e => ?_, r.pr, fun a ha m => r.dj a ha (sub a m)⟩, t⟩
  obtain ⟨x, e1, q⟩ := r.rep _ o (h2 i o e)
  have hi : i < c.length := by
    rw [hl]
    by_cases q : i < s.length
    · exact q
    · rw [List.getElem?_eq_none (by simpa using q)] at e; cases e
  have e2 := h1 i c[i] (by simp [hi])
  rw [e1] at e2
  refine ⟨x, by rw [Option.some.inj e2]; simp [hi], ?_⟩
  cases x with
  | none => cases o <;> exact q
  | some b =>
    cases o with
    | lst ds => obtain ⟨vs, e2, z, p⟩ := q; exact ⟨vs, e2, z, DReps.trd t _ _ p⟩
    | dic ds => obtain ⟨vs, e2, z, p⟩ := q; exact ⟨vs, e2, z, KReps.trd t _ _ p⟩
    | dead => exact q
theorem Step.cut (s : Step as as1 H H1) {c : List (Option Addr)} {n : Nat} (hn : as.c.length = n) (h1 : ∀ i, i < n → c[i]? = as1.c[i]?) (hl : n ≤ c.length) (sub : ∀ a, some a ∈ c → some a ∈ as1.c) : Step as ⟨c, as1.p⟩ H H1 where
  len := by show as.c.length ≤ c.length; omega
  old := fun j a e => by
    have hj : j < n := by
      by_cases q : j < n
      · exact q
      · rw [List.getElem?_eq_none (by omega)] at e; cases e
    show c[j]? = _ ∨ c[j]? = _
    rw [h1 j hj]
    exact s.old j a e
  dead := fun j e => by
    have hj : j < n := by
      by_cases q : j < n
      · exact q
      · rw [List.getElem?_eq_none (by omega)] at e; cases e
    show c[j]? = _
    rw [h1 j hj]
    exact s.dead j e
  new := fun a m => s.new a (sub a m)
  ext := s.ext
  tup := s.tup
  prot := s.prot
theorem finish_rel {keep : Bool} {v : V} {d d' : D} {st' : Sto} (s : Step as as1 H H1) (r0 : as.c.length = st.length) (r : SRel K as1 st1 H1) (hv : VRep K as1 H1 v d) (e : finish keep st.length d st1 = .ok (d', st')) :
    ∃ as', Step as as' H H1 ∧ SRel K as' st' H1 ∧ VRep K as' H1 v d' := by
  have hle : st.length ≤ as1.c.length := by have := s.len; omega
  have hle2 : st.length ≤ st1.length := by have := r.len; omega
  have cut : Step as ⟨as1.c.take st.length, as1.p⟩ H H1 ∧ SRel K ⟨as1.c.take st.length, as1.p⟩ (st1.take st.length) H1 ∧ TRd as1 ⟨as1.c.take st.length, as1.p⟩ H1 H1 := by
    obtain ⟨a, b⟩ := r.pick (c := as1.c.take st.length) (s := st1.take st.length) (fun i => i) (fun i k _ _ e => e) (by simp [r.len]) (fun i x e => by
      rw [List.getElem?_take] at e
      split at e
      · exact e
      · cases e) fun i x e => by
      rw [List.getElem?_take] at e
      split at e
      · exact e
      · cases e
    exact ⟨s.cut r0 (fun i hi => by rw [List.getElem?_take, if_pos hi]) (by simp; omega) (fun a m => List.mem_of_mem_take m), a, b⟩
  obtain ⟨c1, c2, c3⟩ := cut
  have dn : ∀ {d : D}, DRep K as1 H1 v d → VRep K ⟨as1.c.take st.length, as1.p⟩ H1 v d := fun h => (DRep.trd c3 _ _ h).toV
  have keepIt : ∀ {j : Nat} {o : O}, st1[j]? = some o → st.length ≤ j → (∀ a, as1.c[j]? = some (some a) → v = .ref a) →
      ∃ as', Step as as' H H1 ∧ SRel K as' (st1.take st.length ++ [o]) H1 ∧ VRep K as' H1 v (.mref st.length) := fun {j o} ho hj hv => by
    obtain ⟨x, ex, _⟩ := r.rep j o ho
    have hlt : (as1.c.take st.length).length = st.length := by simp; omega
    have hlt2 : (st1.take st.length).length = st.length := by simp; omega
    have at1 : ∀ i y, (as1.c.take st.length ++ [x])[i]? = some y → as1.c[if i = st.length then j else i]? = some y := fun i y e => by
      by_cases hi : i < st.length
      · rw [List.getElem?_append_left (by omega), List.getElem?_take, if_pos hi] at e
        rw [if_neg (by omega)]
        exact e
      · rw [List.getElem?_append_right (by omega), hlt] at e
        have : i - st.length = 0 := by
          cases q : i - st.length with
          | zero => rfl
          | succ m => rw [q] at e; simp at e
        rw [this] at e
        rw [if_pos (by omega), ex]
        simpa using e
    have at2 : ∀ i y, (st1.take st.length ++ [o])[i]? = some y → st1[if i = st.length then j else i]? = some y := fun i y e => by
      by_cases hi : i < st.length
      · rw [List.getElem?_append_left (by omega), List.getElem?_take, if_pos hi] at e
        rw [if_neg (by omega)]
        exact e
      · rw [List.getElem?_append_right (by omega), hlt2] at e
        have : i - st.length = 0 := by
          cases q : i - st.length with
          | zero => rfl
          | succ m => rw [q] at e; simp at e
        rw [this] at e
        rw [if_pos (by omega), ho]
        simpa using e
    have ll : (as1.c.take st.length ++ [x]).length = st.length + 1 := by simp; omega
    obtain ⟨a, b⟩ := r.pick (c := as1.c.take st.length ++ [x]) (s := st1.take st.length ++ [o]) (fun i => if i = st.length then j else i) (fun i k h1 h2 e => by
      rw [ll] at h1 h2
      split at e <;> split at e <;> omega) (by simp; omega) at1 at2
    refine ⟨_, s.cut r0 (fun i hi => ?_) (by rw [ll]; omega) (fun a m => ?_), a, ⟨by show _ < (as1.c.take st.length ++ [x]).length; rw [ll]; omega, fun a e => ?_⟩⟩
    · rw [List.getElem?_append_left (by omega), List.getElem?_take, if_pos hi]
    · obtain ⟨i, e⟩ := List.mem_iff_getElem?.mp m
      exact List.mem_of_getElem? (at1 i _ e)
    · have := at1 st.length _ e
      rw [if_pos rfl] at this
      exact hv a this
  cases d with
  | mref j =>
    obtain ⟨hl, hv⟩ := hv
    simp only [finish] at e
    split at e
    · rename_i hj
      cases e
      refine ⟨_, c1, c2, by show j < (as1.c.take st.length).length; simp; omega, fun a ea => ?_⟩
      have ea' : (as1.c.take st.length)[j]? = some (some a) := ea
      rw [List.getElem?_take, if_pos hj] at ea'
      exact hv a ea'
    · rename_i hj
      split at e
      · rename_i ds ho
        split at e
        · cases e
          exact keepIt ho (by omega) hv
        · cases e
          obtain ⟨a, vs, k1, k2, k3, k4⟩ := r.lst ho
          obtain rfl := hv a k1
          refine ⟨_, c1, c2, (DRep.lst k2 (fun m => ?_) k3 (DReps.trd c3 _ _ k4) : DRep _ _ _ _ _)⟩
          rcases m with m | m
          · obtain ⟨i, e⟩ := List.mem_iff_getElem?.mp m
            have e' : (as1.c.take st.length)[i]? = some (some a) := e
            rw [List.getElem?_take] at e'
            split at e'
            · have := r.nd _ _ _ k1 e'; omega
            · cases e'
          · exact r.dj a m (List.mem_of_getElem? k1)
      · rename_i ds ho
        split at e
        · cases e
          exact keepIt ho (by omega) hv
        · cases e
          obtain ⟨a, vs, k1, k2, k3, k4⟩ := r.dic ho
          obtain rfl := hv a k1
          refine ⟨_, c1, c2, (DRep.dic (.inl k2) (fun m => ?_) k3 (KReps.trd c3 _ _ k4) : DRep _ _ _ _ _)⟩
          rcases m with m | m
          · obtain ⟨i, e⟩ := List.mem_iff_getElem?.mp m
            have e' : (as1.c.take st.length)[i]? = some (some a) := e
            rw [List.getElem?_take] at e'
            split at e'
            · have := r.nd _ _ _ k1 e'; omega
            · cases e'
          · exact r.dj a m (List.mem_of_getElem? k1)
      · cases e
  | _ => simp only [finish] at e; cases e; exact ⟨_, c1, c2, dn hv⟩
theorem VReps.at {d : D} : ∀ {ds : List D} {vs : List V} {i : Nat}, VReps K as H vs ds → ds[i]? = some d → ∃ v, vs[i]? = some v ∧ VRep K as H v d := by
  intro ds
  induction ds with
  | nil => intro vs i h e; simp at e
  | cons d ds ih =>
    intro vs i h e
    cases h with
    | cons h r =>
      cases i with
      | zero => simp at e; subst e; exact ⟨_, rfl, h⟩
      | succ i => simpa using ih r (by simpa using e)
theorem ERep.start {N : List Str} {vs : List V} {ds : List D} (h : VReps K as H vs ds) (hl : ds.length ≤ N.length) : ERep K as H (L2.start N vs) (ds.map some ++ List.replicate (N.length - ds.length) none) := by
  refine ⟨by simp [L2.start, h.length], fun i d e => ?_⟩
  by_cases hi : i < ds.length
  · rw [List.getElem?_append_left (by simpa using hi), List.getElem?_map] at e
    cases q : ds[i]? with
    | none => rw [q] at e; cases e
    | some d' =>
      rw [q] at e
      cases e
      obtain ⟨v, e1, r⟩ := h.at q
      refine ⟨v, ?_, r⟩
      unfold L2.start
      rw [List.getElem?_append_left (by simpa [h.length] using hi), List.getElem?_map, e1]
      rfl
  · rw [List.getElem?_append_right (by simpa using hi), List.getElem?_replicate] at e
    split at e <;> cases e
end
theorem fn_ofG {P : Program} {w : World} {K : PySem.W.Frag} {mg : Str → Option Value} {base : Heap} {k : Nat} {f : Addr} {name qual : Str} {params : Arguments} {body : List Stmt} {scope : Scope} {dV kV doc pm cdv ct oc : Value} {an od : Option Addr}
    {osl : Array (Option Value)} {N ps : List Str} {fn : Fn} {Γ : Fns} {con : Nat → Option D} {F : Nat} (lk : K.lookup f = some ⟨oc, od, .func (PySem.W.fnOf name qual params body scope dV kV doc pm an cdv ct), osl⟩) (hcd : PySem.W.codeIn K cdv qual = true) (S : FnScope N ps scope)
    (hnp : fn.np = ps.length) (hns : fn.ns = N.length)
    (hbody : ∀ (A : Around) (outer : List PySem.Env) (s : Shared) (H : Hp), A.guards = some [] → Room k (A.deeper (envOfC qual scope s.heap.objs.size f cdv)) →
      PSs (cxOf CX0 P w K mg base N qual scope f cdv A outer s H E0).nox body (tSs K Γ con F fn.body)) :
    FnG P w K mg base (k + 1) f (PySem.W.fnOf name qual params body scope dV kV doc pm an cdv ct) ps (spF K fn.np (runBody Γ con F fn)) := by
  have hle : ps.length ≤ N.length := by have := congrArg List.length S.pre; rw [List.length_take] at this; omega
  have len : ∀ vs H Q, spF K fn.np (runBody Γ con F fn) vs H Q → vs.length = ps.length := fun vs H Q ⟨as, st, ds, d, st', sr, hv, hl, _, _⟩ => by rw [hv.length, hl, hnp]
  refine ⟨len, fun A outer s H args us vs Q hg hr e0 hb r hsp => ?_⟩
  have hl := len _ _ _ hsp
  have kin : K.In s.heap := e0.mod.kin.keeps fun b o e => (e0.bs b o e).1
  have nolim : s.heap.NoLimit := e0.mod.nolimit.keeps fun b o e => (e0.bs b o e).1
  have kinds : ∀ y ∈ ps.zip us, scope.names.lookup y.1 = some .local ∨ (scope.names.lookup y.1 = some .cell ∧ ((cellsFrom (s.heap.objs.size + 1) scope.names []).lookup y.1).isSome = true) := fun ⟨n, v⟩ hy => by
    rcases S.par n (List.of_mem_zip hy).1 with z | z
    · exact .inl z
    · exact .inr ⟨z, PySem.W.cellsFrom_some _ _ _ (.inl z)⟩
  refine codeAny_call_function hr.depth (kin _ _ lk) rfl S.co S.gen rfl (PySem.W.codeRec_of kin hcd) (hb _ _ _ _ ?_)
  refine wpAny_newFunctionEnv_cells S.kind kinds fun env henv s1 x => ?_
  subst henv
  refine ⟨nolim.keeps x.toInCall.keep, codeAny_func ?_⟩
  have ht := (hbody A outer s H hg (hr.deeper _)).nox
  have I : Inv (cxOf CX0 P w K mg base N qual scope f cdv A outer s H E0) [] (L2.start N vs) H s1 := inv_start S hr.hd e0 hl r x
  obtain ⟨as, st, ds, d, st', sr, hv, hdl, hrun, hQ⟩ := hsp
  unfold runBody at hrun
  obtain ⟨⟨fl, env', st1⟩, h1, hrun⟩ := Res.bind_ok hrun
  have hq : tSs K Γ con F fn.body { nx := fun _ H' => Q .non H', rt := Q } (L2.start N vs) H := by
    refine ⟨as, _, st, fl, env', st1, ?_, sr, h1, fun σ' H' as' s' sr' er' => ?_⟩
    · rw [hns]
      exact ERep.start hv (by omega)
    · cases fl with
      | next =>
        obtain ⟨as2, a, b, c⟩ := finish_rel s' sr.len sr' (v := .non) (d := .non) DRep.non hrun
        exact hQ _ _ as2 a b c
      | ret d0 =>
        intro v hv
        obtain ⟨as2, a, b, c⟩ := finish_rel s' sr.len sr' hv hrun
        exact hQ _ _ as2 a b c
      | brk => cases hrun
      | cont => cases hrun
  refine wpAny_mono (ht.run [] s1 (L2.start N vs) H _ I hq) (fun fl s' hs => ?_) fun e s' hs => hs
  have fin : ∀ {σ' : L2.St} {H' : Hp} {v : V} {u : Value}, Inv (cxOf CX0 P w K mg base N qual scope f cdv A outer s H E0) [] σ' H' s' → RelV v u → Q v H' → L2.CE outer P w H s Q u s' :=
    fun {σ' H' v u} J rv q => ⟨v, H', J.os, J.bare, J.base, J.hok, rv, q⟩
  cases fl with
  | ret u => obtain ⟨v, σ', H', J, rv, q⟩ := hs; exact fin J rv q
  | next => obtain ⟨σ', H', J, q⟩ := hs; exact fin (v := V.non) (u := Value.none) J rfl q
  | brk => obtain ⟨_, _, _, q⟩ := hs; exact q.elim
  | cont => obtain ⟨_, _, _, q⟩ := hs; exact q.elim
end En

set_option Elab.async false
set_option linter.all false
set_option maxRecDepth 100000
set_option maxHeartbeats 1000000
namespace En
open PySem PySem.Spec PyProof.Rows L2
theorem ro_reps {K : PySem.W.Frag} {as : Ads} {H : Hp} : ∀ (zs : List Int), DReps K as H (zs.map V.int) (zs.map D.int)
  | [] => .nil
  | z :: zs => .cons (.int z) (ro_reps zs)
/-- the script is all that is tracked: the law's def at it -/
theorem sp_script {K : PySem.W.Frag} {H : Hp} {a : Addr} {zs : List Int} {g : List D → Sto → Res (D × Sto)} {st' : Sto} (hz : zs.length ≤ sizeLine) (hS : SqL K H a (zs.map V.int)) (h : g [.ro (zs.map D.int)] [] = .ok (.bl true, st')) :
    spF K 1 g [.ref a] H (fun v _ => v = .bl true) := by
  refine ⟨⟨[], []⟩, [], [.ro (zs.map D.int)], .bl true, st', ⟨rfl, fun i j b e => by simp at e, fun i o e => by simp at e, fun b m => absurd m (by simp), fun b m => absurd m (by simp)⟩, .cons (DRep.ro (hS.imp (fun r => ⟨r, fun m => ?_⟩) id) (by simpa using hz) (ro_reps zs)).toV .nil, rfl, h, fun v H' as' _ _ hv => ?_⟩
  · rcases m with m | m
    · exact absurd m (by simp)
    · exact absurd m (by simp)
  · cases hv; rfl
theorem lawG_call {P : Program} {w : World} {K : PySem.W.Frag} {mg mb : Str → Option Value} {k : Nat} {fa a : Addr} {fd : FuncData} {x : Str} {g : List D → Sto → Res (D × Sto)} {st' : Sto} {t : Shared} {us : List Value} {zs : List Int}
    (hK : K.In t.heap) (hm : t.heap.Ns mainGlobals mg) (hbn : t.heap.Ns builtinsNs mb) (hbt : ∀ y : Str, y ≠ "__name__" → mb y = bootBuiltins y) (hnl : t.heap.NoLimit) (hgn : t.gens = #[])
    (hat : t.heap.get? a = some { cls := .type "list", data := .seq us.toArray }) (hin : IntsAre us zs) (hsz : zs.length ≤ sizeLine) (room : Room k callerA)
    (G : ∀ base : Heap, K.In base → base.Ns mainGlobals mg → FnG P w K mg base k fa fd [x] (spF K 1 g)) (hbd : ∀ (s : Shared) (u : Value), K.In s.heap → BindsTo s fd ⟨[u], []⟩ [(x, u)])
    (hgo : g [.ro (zs.map D.int)] [] = .ok (.bl true, st')) :
    codeAny (model P w) callerA (.call (.ref fa) ⟨[.ref a], []⟩) (fun r s' => r = .ok (.ret (.bool true)) ∧ OldK t.heap s'.heap ∧ s'.os = t.os ∧ AllBare s'.gens) t := by
  have rel := vals_ints hin
  have leq := hin.length
  have main : ∀ H : Hp, Only H → SqL K H a (zs.map V.int) → HOk P w H t.heap → (∀ b, H b ≠ none → b = a) → (H a ≠ none → K.lookup a = none) →
      codeAny (model P w) callerA (.call (.ref fa) ⟨[.ref a], []⟩) (fun r s' => r = .ok (.ret (.bool true)) ∧ OldK t.heap s'.heap ∧ s'.os = t.os ∧ AllBare s'.gens) t := by
    intro H only sq ok own apart
    have isA : ∀ {b : Addr} {u : HO}, H b = some u → b = a := fun {b u} q => own b (by rw [q]; simp)
    have toB : ∀ {b : Addr} {o : Obj}, t.heap.get? b = some o → H b = none → (hidT t.heap H).get? b = some o := fun h1 h2 => hidT_get h1 h2
    have nsB : ∀ {b : Addr} {m : Str → Option Value}, t.heap.Ns b m → (hidT t.heap H).Ns b m := by
      rintro b m ⟨o, es, ep, h1, h2, h3⟩
      refine ⟨o, es, ep, toB h1 ?_, h2, h3⟩
      cases q : H b with
      | none => rfl
      | some u =>
        obtain rfl := isA q
        rw [hat] at h1
        cases h1
        exact absurd (show Data.seq us.toArray _ = Data.dict es ep from h2) (by simp)
    have kB : K.In (hidT t.heap H) := by
      intro b o h1
      refine toB (hK b o h1) ?_
      cases q : H b with
      | none => rfl
      | some u =>
        obtain rfl := isA q
        rw [apart (by rw [q]; simp)] at h1
        cases h1
    have md : Mod K mg (hidT t.heap H) := by
      obtain ⟨mc, n1, n2⟩ := hnl
      exact ⟨kB, nsB hm, ⟨mb, nsB hbn, hbt⟩, mc, nsB n1, n2⟩
    have env0 : Env0 P w K mg (hidT t.heap H) callerA [] t H := ⟨rfl, md, fun b o e => of_hidT e, Nat.le_of_eq (hidT_size _ _), trivial, fun b hb => absurd (show b ∈ ([] : List Addr) from hb) (by simp), ok, .of_eq hgn⟩
    refine codeAny_mono ((G _ kB (nsB hm)).run callerA [] t H ⟨[.ref a], []⟩ [.ref a] [.ref a] _ rfl room env0 (hbd t (.ref a) hK) (.cons rfl .nil) (sp_script hsz sq hgo)) fun r s' h => ?_
    rcases r with e | fl
    · exact h.elim
    · cases fl with
      | next => exact h.elim
      | brk => exact h.elim
      | cont => exact h.elim
      | ret u =>
        obtain ⟨v, H', os, bare, un, ok', rv, q⟩ := h
        obtain rfl : v = .bl true := q
        obtain rfl : u = Value.bool true := rv
        refine ⟨rfl, OldK.of_keep fun b o e => ?_, os, bare⟩
        cases q : H b with
        | none => exact un.keep b o e q (fun z => absurd (show b ∈ ([] : List Addr) from z) (by simp)) (by simp)
        | some u =>
          rcases only b with z | ⟨ob, xs, z⟩
          · rw [q] at z; cases z
          · have later := (ok' b _ (un.frzs b ob _ z)).1
            have now := (ok b _ z).1
            rw [e] at now
            cases now
            exact later
  cases hk : K.lookup a with
  | some o =>
    have same := hK a o hk
    rw [hat] at same
    cases same
    exact main (fun _ => none) (fun _ => .inl rfl) (.inr ⟨_, us.toArray, _, hk, rfl, rfl, rfl, by rw [List.size_toArray, leq]; exact hsz, by simpa using rel⟩) (fun b u z => by have y : (none : Option HO) = some u := z; cases y) (fun b z => absurd rfl z) fun z => absurd rfl z
  | none =>
    refine main (fun b => if b = a then some (.frz { cls := .type "list", data := .seq us.toArray } (.lst (zs.map V.int))) else none) (fun b => ?_) (.inl (.inr ⟨{ cls := .type "list", data := .seq us.toArray }, if_pos rfl⟩)) (fun b u z => ?_) (fun b z => ?_) fun _ => hk
    · by_cases hb : b = a
      · exact .inr ⟨_, _, if_pos hb⟩
      · exact .inl (if_neg hb)
    · by_cases hb : b = a
      · have y := (if_pos hb).symm.trans z
        cases y
        subst hb
        exact ⟨hat, by rw [List.length_map]; exact hsz, us, _, rel, hat⟩
      · have y := (if_neg hb).symm.trans z
        cases y
    · by_cases hb : b = a
      · exact hb
      · exact absurd (if_neg hb) z
/-- what the head leaves, from the law's def in code: it answers True of every script -/
theorem walkG {l : PySem.W.OpenLaw} {n k : Nat} {q : Program} {loose : List Str} {XP : (Str → Option Value) → Heap → Prop} {YP : World → Heap → Prop} {d : DefRec} {K : Params → PySem.W.Frag} {x : Str} {g : List D → Sto → Res (D × Sto)}
    (hn : l.most = some n) (hn2 : n ≤ sizeLine) (hdf : d.params.defaults = []) (room : Room k callerA) (hY : ∀ (w : World) (h : Heap), YP w h → (K w.params).In h)
    (F : ∀ (w : World) (mg : Str → Option Value) (fa : Addr) (h : Heap), (K w.params).In h → h.Ns mainGlobals mg → mg d.name = some (.ref fa) →
      ∃ fd : FuncData, (∀ (s : Shared) (u : Value), (K w.params).In s.heap → BindsTo s fd ⟨[u], []⟩ [(x, u)]) ∧ ∀ base : Heap, (K w.params).In base → base.Ns mainGlobals mg → FnG l.prog w (K w.params) mg base k fa fd [x] (spF (K w.params) 1 g))
    (hg : ∀ zs : List Int, zs.length ≤ n → (∀ z ∈ zs, Builtin.Int.intBits z ≤ 1048576) → ∃ st', g [.ro (zs.map D.int)] [] = .ok (.bl true, st')) :
    PySem.W.WalkO q loose XP YP l.row.toRowW d [] (fun f vs => PySem.call f vs) := by
  refine Att.attach_callB hn hdf fun w s₀ s₁ mg mb fa o pm cd doc a us zs G Y ho hd hcd hmg hobj hints hlen hbits hgn => ?_
  have kin := hY w _ Y
  obtain ⟨fd, hb, hF⟩ := F w mg fa _ kin G.T.g hmg
  obtain ⟨st', hst⟩ := hg zs hlen hbits
  exact lawG_call kin G.T.g G.T.b G.T.builtins G.T.nolimit hgn hobj hints (Nat.le_trans hlen hn2) room hF hb hst
end En

set_option Elab.async false
set_option linter.all false
set_option maxRecDepth 100000
set_option maxHeartbeats 1000000
namespace En
open PySem PySem.Spec PyProof.Rows L2
section
variable {X : Cx} {Γ : Fns} {con : Nat → Option D} {a b : Expr} {ca cb : CE} {p pos p2 pos2 : Pos} {F : Nat}
theorem rngD_reps {K : PySem.W.Frag} {as : Ads} {H : Hp} : ∀ (n : Nat) (a : Int), DReps K as H ((List.range n).map fun i => V.int (a + (i : Nat))) (rngD a n)
  | 0, _ => .nil
  | n + 1, a => by
    rw [List.range_succ_eq_map, List.map_cons, List.map_map]
    have e : ((fun i : Nat => V.int (a + (i : Nat))) ∘ Nat.succ) = fun i : Nat => V.int (a + 1 + (i : Nat)) := by
      funext i
      show V.int _ = V.int _
      congr 1
      simp only [Nat.succ_eq_add_one]
      omega
    rw [e]
    refine .cons ?_ (rngD_reps n (a + 1))
    have : V.int (a + ((0 : Nat) : Int)) = V.int a := by simp
    rw [this]
    exact .int a
theorem rgV_reps {K : PySem.W.Frag} {as : Ads} {H : Hp} (i j : Int) : DReps K as H (rgV i j) (rngD i (j - i).toNat) := rngD_reps _ _
theorem pd_rng1 {t : Bool} (hc : X.calm = true) (hgl : Gl X (if t then "tuple" else "list")) (hml : X.mg (if t then "tuple" else "list") = none) (hg : Gl X "range") (hm : X.mg "range" = none) (ha : PE X a (tE X.K Γ con ca)) (hs : starEach [a] X.env = (false, eval a X.env) :: starEach [] X.env) :
    PE X (.Call (.Name (if t then "tuple" else "list") p) [.Call (.Name "range" p2) [a] [] pos2] [] pos) (tE X.K Γ con (.rng1 t ca)) := by
  have rd : ∀ (σ : L2.St) (H : Hp) (Q : VK), tE X.K Γ con (.rng1 t ca) σ H Q → tRg1 (tE X.K Γ con ca) σ H fun i j H1 => RgOk i j ∧ ∀ q, H1 q = none → Q (.ref q) (upd H1 q (if t then .tup (rgV i j) else .lst (rgV i j))) := fun σ H Q ⟨as, env, st, d, st', er, sr, e, q⟩ => by
    simp only [evE] at e
    obtain ⟨⟨x, st1⟩, e1, e⟩ := Res.bind_ok e
    cases x with
    | int j =>
      simp only at e
      split at e
      · rename_i h
        cases e
        refine ⟨as, env, st, _, _, er, sr, e1, fun v H1 as1 s1 sr1 hv => ?_⟩
        cases hv
        refine ⟨j, rfl, ⟨by omega, by omega, by omega, by omega, by omega⟩, fun r hr => ?_⟩
        have hz : (rgV 0 j).length ≤ sizeLine := by rw [rgV_length, sizeLine_eq]; omega
        have e0 : rngD 0 j.toNat = rngD 0 (j - 0).toNat := by simp
        cases t with
        | true => exact q _ _ as1 (s1.trans (Step.same (same_new hr))) (sr1.same (same_new hr)) (by rw [e0]; exact (new_tup hr hz (rgV_reps 0 j)).toV)
        | false => exact q _ _ as1 (s1.trans (Step.same (same_new hr))) (sr1.same (same_new hr)) (by rw [e0]; exact (new_lst sr1 hr hz (rgV_reps 0 j)).toV)
      · cases e
    | _ => cases e
  cases t with
  | true => exact (pe_tupRg hc hgl hml (prg_1 hg hm ha hs) rfl).impD rd
  | false => exact (pe_listRg hc hgl hml (prg_1 hg hm ha hs) rfl).impD rd
theorem pd_rng2 {t : Bool} (hc : X.calm = true) (hgl : Gl X (if t then "tuple" else "list")) (hml : X.mg (if t then "tuple" else "list") = none) (hg : Gl X "range") (hm : X.mg "range" = none) (ha : PE X a (tE X.K Γ con ca)) (hb : PE X b (tE X.K Γ con cb))
    (hs : starEach [a, b] X.env = (false, eval a X.env) :: starEach [b] X.env) (hs2 : starEach [b] X.env = (false, eval b X.env) :: starEach [] X.env) :
    PE X (.Call (.Name (if t then "tuple" else "list") p) [.Call (.Name "range" p2) [a, b] [] pos2] [] pos) (tE X.K Γ con (.rng2 t ca cb)) := by
  have rd : ∀ (σ : L2.St) (H : Hp) (Q : VK), tE X.K Γ con (.rng2 t ca cb) σ H Q → tRg2 (tE X.K Γ con ca) (tE X.K Γ con cb) σ H fun i j H1 => RgOk i j ∧ ∀ q, H1 q = none → Q (.ref q) (upd H1 q (if t then .tup (rgV i j) else .lst (rgV i j))) := fun σ H Q ⟨as, env, st, d, st', er, sr, e, q⟩ => by
    simp only [evE] at e
    obtain ⟨⟨x, st1⟩, e1, e⟩ := Res.bind_ok e
    obtain ⟨⟨y, st2⟩, e2, e⟩ := Res.bind_ok e
    simp only at e
    split at e
    · rename_i i j _
      split at e
      · rename_i h
        cases e
        refine ⟨as, env, st, _, _, er, sr, e1, fun v H1 as1 s1 sr1 hv => ⟨as1, env, st1, _, _, er.step s1, sr1, e2, fun u H2 as2 s2 sr2 hu => ?_⟩⟩
        cases hv
        cases hu
        refine ⟨i, j, rfl, rfl, ⟨h.1.1, h.1.2, h.2.1.1, h.2.1.2, by omega⟩, fun r hr => ?_⟩
        have hz : (rgV i j).length ≤ sizeLine := by rw [rgV_length, sizeLine_eq]; omega
        cases t with
        | true => exact q _ _ as2 ((s1.trans s2).trans (Step.same (same_new hr))) (sr2.same (same_new hr)) (new_tup hr hz (rgV_reps i j)).toV
        | false => exact q _ _ as2 ((s1.trans s2).trans (Step.same (same_new hr))) (sr2.same (same_new hr)) (new_lst sr2 hr hz (rgV_reps i j)).toV
      · cases e
    · cases e
  have hp : (backTo pos2 (starEach [b] X.env)).any (·.1) = false := by rw [hs2]; rfl
  cases t with
  | true => exact (pe_tupRg hc hgl hml (prg_2 hg hm ha hb hs hs2 hp) rfl).impD rd
  | false => exact (pe_listRg hc hgl hml (prg_2 hg hm ha hb hs hs2 hp) rfl).impD rd
theorem frz_env {K : PySem.W.Frag} {as as' : Ads} {H : Hp} {σ : L2.St} {env : Env} {i : Nat} {d d' : D} {v : V} (s : Step as as' H H) (er : ERep K as H σ env) (hi : env[i]? = some (some d)) (hv : σ[i]? = some (some v)) (hd : VRep K as' H v d') : ERep K as' H σ (env.set i (some d')) := by
  refine ⟨by rw [List.length_set]; exact er.len, fun j x e => ?_⟩
  by_cases hj : i = j
  · subst hj
    have hl : i < env.length := by
      by_cases q : i < env.length
      · exact q
      · rw [List.getElem?_eq_none (by simpa using q)] at hi; cases hi
    rw [List.getElem?_set_self hl] at e
    cases e
    exact ⟨v, hv, hd⟩
  · rw [List.getElem?_set_ne hj] at e
    obtain ⟨u, e1, q⟩ := er.get j x e
    exact ⟨u, e1, q.step s⟩
theorem pds_frz {i : Nat} {sts : List Stmt} {cs : List CS} (h : PSs X sts (tSs X.K Γ con F cs)) : PSs X sts (tSs X.K Γ con F (.frzV i :: cs)) := h.impD fun Dn σ H ⟨as, env, s, fl, env', s', er, sr, e, q⟩ => by
  simp only [evSs] at e
  obtain ⟨⟨fl1, env1, s1⟩, e1, e⟩ := Res.bind_ok e
  simp only [evS] at e1
  split at e1
  · rename_i j hi
    obtain ⟨v, hv, hl, hr⟩ := er.get i _ hi
    split at e1
    · rename_i ds ho
      cases e1
      obtain ⟨a, vs, k1, k2, k3, k4⟩ := sr.lst ho
      obtain rfl := hr a k1
      obtain ⟨s2, sr2, n2⟩ := sr.freeze k1
      have hd : DRep X.K _ H (.ref a) (.lst ds) := DRep.lst k2 n2 k3 (DReps.step s2 _ _ k4)
      exact ⟨_, _, _, fl, env', s', frz_env s2 er hi hv hd.toV, sr2, e, fun σ' H' as' s3 sr3 er3 => q σ' H' as' (s2.trans s3) sr3 er3⟩
    · rename_i ds ho
      cases e1
      obtain ⟨a, vs, k1, k2, k3, k4⟩ := sr.dic ho
      obtain rfl := hr a k1
      obtain ⟨s2, sr2, n2⟩ := sr.freeze k1
      have hd : DRep X.K _ H (.ref a) (.dic ds) := DRep.dic (.inl k2) n2 k3 (KReps.step s2 _ _ k4)
      exact ⟨_, _, _, fl, env', s', frz_env s2 er hi hv hd.toV, sr2, e, fun σ' H' as' s3 sr3 er3 => q σ' H' as' (s2.trans s3) sr3 er3⟩
    · cases e1
  · cases e1
end
end En

set_option Elab.async false
set_option linter.all false
set_option maxRecDepth 100000
set_option maxHeartbeats 1000000
namespace En
open PySem
inductive GK where
  | con (i : Nat)
  | fn (i np nd : Nat)
/-- what the turning knows: slots, kinds of the names, names that a comprehension may fill, the module's names, names whose lists are changed, freezings by line -/
structure TC where
  N : List Str
  nm : List (Str × NameKind)
  fnl : Option (List (Str × NameKind))
  G : List (Str × GK)
  M : List Str
  keep : Bool
  fz : List (Nat × Nat)
def slotAt : List Str → Str → Option Nat
  | [], _ => none
  | y :: r, x => if y = x then some 0 else (slotAt r x).map (· + 1)
def okN (x : Str) : Bool := !(x == ("__debug__" : Str)) && !(x == ("__classdict__" : Str)) && !(x == ("__name__" : Str))
def TC.vis (c : TC) (x : Str) : Bool := match c.nm.lookup x with
  | some .local => true
  | some .cell => true
  | some .free => true
  | _ => false
def TC.loc (c : TC) (x : Str) : Bool := match c.nm.lookup x with
  | some .local => true
  | some .cell => match c.fnl with
    | none => true
    | some l => match l.lookup x with
      | some .cell => true
      | _ => false
  | _ => false
def TC.isLocal (c : TC) (x : Str) : Bool := match c.nm.lookup x with
  | some .local => true
  | _ => false
def TC.glb (c : TC) (x : Str) : Bool := match c.nm.lookup x with
  | some .globalImplicit => okN x
  | _ => false
def notStar : Expr → Bool
  | .Starred _ _ => false
  | _ => true
def notSet : Expr → Bool
  | .Set _ _ _ => false
  | _ => true
def notLc : Expr → Bool
  | .ListComp _ _ _ _ => false
  | .SetComp _ _ _ _ => false
  | .DictComp _ _ _ _ _ => false
  | _ => true
def notCall : Expr → Bool
  | .Call _ _ _ _ => false
  | _ => true
def notSlice : Expr → Bool
  | .Slice _ _ _ _ => false
  | _ => true
def notTup : Expr → Bool
  | .Tuple _ _ _ => false
  | _ => true
def binOf : Operator → Option BOp
  | .Add => some .add
  | .Sub => some .sub
  | .Mult => some .mul
  | .FloorDiv => some .fdiv
  | .Mod => some .mod
  | .Pow => some .pow
  | _ => none
def cmpOf : CmpOp → COp
  | .Lt => .lt
  | .LtE => .le
  | .Gt => .gt
  | .GtE => .ge
  | .Eq => .eq
  | .NotEq => .ne
  | .In => .isin
  | .NotIn => .notin
  | .Is => .isNone
  | .IsNot => .notNone
def bltNames : List Str := ["len", "abs", "int", "tuple", "list", "all", "any", "sum", "max", "min", "sorted", "repr", "dict", "isinstance", "range", "zip", "enumerate", "bool", "str"]
/-- a builtin by its name and the number of its arguments -/
def biOf (x : Str) (n : Nat) : Option B :=
  if n = 1 then
    if x = "len" then some .len else if x = "abs" then some .abs else if x = "int" then some .int else if x = "tuple" then some .tuple else if x = "list" then some .list
    else if x = "all" then some .all else if x = "any" then some .any else if x = "sum" then some .sum else if x = "max" then some .max1 else if x = "min" then some .min1
    else if x = "sorted" then some .sorted else if x = "repr" then some .repr else if x = "dict" then some .dict else none
  else if n = 2 then if x = "max" then some .max2 else if x = "min" then some .min2 else none
  else none
def isiOf (x : Str) : Option B :=
  if x = "int" then some .isInt else if x = "bool" then some .isBool else if x = "str" then some .isStr else if x = "tuple" then some .isTuple else if x = "list" then some .isList else none
def ownOf (N : List Str) : List (Str × NameKind) → List (Str × Nat)
  | [] => []
  | (x, .local) :: r => match slotAt N x with
    | some i => (x, i) :: ownOf N r
    | none => ownOf N r
  | (x, .cell) :: r => match slotAt N x with
    | some i => (x, i) :: ownOf N r
    | none => ownOf N r
  | _ :: r => ownOf N r
def relNm (c : TC) (names : List (Str × NameKind)) : List (Str × NameKind) :=
  names.map fun (n, k) => if (k == .free && ScopeKind.function == .function && c.nm.lookup n == some .cell) then (n, .cell) else (n, k)
def TC.inner (c : TC) (sc : Scope) : TC := { c with nm := relNm c sc.names, fnl := some sc.names }
def dumSc (c : TC) : Scope := { kind := .function, names := c.nm, isGenerator := false, isCoroutine := false }
mutual
def trG : Nat → TC → Expr → Option Tg
  | 0, _, _ => none
  | n + 1, c, e => match e with
    | .Name x _ => if c.loc x then (slotAt c.N x).map .name else none
    | .Tuple es _ _ => (trGs n c es).map .tup
    | _ => none
def trGs : Nat → TC → List Expr → Option (List Tg)
  | 0, _, _ => none
  | n + 1, c, es => match es with
    | [] => some []
    | e :: r => if notStar e then (trG n c e).bind fun t => (trGs n c r).map (t :: ·) else none
end
def isName (l : List Str) : Expr → Bool
  | .Name x _ => l.contains x
  | _ => false
def frzIf (b : Bool) (ce : CE) : CE := if b then .frz ce else ce
/-- a method of a list or a dict -/
def metC (tr : Expr → Option CE) (M : List Str) (co : CE) (m : Str) (es : List Expr) : Option CE :=
  if m = "append" then match es with
    | [a] => (tr a).map fun ca => .append co (frzIf (isName M a) ca)
    | _ => none
  else if m = "extend" then match es with
    | [a] => (tr a).map fun ca => .extend co ca
    | _ => none
  else if m = "pop" then match es with
    | [] => some (.pop co)
    | [a] => (tr a).map fun ca => .popAt co ca
    | _ => none
  else if m = "get" then match es with
    | [a] => (tr a).map fun ca => .dget co ca none
    | [a, b] => (tr a).bind fun ca => (tr b).map fun cb => .dget co ca (some cb)
    | _ => none
  else none
mutual
def trE : Nat → TC → Expr → Option CE
  | 0, _, _ => none
  | n + 1, c, e => match e with
    | .Constant (.int i) _ _ => some (.lit (.int i))
    | .Constant (.bool b) _ _ => some (.lit (.bl b))
    | .Constant .none _ _ => some (.lit .non)
    | .Constant (.str x) _ _ => some (.lit (.str x))
    | .Name x _ =>
      if okN x then
        if c.vis x then (slotAt c.N x).map .var
        else if c.glb x then match c.G.lookup x with
          | some (.con i) => some (.glob i)
          | _ => none
        else none
      else none
    | .BinOp a op b _ => (binOf op).bind fun o => (trE n c a).bind fun ca => (trE n c b).map fun cb => .bin o ca cb
    | .UnaryOp .USub a _ => (trE n c a).map .neg
    | .UnaryOp .Not a _ => (trE n c a).map .not
    | .Compare a [op] [b] _ => if behindInMarks op b then none else (trE n c a).bind fun ca => (trE n c b).map fun cb => .cmp (cmpOf op) ca cb
    | .Compare a [op, op'] [b, b'] _ => if lastMarks [op, op'] [b, b'] then none else (trE n c a).bind fun ca => (trE n c b).bind fun cb => (trE n c b').map fun cb' => .chain (cmpOf op) (cmpOf op') ca cb cb'
    | .BoolOp .And (a :: es) _ => (trEs n c false (a :: es)).map .and
    | .BoolOp .Or (a :: es) _ => (trEs n c false (a :: es)).map .or
    | .IfExp t a b _ => (trE n c t).bind fun ct => (trE n c a).bind fun ca => (trE n c b).map fun cb => .ite ct ca cb
    | .Tuple es _ _ => if es.all notStar then (trEs n c true es).map .tup else none
    | .List es _ => if es.all notStar then (trEs n c true es).map .lst else none
    | .Dict [] [] _ => some .dnew
    | .Subscript a s _ => match s with
      | .Slice none none (some (.UnaryOp .USub (.Constant (.int 1) _ _) _)) _ => (trE n c a).map .rev
      | .Slice lo hi none _ => (trE n c a).bind fun ca => (trO n c lo).bind fun cl => (trO n c hi).map fun ch => .slc ca cl ch
      | b => if notSlice b then (trE n c a).bind fun ca => (trE n c b).map fun cb => .idx ca cb else none
    | .Call (.Name f _) es [] _ =>
      if c.glb f && es.all notStar then match c.G.lookup f with
        | some (.fn i np nd) => if es.length ≤ np ∧ np ≤ es.length + nd then (trEs n c false es).map (.call i) else none
        | some _ => none
        | none => match es with
          | [.Call (.Name g _) es2 [] _] =>
            if (f = "list" ∨ f = "tuple") ∧ g = "range" ∧ c.glb g = true then
              if es2.all notStar then (trEs n c false es2).bind fun cs => match cs with
                | [a] => some (.rng1 (decide (f = "tuple")) a)
                | [a, b] => some (.rng2 (decide (f = "tuple")) a b)
                | _ => none else none
            else (biOf f 1).bind fun b => (trEs n c false es).map (.bi b)
          | [a, .Name t _] => if f = "isinstance" ∧ c.glb t = true then (isiOf t).bind fun b => (trE n c a).map fun ca => .bi b [ca] else (biOf f 2).bind fun b => (trEs n c false es).map (.bi b)
          | es => (biOf f es.length).bind fun b => (trEs n c false es).map (.bi b)
      else none
    | .Call (.Attribute o m apos) es [] pos =>
      if notCall o && es.all notStar && (apos.endLine == pos.line) then (trE n c o).bind fun co =>
        metC (trE n c) c.M co m es
      else none
    | .ListComp elt [⟨tg, iter, ifs, as⟩] sc _ => if as = 0 then match trIt c tg iter with
      | some j => (trL n c elt tg ifs sc).map fun (t, test, ce, own) => .comp t (.items (.var j)) test ce (own.map (·.2))
      | none => (trI n c tg iter).bind fun ci => (trL n c elt tg ifs sc).map fun (t, test, ce, own) => .comp t ci test ce (own.map (·.2)) else none
    | .DictComp k v [⟨tg, iter, ifs, as⟩] sc _ => if as = 0 then (trI n c tg iter).bind fun ci => (trL n c k tg ifs sc).bind fun (t, test, ck, own) => (trE n (c.inner sc) v).map fun cv => .dcomp t ci test ck (frzIf (isName c.M v) cv) (own.map (·.2)) else none
    | _ => none
def trEs : Nat → TC → Bool → List Expr → Option (List CE)
  | 0, _, _, _ => none
  | n + 1, c, z, es => match es with
    | [] => some []
    | e :: r => (trE n c e).bind fun ce => (trEs n c z r).map fun cs => frzIf (z && isName c.M e) ce :: cs
def trO : Nat → TC → Option Expr → Option (Option CE)
  | 0, _, _ => none
  | _ + 1, _, none => some none
  | n + 1, c, some e => (trE n c e).map some
/-- d.items(), d a name -/
def trIt : TC → Expr → Expr → Option Nat
  | c, .Tuple _ _ _, .Call (.Attribute (.Name x _) m apos) [] [] cpos => if m = "items" ∧ (apos.endLine == cpos.line) = true ∧ c.vis x = true ∧ okN x = true then slotAt c.N x else none
  | _, _, _ => none
def trI : Nat → TC → Expr → Expr → Option CI
  | 0, _, _, _ => none
  | n + 1, c, tg, e => if notSet e then match e with
    | .Call (.Name f _) es [] _ =>
      if f = "range" then
        if c.glb f && es.all notStar then (trEs n c false es).bind fun cs => match cs with
          | [a] => some (.range1 a)
          | [a, b] => some (.range2 a b)
          | _ => none
        else none
      else if f = "zip" then
        if c.glb f && es.all notStar && !notTup tg then (trEs n c false es).bind fun cs => match cs with
          | [a, b] => some (.zip a b)
          | _ => none
        else none
      else if f = "enumerate" then
        if c.glb f && es.all notStar && !notTup tg then (trEs n c false es).bind fun cs => match cs with
          | [a] => some (.enum a)
          | _ => none
        else none
      else (trE n c e).map .seq
    | e => (trE n c e).map .seq
    else none
/-- a comprehension's parts -/
def trL : Nat → TC → Expr → Expr → List Expr → Scope → Option (Tg × Option CE × CE × List (Str × Nat))
  | 0, _, _, _, _, _ => none
  | n + 1, c, elt, tg, ifs, sc =>
    if L2.blkC c.N (dumSc c) sc (ownOf c.N sc.names) then (trG n (c.inner sc) tg).bind fun t =>
      if (slotsT t).all (fun i => ((ownOf c.N sc.names).map (·.2)).contains i) then (trT1 n (c.inner sc) ifs).bind fun test => (trE n (c.inner sc) elt).map fun ce => (t, test, frzIf (isName c.M elt) ce, ownOf c.N sc.names)
      else none
    else none
def trT1 : Nat → TC → List Expr → Option (Option CE)
  | 0, _, _ => none
  | _ + 1, _, [] => some none
  | n + 1, c, [e] => (trE n c e).map some
  | _ + 1, _, _ => none
end
end En

set_option Elab.async false
set_option linter.all false
set_option maxRecDepth 100000
set_option maxHeartbeats 2000000
namespace En
open PySem PySem.Spec PyProof.Rows L2
theorem ob {α β : Type} {o : Option α} {f : α → Option β} {r : β} (h : o.bind f = some r) : ∃ a, o = some a ∧ f a = some r := by
  cases o with
  | none => cases h
  | some a => exact ⟨a, rfl, h⟩
theorem om {α β : Type} {o : Option α} {f : α → β} {r : β} (h : o.map f = some r) : ∃ a, o = some a ∧ f a = r := by
  cases o with
  | none => cases h
  | some a => exact ⟨a, rfl, Option.some.inj h⟩
theorem oi {α : Type} {p : Prop} [Decidable p] {o : Option α} {r : α} (h : (if p then o else none) = some r) : p ∧ o = some r := by
  split at h
  · rename_i q; exact ⟨q, h⟩
  · cases h
theorem slotAt_ok : ∀ {N : List Str} {x : Str} {i : Nat}, slotAt N x = some i → N[i]? = some x
  | [], _, _, h => by cases h
  | y :: r, x, i, h => by
    unfold slotAt at h
    split at h
    · rename_i e; cases h; subst e; rfl
    · obtain ⟨j, e, rfl⟩ := om h
      simpa using slotAt_ok e
theorem okN_d {x : Str} (h : okN x = true) : (x == ("__debug__" : Str)) = false := by unfold okN at h; revert h; cases (x == ("__debug__" : Str)) <;> simp
theorem okN_c {x : Str} (h : okN x = true) : (x == ("__classdict__" : Str)) = false := by unfold okN at h; revert h; cases (x == ("__classdict__" : Str)) <;> simp
theorem okN_n {x : Str} (h : okN x = true) : x ≠ "__name__" := fun e => by subst e; revert h; decide +kernel
theorem binOf_ok {op : Operator} {o : BOp} (h : binOf op = some o) : op = pyBin o := by cases op <;> simp [binOf] at h <;> subst h <;> rfl
theorem cmpOf_ok (op : CmpOp) : op = pyCmp (cmpOf op) := by cases op <;> rfl
theorem star1 {a : Expr} {es : List Expr} {env : PySem.Env} (h : notStar a = true) : starEach (a :: es) env = (false, eval a env) :: starEach es env := by
  cases a <;> first | rfl | cases h
theorem stars {env : PySem.Env} {pos : Pos} : ∀ {es : List Expr}, es.all notStar = true → (backTo pos (starEach es env)).any (·.1) = false
  | [], _ => rfl
  | a :: es, h => by
    simp only [List.all_cons, Bool.and_eq_true] at h
    rw [star1 h.1]
    show (false || (backTo pos (starEach es env)).any (·.1)) = false
    rw [stars h.2]; rfl
theorem folded1 {e : Expr} {env : PySem.Env} (h : notSet e = true) : ∀ x, foldedSetIterable e env x = pure x := fun x => by
  cases e <;> first | rfl | cases h
theorem base1 {o : Expr} {m : Str} {env : PySem.Env} {w : Sem Value} (h : notCall o = true) : attributeBase o m env w = w := by
  cases o <;> first | rfl | cases h
theorem plain1 {b : Expr} (h : notSlice b = true) : PlainIx b := fun o i => by
  cases b <;> first | rfl | cases h
/-- what the module holds of a def -/
structure Callee (Γ : Fns) (con : Nat → Option D) (X : Cx) (x : Str) (i np nd : Nat) : Prop where
  ex : ∃ (k : Nat) (f : Addr) (fd : FuncData) (ps : List Str) (fn : Fn) (Γ' : Fns) (F : Nat), Room k X.A ∧ X.mg x = some (.ref f) ∧ PySem.W.keepIn X.K (.ref f) = true ∧ Γ i = runFn Γ' con F fn ∧
    FnG X.prog X.w X.K X.mg X.base k f fd ps (spF X.K fn.np (runBody Γ' con F fn)) ∧ fn.np = np ∧ fn.defs.length = nd ∧
    ∀ m, m ≤ np → np ≤ m + nd → ∃ dvs dsv, Vals dvs dsv ∧ Binds X.K fd ps dsv ∧ ∀ as H, DReps X.K as H dvs (fn.defs.drop (m + fn.defs.length - fn.np))
structure CxOk (Γ : Fns) (con : Nat → Option D) (X : Cx) (c : TC) : Prop where
  nd : c.N.Nodup
  N : X.N = c.N
  nm : X.env.scope.names = c.nm
  kind : X.env.scope.kind = .function
  fn : ∀ x, (match c.fnl with | none => true | some l => match l.lookup x with | some .cell => true | _ => false) = true → X.fn x = true
  calm : X.calm = true
  gd : X.A.guards = some []
  un : X.A.units + 200 < cLine
  pass : PassesOwn (model X.prog X.w) X.A X.env X.xe
  blt : ∀ x ∈ bltNames, X.mg x = none
  cons : ∀ x i, c.G.lookup x = some (.con i) → ∃ u v d, X.mg x = some u ∧ RelV v u ∧ con i = some d ∧ ∀ as H, DRep X.K as H v d
  fns : ∀ x i np nd, c.G.lookup x = some (.fn i np nd) → (∀ ds st r, Γ i ds st ≠ .ok r) ∨ Callee Γ con X x i np nd
section
variable {Γ : Fns} {con : Nat → Option D} {X : Cx} {c : TC} {x : Str} {a b : Expr} {ca cb cc : CE} {pos : Pos}
theorem CxOk.vis (ok : CxOk Γ con X c) (h : c.vis x = true) : Vis X.env.scope x := by
  unfold TC.vis at h
  unfold Vis
  rw [ok.nm]
  split at h <;> first | exact .inl (by assumption) | exact .inr (.inl (by assumption)) | exact .inr (.inr (by assumption)) | cases h
theorem CxOk.loc (ok : CxOk Γ con X c) (h : c.loc x = true) : L2.Loc X.env.scope x ∧ (X.fn x = true ∨ X.env.scope.names.lookup x = some .local) := by
  unfold TC.loc at h
  unfold L2.Loc
  rw [ok.nm]
  split at h
  · rename_i e; exact ⟨.inl e, .inr e⟩
  · rename_i e; exact ⟨.inr e, .inl (ok.fn x h)⟩
  · cases h
theorem CxOk.glb (ok : CxOk Γ con X c) (h : c.glb x = true) : Gl X x ∧ okN x = true := by
  unfold TC.glb at h
  split at h
  · rename_i e; exact ⟨by unfold Gl Env.kindOf; rw [ok.nm]; exact e, h⟩
  · cases h
theorem lookup_dum (ok : CxOk Γ con X c) {sc : Scope} {own : List (Str × Nat)} (h : blkC c.N (dumSc c) sc own = true) : BlkOk X.N X.env.scope sc own := by
  have q := blkOk_by h
  rw [ok.N]
  exact ⟨q.kind, q.uniq, q.ix, fun y hy e => by rw [ok.nm]; exact q.free y hy e, q.own⟩
theorem CxOk.inner (ok : CxOk Γ con X c) {sc : Scope} (hk : sc.kind = .function) (s : Shared) (H : Hp) (C : Addr) (cl : List (Str × Addr)) (fp : List Addr) : CxOk Γ con (X.blk s H sc (compEnvC sc cl C X.env) fp) (c.inner sc) where
  nd := ok.nd
  N := ok.N
  nm := by
    show (relabel sc X.env).names = relNm c sc.names
    unfold relabel relNm Env.kindOf
    simp only [ok.nm, ok.kind]
  kind := hk
  fn := fun x h => by
    show (sc.names.lookup x == some .cell) = true
    have h' : (match sc.names.lookup x with | some .cell => true | _ => false) = true := h
    split at h'
    · rename_i e; rw [e]; rfl
    · cases h'
  calm := ok.calm
  gd := ok.gd
  un := ok.un
  pass := PassesOwn.never
  blt := ok.blt
  cons := ok.cons
  fns := fun y i np nd h => (ok.fns y i np nd h).imp id fun ⟨z⟩ => ⟨z⟩
theorem pdt_ite (hc : PT X x' (tTest' X.K Γ con cc)) (ha : PT X a (tTest' X.K Γ con ca)) (hb : PT X b (tTest' X.K Γ con cb)) : PT X (.IfExp x' a b pos) (tTest' X.K Γ con (.ite cc ca cb)) := by
  refine ⟨fun pins s σ H Q I ⟨as, env, st, d, st', er, sr, e, q⟩ => ?_⟩
  simp only [evE] at e
  obtain ⟨⟨y, st1⟩, e1, e⟩ := Res.bind_ok e
  obtain ⟨r, e2, e⟩ := Res.bind_ok e
  cases asBool_ok e2
  show wpAny _ _ (isTrue x' X.env (eval x' X.env) >>= fun r => if r = true then isTrue a X.env (eval a X.env) else isTrue b X.env (eval b X.env)) _ _ _
  refine wpAny_bind (thn (hc.run pins s σ H (fun b' H1 => b' = r ∧ ∃ as1, Step as as1 H H1 ∧ SRel X.K as1 st1 H1) I ⟨as, env, st, r, st1, er, sr, e1, fun H1 as1 s1 sr1 => ⟨rfl, as1, s1, sr1⟩⟩) fun d1 s1 ⟨H1, I1, ed, as1, st2, sr1⟩ => ?_)
  subst ed
  cases d1 with
  | true => exact ha.run pins s1 σ H1 Q I1 ⟨as1, env, st1, d, st', er.step st2, sr1, e, fun H2 as2 s3 sr2 => q H2 as2 (st2.trans s3) sr2⟩
  | false => exact hb.run pins s1 σ H1 Q I1 ⟨as1, env, st1, d, st', er.step st2, sr1, e, fun H2 as2 s3 sr2 => q H2 as2 (st2.trans s3) sr2⟩
variable (Γ con X) in
/-- expressions by their codes -/
inductive PEl : List Expr → List CE → Prop
  | nil : PEl [] []
  | cons {e : Expr} {ce : CE} {es : List Expr} {cs : List CE} : PE X e (tE X.K Γ con ce) → PEl es cs → PEl (e :: es) (ce :: cs)
variable (Γ con X) in
inductive PTl : List Expr → List CE → Prop
  | nil : PTl [] []
  | cons {e : Expr} {ce : CE} {es : List Expr} {cs : List CE} : PT X e (tTest' X.K Γ con ce) → PTl es cs → PTl (e :: es) (ce :: cs)
theorem PEl.pa : ∀ {es : List Expr} {cs : List CE}, PEl Γ con X es cs → es.all notStar = true → PA X es (tAs X.K Γ con cs) := by
  intro es cs h
  induction h with
  | nil => intro _; exact pda_nil
  | cons h _ ih =>
    intro q
    simp only [List.all_cons, Bool.and_eq_true] at q
    exact pda_cons h (ih q.2) (star1 q.1)
theorem PEl.and : ∀ {es : List Expr} {cs : List CE} {e : Expr} {ce : CE}, PE X e (tE X.K Γ con ce) → PEl Γ con X es cs → PE X (.BoolOp .And (e :: es) pos) (tE X.K Γ con (.and (ce :: cs))) := by
  intro es cs e ce h r
  induction r generalizing e ce with
  | nil => exact pd_and1 h
  | cons h' _ ih => exact pd_and h (ih h')
theorem PEl.or : ∀ {es : List Expr} {cs : List CE} {e : Expr} {ce : CE}, PE X e (tE X.K Γ con ce) → PEl Γ con X es cs → PE X (.BoolOp .Or (e :: es) pos) (tE X.K Γ con (.or (ce :: cs))) := by
  intro es cs e ce h r
  induction r generalizing e ce with
  | nil => exact pd_or1 h
  | cons h' _ ih => exact pd_or h (ih h')
theorem PTl.and : ∀ {es : List Expr} {cs : List CE} {e : Expr} {ce : CE}, PT X e (tTest' X.K Γ con ce) → PTl Γ con X es cs → PW X (.BoolOp .And (e :: es) pos) (tTest' X.K Γ con (.and (ce :: cs))) := by
  intro es cs e ce h r
  induction r generalizing e ce with
  | nil => exact pdw_and1 h
  | cons h' _ ih => exact pdw_and h (ih h')
theorem PTl.or : ∀ {es : List Expr} {cs : List CE} {e : Expr} {ce : CE}, PT X e (tTest' X.K Γ con ce) → PTl Γ con X es cs → PW X (.BoolOp .Or (e :: es) pos) (tTest' X.K Γ con (.or (ce :: cs))) := by
  intro es cs e ce h r
  induction r generalizing e ce with
  | nil => exact pdw_or1 h
  | cons h' _ ih => exact pdw_or h (ih h')
theorem pd_frzIf {z : Bool} (h : PE X a (tE X.K Γ con ca)) : PE X a (tE X.K Γ con (frzIf z ca)) := by
  cases z with
  | true => exact pd_frz h
  | false => exact h
theorem trG_ok : ∀ (n : Nat), (∀ (e : Expr) (t : Tg), trG n c e = some t → CxOk Γ con X c → PG X e (tG X.K t)) ∧
    (∀ (es : List Expr) (ts : List Tg), trGs n c es = some ts → CxOk Γ con X c → PGs X es (tGs X.K ts) ∧ (assignEach es X.env).length = ts.length ∧ (assignEach es X.env).findIdx? (·.1) = none)
  | 0 => by
    refine ⟨fun e t h => ?_, fun e t h => ?_⟩ <;> cases h
  | n + 1 => by
    obtain ⟨ih1, ih2⟩ := trG_ok n
    refine ⟨fun e t h ok => ?_, fun es ts h ok => ?_⟩
    · cases e with
      | Name x p =>
        obtain ⟨h1, h⟩ := oi (show (if c.loc x then (slotAt c.N x).map Tg.name else none) = some t from h)
        obtain ⟨i, h2, rfl⟩ := om h
        obtain ⟨l1, l2⟩ := ok.loc h1
        exact pdg_name (by rw [ok.N]; exact ok.nd) (by rw [ok.N]; exact slotAt_ok h2) l1 l2
      | Tuple es k p =>
        obtain ⟨ts, h1, rfl⟩ := om (show (trGs n c es).map Tg.tup = some t from h)
        obtain ⟨g1, g2, g3⟩ := ih2 es ts h1 ok
        exact pdg_tup ok.calm g1 g2 rfl g3
      | _ => cases h
    · cases es with
      | nil =>
        have h' : some ([] : List Tg) = some ts := h
        cases h'
        exact ⟨pdg_nil, rfl, rfl⟩
      | cons e r =>
        obtain ⟨h1, h⟩ := oi (show (if notStar e then (trG n c e).bind fun t => (trGs n c r).map (t :: ·) else none) = some ts from h)
        obtain ⟨t, h2, h⟩ := ob h
        obtain ⟨ts', h3, rfl⟩ := om h
        obtain ⟨g1, g2, g3⟩ := ih2 r ts' h3 ok
        have ha : assignEach (e :: r) X.env = (false, assign e X.env) :: assignEach r X.env := by cases e <;> first | rfl | cases h1
        refine ⟨pdg_cons (ih1 e t h2 ok) g1 (by rw [ha]; rfl), by rw [ha]; simp [g2], by rw [ha, List.findIdx?_cons]; simp [g3]⟩
end
end En

set_option Elab.async false
set_option linter.all false
set_option maxRecDepth 100000
set_option maxHeartbeats 4000000
namespace En
open PySem PySem.Spec PyProof.Rows L2
section
variable {Γ : Fns} {con : Nat → Option D} {X : Cx} {c : TC} {x : Str} {a b : Expr} {ca cb cc : CE} {pos : Pos}
theorem ite1 {α : Type} {p : Prop} [Decidable p] {b r : α} {o : Option α} (h : (if p then some b else o) = some r) : (p ∧ b = r) ∨ o = some r := by
  by_cases q : p
  · rw [if_pos q] at h; exact .inl ⟨q, Option.some.inj h⟩
  · rw [if_neg q] at h; exact .inr h
theorem ite2 {α : Type} {p : Prop} [Decidable p] {o o' : Option α} {r : α} (h : (if p then o else o') = some r) : (p ∧ o = some r) ∨ (¬ p ∧ o' = some r) := by
  by_cases q : p
  · rw [if_pos q] at h; exact .inl ⟨q, h⟩
  · rw [if_neg q] at h; exact .inr ⟨q, h⟩
theorem pd_bis (ok : CxOk Γ con X c) {bb : B} {es : List Expr} {cs : List CE} {p : Pos} {n : Nat} (h : biOf x n = some bb) (hg : Gl X x) (hA : PA X (a :: es) (tAs X.K Γ con cs)) (hs : (a :: es).all notStar = true) :
    PE X (.Call (.Name x p) (a :: es) [] pos) (tE X.K Γ con (.bi bb cs)) := by
  have hs' := hs
  simp only [List.all_cons, Bool.and_eq_true] at hs'
  have s1 : starEach (a :: es) X.env = (false, eval a X.env) :: starEach es X.env := star1 hs'.1
  have s2 : (backTo pos (starEach es X.env)).any (·.1) = false := stars hs'.2
  have un := ok.un
  unfold biOf at h
  rcases ite2 h with ⟨_, h⟩ | ⟨_, h⟩
  · rcases ite1 h with ⟨hx, rfl⟩ | h
    · subst x; exact pd_bi c_len hg (ok.blt _ (by decide +kernel)) (by decide +kernel) hA (by decide +kernel) (by decide +kernel) s1 s2
    · rcases ite1 h with ⟨hx, rfl⟩ | h
      · subst x; exact pd_bi c_abs hg (ok.blt _ (by decide +kernel)) (by decide +kernel) hA (by decide +kernel) (by decide +kernel) s1 s2
      · rcases ite1 h with ⟨hx, rfl⟩ | h
        · subst x; exact pd_biTy c_int hg (ok.blt _ (by decide +kernel)) (by decide +kernel) hA (by decide +kernel) (by decide +kernel) s1 s2
        · rcases ite1 h with ⟨hx, rfl⟩ | h
          · subst x; exact pd_biTy c_tuple hg (ok.blt _ (by decide +kernel)) (by decide +kernel) hA (by decide +kernel) (by decide +kernel) s1 s2
          · rcases ite1 h with ⟨hx, rfl⟩ | h
            · subst x; exact pd_biTy c_list hg (ok.blt _ (by decide +kernel)) (by decide +kernel) hA (by decide +kernel) (by decide +kernel) s1 s2
            · rcases ite1 h with ⟨hx, rfl⟩ | h
              · subst x; exact pd_bi (c_all ok.calm) hg (ok.blt _ (by decide +kernel)) (by decide +kernel) hA (by decide +kernel) (by decide +kernel) s1 s2
              · rcases ite1 h with ⟨hx, rfl⟩ | h
                · subst x; exact pd_bi (c_any ok.calm) hg (ok.blt _ (by decide +kernel)) (by decide +kernel) hA (by decide +kernel) (by decide +kernel) s1 s2
                · rcases ite1 h with ⟨hx, rfl⟩ | h
                  · subst x; exact pd_bi (c_sum ok.calm) hg (ok.blt _ (by decide +kernel)) (by decide +kernel) hA (by decide +kernel) (by decide +kernel) s1 s2
                  · rcases ite1 h with ⟨hx, rfl⟩ | h
                    · subst x; exact pd_bi (c_max1 ok.calm) hg (ok.blt _ (by decide +kernel)) (by decide +kernel) hA (by decide +kernel) (by decide +kernel) s1 s2
                    · rcases ite1 h with ⟨hx, rfl⟩ | h
                      · subst x; exact pd_bi (c_min1 ok.calm) hg (ok.blt _ (by decide +kernel)) (by decide +kernel) hA (by decide +kernel) (by decide +kernel) s1 s2
                      · rcases ite1 h with ⟨hx, rfl⟩ | h
                        · subst x; exact pd_bi (c_sorted ok.calm) hg (ok.blt _ (by decide +kernel)) (by decide +kernel) hA (by decide +kernel) (by decide +kernel) s1 s2
                        · rcases ite1 h with ⟨hx, rfl⟩ | h
                          · subst x; exact pd_bi (c_repr ok.gd (by omega)) hg (ok.blt _ (by decide +kernel)) (by decide +kernel) hA (by decide +kernel) (by decide +kernel) s1 s2
                          · rcases ite1 h with ⟨hx, rfl⟩ | h
                            · subst x; exact pd_biTy (c_dict ok.calm) hg (ok.blt _ (by decide +kernel)) (by decide +kernel) hA (by decide +kernel) (by decide +kernel) s1 s2
                            · cases h
  · rcases ite2 h with ⟨_, h⟩ | ⟨_, h⟩
    · rcases ite1 h with ⟨hx, rfl⟩ | h
      · subst x; exact pd_bi (c_max2 ok.calm) hg (ok.blt _ (by decide +kernel)) (by decide +kernel) hA (by decide +kernel) (by decide +kernel) s1 s2
      · rcases ite1 h with ⟨hx, rfl⟩ | h
        · subst x; exact pd_bi (c_min2 ok.calm) hg (ok.blt _ (by decide +kernel)) (by decide +kernel) hA (by decide +kernel) (by decide +kernel) s1 s2
        · cases h
    · cases h
theorem pd_isis (ok : CxOk Γ con X c) {bb : B} {t : Str} {p pt : Pos} (h : isiOf t = some bb) (hg : Gl X "isinstance") (hgt : Gl X t) (ha : PE X a (tE X.K Γ con ca)) (hs : notStar a = true) :
    PE X (.Call (.Name "isinstance" p) [a, .Name t pt] [] pos) (tE X.K Γ con (.bi bb [ca])) := by
  have s1 : starEach [a, .Name t pt] X.env = (false, eval a X.env) :: starEach [.Name t pt] X.env := star1 hs
  have mi : X.mg "isinstance" = none := ok.blt _ (by decide +kernel)
  unfold isiOf at h
  rcases ite1 h with ⟨hx, rfl⟩ | h
  · subst t; exact pd_isi rfl hg mi hgt (ok.blt _ (by decide +kernel)) (by decide +kernel) (by decide +kernel) (by decide +kernel) ha s1
  · rcases ite1 h with ⟨hx, rfl⟩ | h
    · subst t; exact pd_isi rfl hg mi hgt (ok.blt _ (by decide +kernel)) (by decide +kernel) (by decide +kernel) (by decide +kernel) ha s1
    · rcases ite1 h with ⟨hx, rfl⟩ | h
      · subst t; exact pd_isi rfl hg mi hgt (ok.blt _ (by decide +kernel)) (by decide +kernel) (by decide +kernel) (by decide +kernel) ha s1
      · rcases ite1 h with ⟨hx, rfl⟩ | h
        · subst t; exact pd_isi rfl hg mi hgt (ok.blt _ (by decide +kernel)) (by decide +kernel) (by decide +kernel) (by decide +kernel) ha s1
        · rcases ite1 h with ⟨hx, rfl⟩ | h
          · subst t; exact pd_isi rfl hg mi hgt (ok.blt _ (by decide +kernel)) (by decide +kernel) (by decide +kernel) (by decide +kernel) ha s1
          · cases h
theorem pd_calls (ok : CxOk Γ con X c) {i np nd : Nat} {es : List Expr} {cs : List CE} {p : Pos} (hl : c.G.lookup x = some (.fn i np nd)) (hg : Gl X x) (hn : okN x = true) (he : PEl Γ con X es cs) (hs : es.all notStar = true) (h1 : es.length ≤ np) (h2 : np ≤ es.length + nd) :
    PE X (.Call (.Name x p) es [] pos) (tE X.K Γ con (.call i cs)) := by
  have hlen : cs.length = es.length := by
    clear hs h1 h2
    induction he with
    | nil => rfl
    | cons _ _ ih => simp [ih]
  rcases ok.fns x i np nd hl with no | ⟨k, f, fd, ps, fn, Γ', F, hr, hm, hk, hΓ, G, e1, e2, hd⟩
  · refine ⟨fun pins s σ H Q I ⟨as, env, st, d, st', er, sr, e, q⟩ => ?_⟩
    simp only [evE] at e
    obtain ⟨⟨ds, st1⟩, _, e⟩ := Res.bind_ok e
    exact absurd e (no _ _ _)
  · obtain ⟨dvs, dsv, v1, v2, v3⟩ := hd es.length h1 h2
    refine pd_call G hΓ ok.gd hr hg hm hk v2 v1 (fun as H => by rw [hlen]; exact v3 as H) (he.pa hs) (okN_d hn) (fun e => ?_) fun e es' ee => ?_
    · subst e; cases he; rfl
    · subst ee
      simp only [List.all_cons, Bool.and_eq_true] at hs
      exact ⟨star1 hs.1, stars hs.2⟩
/-- range(..) by its arguments -/
theorem PEl.one {es : List Expr} (h : PEl Γ con X es [ca]) : ∃ a, es = [a] ∧ PE X a (tE X.K Γ con ca) := by
  cases h with
  | cons h r => cases r; exact ⟨_, rfl, h⟩
theorem PEl.two {es : List Expr} (h : PEl Γ con X es [ca, cb]) : ∃ a b, es = [a, b] ∧ PE X a (tE X.K Γ con ca) ∧ PE X b (tE X.K Γ con cb) := by
  cases h with
  | cons h r => cases r with | cons h' r => cases r; exact ⟨_, _, rfl, h, h'⟩
theorem pd_methods (ok : CxOk Γ con X c) {o : Expr} {co : CE} {m : Str} {apos : Pos} {es : List Expr} {ce : CE} (hoc : notCall o = true) (hs : es.all notStar = true) (hl : (apos.endLine == pos.line) = true) (ho : PE X o (tE X.K Γ con co))
    (tr : Expr → Option CE) (htr : ∀ e d, e ∈ es → tr e = some d → PE X e (tE X.K Γ con d))
    (h : metC tr c.M co m es = some ce) : PE X (.Call (.Attribute o m apos) es [] pos) (tE X.K Γ con ce) := by
  have un := ok.un
  unfold metC at h
  rcases es with _ | ⟨a, _ | ⟨b, _ | ⟨d, es⟩⟩⟩
  · rcases ite2 h with ⟨_, h⟩ | ⟨_, h⟩
    · cases h
    · rcases ite2 h with ⟨_, h⟩ | ⟨_, h⟩
      · cases h
      · rcases ite2 h with ⟨hm, h⟩ | ⟨_, h⟩
        · subst m; cases h; exact pd_pop ho (base1 hoc) hl
        · obtain ⟨_, h⟩ := oi h; cases h
  · simp only [List.all_cons, Bool.and_eq_true] at hs
    have s1 : starEach [a] X.env = (false, eval a X.env) :: starEach [] X.env := star1 hs.1
    rcases ite2 h with ⟨hm, h⟩ | ⟨_, h⟩
    · subst m
      obtain ⟨ca, h1, rfl⟩ := om h
      exact pd_append ho (pd_frzIf (htr a ca (by simp) h1)) (base1 hoc) hl s1
    · rcases ite2 h with ⟨hm, h⟩ | ⟨_, h⟩
      · subst m
        obtain ⟨ca, h1, rfl⟩ := om h
        exact pd_extend ho (htr a ca (by simp) h1) (base1 hoc) hl s1
      · rcases ite2 h with ⟨hm, h⟩ | ⟨_, h⟩
        · subst m
          obtain ⟨ca, h1, rfl⟩ := om h
          exact pd_popAt ho (htr a ca (by simp) h1) (base1 hoc) hl s1
        · obtain ⟨hm, h⟩ := oi h
          subst m
          obtain ⟨ca, h1, rfl⟩ := om h
          exact pd_dget1 (by omega) ho (htr a ca (by simp) h1) ⟨base1 hoc, by rw [s1]; rfl, hl, by rw [s1]; rfl⟩
  · simp only [List.all_cons, Bool.and_eq_true] at hs
    have s1 : starEach [a, b] X.env = (false, eval a X.env) :: starEach [b] X.env := star1 hs.1
    have s2 : starEach [b] X.env = (false, eval b X.env) :: starEach [] X.env := star1 hs.2.1
    rcases ite2 h with ⟨_, h⟩ | ⟨_, h⟩
    · cases h
    · rcases ite2 h with ⟨_, h⟩ | ⟨_, h⟩
      · cases h
      · rcases ite2 h with ⟨_, h⟩ | ⟨_, h⟩
        · cases h
        · obtain ⟨hm, h⟩ := oi h
          subst m
          obtain ⟨ca, h1, h⟩ := ob h
          obtain ⟨cb, h2, rfl⟩ := om h
          exact pd_dget2 (by omega) ho (htr a ca (by simp) h1) (htr b cb (by simp) h2) ⟨base1 hoc, by rw [s1, s2]; rfl, hl, by rw [s1, s2]; rfl⟩
  · rcases ite2 h with ⟨_, h⟩ | ⟨_, h⟩
    · cases h
    · rcases ite2 h with ⟨_, h⟩ | ⟨_, h⟩
      · cases h
      · rcases ite2 h with ⟨_, h⟩ | ⟨_, h⟩
        · cases h
        · obtain ⟨_, h⟩ := oi h; cases h
end
end En

set_option Elab.async false
set_option linter.all false
set_option maxRecDepth 100000
set_option maxHeartbeats 4000000
namespace En
open PySem PySem.Spec PyProof.Rows L2
section
variable {Γ : Fns} {con : Nat → Option D}
variable (Γ con) in
structure TrOk (n : Nat) : Prop where
  E : ∀ {c : TC} {X : Cx} {e : Expr} {ce : CE}, trE n c e = some ce → CxOk Γ con X c → PE X e (tE X.K Γ con ce) ∧ PT X e (tTest' X.K Γ con ce)
  Es : ∀ {c : TC} {X : Cx} {z : Bool} {es : List Expr} {cs : List CE}, trEs n c z es = some cs → CxOk Γ con X c → PEl Γ con X es cs ∧ (z = false → PTl Γ con X es cs)
  O : ∀ {c : TC} {X : Cx} {o : Option Expr} {co : Option CE}, trO n c o = some co → CxOk Γ con X c → PO X o (tOs X.K Γ con co)
  I : ∀ {c : TC} {X : Cx} {tg e : Expr} {ci : CI}, trI n c tg e = some ci → CxOk Γ con X c → PI X tg e (tI X.K Γ con ci) ∧ ∀ x, foldedSetIterable e X.env x = pure x
  L : ∀ {c : TC} {X : Cx} {elt tg : Expr} {ifs : List Expr} {sc : Scope} {t : Tg} {test : Option CE} {ce : CE} {own : List (Str × Nat)}, trL n c elt tg ifs sc = some (t, test, ce, own) → CxOk Γ con X c →
    LcOk X Γ con tg ifs sc own t test ∧ (∀ (s : Shared) (H : Hp) (C : Addr) (cl : List (Str × Addr)) (fp : List Addr), PE (X.blk s H sc (compEnvC sc cl C X.env) fp) elt (tE X.K Γ con ce)) ∧ sc.kind = .function
  T : ∀ {c : TC} {X : Cx} {es : List Expr} {o : Option CE}, trT1 n c es = some o → CxOk Γ con X c → PTs X es (tTo X.K Γ con o)
theorem trOk0 : TrOk Γ con 0 := by
  constructor <;> intros <;> rename_i h _ <;> cases h
section
variable {n : Nat} {c : TC} {X : Cx}
theorem trEs_s (ih : TrOk Γ con n) {z : Bool} {es : List Expr} {cs : List CE} (h : trEs (n + 1) c z es = some cs) (ok : CxOk Γ con X c) : PEl Γ con X es cs ∧ (z = false → PTl Γ con X es cs) := by
  cases es with
  | nil =>
    have h' : some ([] : List CE) = some cs := h
    cases h'
    exact ⟨.nil, fun _ => .nil⟩
  | cons e r =>
    obtain ⟨ce, h1, h⟩ := ob (show ((trE n c e).bind fun ce => (trEs n c z r).map fun cs => frzIf (z && isName c.M e) ce :: cs) = some cs from h)
    obtain ⟨cs', h2, rfl⟩ := om h
    obtain ⟨e1, e2⟩ := ih.E h1 ok
    obtain ⟨r1, r2⟩ := ih.Es h2 ok
    exact ⟨.cons (pd_frzIf e1) r1, fun hz => by subst hz; exact .cons e2 (r2 rfl)⟩
theorem trO_s (ih : TrOk Γ con n) {o : Option Expr} {co : Option CE} (h : trO (n + 1) c o = some co) (ok : CxOk Γ con X c) : PO X o (tOs X.K Γ con co) := by
  cases o with
  | none =>
    have h' : some (none : Option CE) = some co := h
    cases h'
    exact po_data_none
  | some e =>
    obtain ⟨ce, h1, rfl⟩ := om (show (trE n c e).map some = some co from h)
    exact po_data_some (ih.E h1 ok).1
theorem trT_s (ih : TrOk Γ con n) {es : List Expr} {o : Option CE} (h : trT1 (n + 1) c es = some o) (ok : CxOk Γ con X c) : PTs X es (tTo X.K Γ con o) := by
  rcases es with _ | ⟨e, _ | ⟨e', r⟩⟩
  · have h' : some (none : Option CE) = some o := h
    cases h'
    exact pdts_none
  · obtain ⟨ce, h1, rfl⟩ := om (show (trE n c e).map some = some o from h)
    exact pdts_some (ih.E h1 ok).2
  · cases h
theorem trL_s (ih : TrOk Γ con n) {elt tg : Expr} {ifs : List Expr} {sc : Scope} {t : Tg} {test : Option CE} {ce : CE} {own : List (Str × Nat)} (h : trL (n + 1) c elt tg ifs sc = some (t, test, ce, own)) (ok : CxOk Γ con X c) :
    LcOk X Γ con tg ifs sc own t test ∧ (∀ (s : Shared) (H : Hp) (C : Addr) (cl : List (Str × Addr)) (fp : List Addr), PE (X.blk s H sc (compEnvC sc cl C X.env) fp) elt (tE X.K Γ con ce)) ∧ sc.kind = .function := by
  obtain ⟨hb, h⟩ := oi (show (if L2.blkC c.N (dumSc c) sc (ownOf c.N sc.names) then (trG n (c.inner sc) tg).bind fun t =>
      if (slotsT t).all (fun i => ((ownOf c.N sc.names).map (·.2)).contains i) then (trT1 n (c.inner sc) ifs).bind fun test => (trE n (c.inner sc) elt).map fun ce => (t, test, frzIf (isName c.M elt) ce, ownOf c.N sc.names)
      else none else none) = some (t, test, ce, own) from h)
  obtain ⟨t', h1, h⟩ := ob h
  obtain ⟨hsub, h⟩ := oi h
  obtain ⟨test', h2, h⟩ := ob h
  obtain ⟨ce', h3, h⟩ := om h
  cases h
  have bk := lookup_dum ok hb
  have inn := fun s H C cl fp => ok.inner bk.kind s H C cl fp
  refine ⟨⟨ok.calm, by rw [ok.N]; exact ok.nd, bk, fun i hi => ?_, fun s H C cl fp => (trG_ok n).1 tg _ h1 (inn s H C cl fp), fun s H C cl fp => ih.T h2 (inn s H C cl fp)⟩, fun s H C cl fp => pd_frzIf (ih.E h3 (inn s H C cl fp)).1, bk.kind⟩
  have := List.all_eq_true.mp hsub i hi
  simpa using this
theorem trI_s (ih : TrOk Γ con n) {tg e : Expr} {ci : CI} (h : trI (n + 1) c tg e = some ci) (ok : CxOk Γ con X c) : PI X tg e (tI X.K Γ con ci) ∧ ∀ x, foldedSetIterable e X.env x = pure x := by
  obtain ⟨hs, h⟩ := oi (show (if notSet e then match e with
    | .Call (.Name f _) es [] _ =>
      if f = "range" then
        if c.glb f && es.all notStar then (trEs n c false es).bind fun cs => match cs with
          | [a] => some (CI.range1 a)
          | [a, b] => some (.range2 a b)
          | _ => none
        else none
      else if f = "zip" then
        if c.glb f && es.all notStar && !notTup tg then (trEs n c false es).bind fun cs => match cs with
          | [a, b] => some (.zip a b)
          | _ => none
        else none
      else if f = "enumerate" then
        if c.glb f && es.all notStar && !notTup tg then (trEs n c false es).bind fun cs => match cs with
          | [a] => some (.enum a)
          | _ => none
        else none
      else (trE n c e).map .seq
    | e => (trE n c e).map .seq
    else none) = some ci from h)
  refine ⟨?_, folded1 hs⟩
  have gen : (trE n c e).map CI.seq = some ci → PI X tg e (tI X.K Γ con ci) := fun h => by
    obtain ⟨ce, h1, rfl⟩ := om h
    exact pdi_seq (ih.E h1 ok).1
  cases e with
  | Call f es kws p =>
    cases f with
    | Name f pf =>
      cases kws with
      | nil =>
        rcases ite2 h with ⟨hf, h⟩ | ⟨_, h⟩
        · subst f
          obtain ⟨hg, h⟩ := oi h
          obtain ⟨cs, h1, h⟩ := ob h
          simp only [Bool.and_eq_true] at hg
          obtain ⟨g1, _⟩ := ok.glb hg.1
          have mg := ok.blt "range" (by decide +kernel)
          obtain ⟨pe, _⟩ := ih.Es h1 ok
          rcases cs with _ | ⟨a, _ | ⟨b, _ | ⟨d, r⟩⟩⟩
          · cases h
          · cases h
            obtain ⟨x, rfl, px⟩ := pe.one
            have hs := hg.2
            simp only [List.all_cons, Bool.and_eq_true] at hs
            exact pdi_range1 g1 mg px (by rw [star1 hs.1]; rfl)
          · cases h
            obtain ⟨x, y, rfl, px, py⟩ := pe.two
            have hs := hg.2
            simp only [List.all_cons, Bool.and_eq_true] at hs
            exact pdi_range2 g1 mg px py (by rw [star1 hs.1, star1 hs.2.1]; rfl) (by rw [star1 hs.2.1]; rfl)
          · cases h
        · rcases ite2 h with ⟨hf, h⟩ | ⟨_, h⟩
          · subst f
            obtain ⟨hg, h⟩ := oi h
            obtain ⟨cs, h1, h⟩ := ob h
            simp only [Bool.and_eq_true] at hg
            obtain ⟨g1, _⟩ := ok.glb hg.1.1
            have mg := ok.blt "zip" (by decide +kernel)
            obtain ⟨pe, _⟩ := ih.Es h1 ok
            rcases cs with _ | ⟨a, _ | ⟨b, _ | ⟨d, r⟩⟩⟩
            · cases h
            · cases h
            · cases h
              obtain ⟨x, y, rfl, px, py⟩ := pe.two
              have hs := hg.1.2
              have ht := hg.2
              simp only [List.all_cons, Bool.and_eq_true] at hs
              cases tg with
              | Tuple elts k p => exact pdi_zip g1 mg px py (star1 hs.1) (star1 hs.2.1)
              | _ => cases ht
            · cases h
          · rcases ite2 h with ⟨hf, h⟩ | ⟨_, h⟩
            · subst f
              obtain ⟨hg, h⟩ := oi h
              obtain ⟨cs, h1, h⟩ := ob h
              simp only [Bool.and_eq_true] at hg
              obtain ⟨g1, _⟩ := ok.glb hg.1.1
              have mg := ok.blt "enumerate" (by decide +kernel)
              obtain ⟨pe, _⟩ := ih.Es h1 ok
              rcases cs with _ | ⟨a, _ | ⟨b, r⟩⟩
              · cases h
              · cases h
                obtain ⟨x, rfl, px⟩ := pe.one
                have hs := hg.1.2
                have ht := hg.2
                simp only [List.all_cons, Bool.and_eq_true] at hs
                cases tg with
                | Tuple elts k p => exact pdi_enum g1 mg px (by rw [star1 hs.1]; rfl)
                | _ => cases ht
              · cases h
            · exact gen h
      | cons k ks => exact gen h
    | _ => exact gen h
  | _ => exact gen h
end
end
end En

set_option Elab.async false
set_option linter.all false
set_option maxRecDepth 100000
set_option maxHeartbeats 4000000
namespace En
open PySem PySem.Spec PyProof.Rows L2
section
variable {Γ : Fns} {con : Nat → Option D} {n : Nat} {c : TC} {X : Cx}
/-- an expression whose test is its value's truth -/
theorem both {e : Expr} {ce : CE} (h : PE X e (tE X.K Γ con ce)) (he : ∀ whole, isTrue e X.env whole = (do let v ← whole; standAt e.pos; holding [v] (truthy v))) : PE X e (tE X.K Γ con ce) ∧ PT X e (tTest' X.K Γ con ce) := ⟨h, pdt_val h he⟩
theorem trIt_ok {tg iter : Expr} {j : Nat} (h : trIt c tg iter = some j) : ∃ elts k tp x px m apos cpos, tg = .Tuple elts k tp ∧ iter = .Call (.Attribute (.Name x px) m apos) [] [] cpos ∧ m = "items" ∧ (apos.endLine == cpos.line) = true ∧ c.vis x = true ∧ okN x = true ∧ slotAt c.N x = some j := by
  unfold trIt at h
  split at h
  · obtain ⟨⟨h1, h2, h3, h4⟩, h⟩ := oi h
    exact ⟨_, _, _, _, _, _, _, _, rfl, rfl, h1, h2, h3, h4, h⟩
  · cases h
theorem trE_name (ok : CxOk Γ con X c) {x : Str} {p : Pos} {ce : CE} (h : (if okN x then
        if c.vis x then (slotAt c.N x).map CE.var
        else if c.glb x then match c.G.lookup x with
          | some (.con i) => some (.glob i)
          | _ => none
        else none
      else none) = some ce) : PE X (.Name x p) (tE X.K Γ con ce) := by
  obtain ⟨hn, h⟩ := oi h
  rcases ite2 h with ⟨hv, h⟩ | ⟨_, h⟩
  · obtain ⟨i, h1, rfl⟩ := om h
    exact pd_var (by rw [ok.N]; exact slotAt_ok h1) (ok.vis hv) (okN_d hn) (okN_c hn)
  · obtain ⟨hg, h⟩ := oi h
    split at h
    · rename_i i hl
      cases h
      obtain ⟨u, v, d, m1, m2, m3, m4⟩ := ok.cons x i hl
      exact pd_glob ⟨fun pins s σ H Q I h => ld_glob I (ok.glb hg).1 m1 ⟨v, H, I, m2, h⟩ (okN_d hn)⟩ m3 m4
    · cases h
theorem trE_call (ih : TrOk Γ con n) (ok : CxOk Γ con X c) {f : Str} {pf pos : Pos} {es : List Expr} {ce : CE} (h0 : (if c.glb f && es.all notStar then match c.G.lookup f with
        | some (.fn i np nd) => if es.length ≤ np ∧ np ≤ es.length + nd then (trEs n c false es).map (CE.call i) else none
        | some _ => none
        | none => match es with
          | [.Call (.Name g _) es2 [] _] =>
            if (f = "list" ∨ f = "tuple") ∧ g = "range" ∧ c.glb g = true then
              if es2.all notStar then (trEs n c false es2).bind fun cs => match cs with
                | [a] => some (.rng1 (decide (f = "tuple")) a)
                | [a, b] => some (.rng2 (decide (f = "tuple")) a b)
                | _ => none else none
            else (biOf f 1).bind fun b => (trEs n c false es).map (.bi b)
          | [a, .Name t _] => if f = "isinstance" ∧ c.glb t = true then (isiOf t).bind fun b => (trE n c a).map fun ca => .bi b [ca] else (biOf f 2).bind fun b => (trEs n c false es).map (.bi b)
          | es => (biOf f es.length).bind fun b => (trEs n c false es).map (.bi b)
      else none) = some ce) : PE X (.Call (.Name f pf) es [] pos) (tE X.K Γ con ce) := by
  obtain ⟨hh, h⟩ := oi h0
  clear h0
  simp only [Bool.and_eq_true] at hh
  obtain ⟨hg, hs⟩ := hh
  obtain ⟨g1, g2⟩ := ok.glb hg
  have bis : ∀ {m : Nat}, ((biOf f m).bind fun b => (trEs n c false es).map (CE.bi b)) = some ce → PE X (.Call (.Name f pf) es [] pos) (tE X.K Γ con ce) := fun {m} h => by
    obtain ⟨b, h1, h⟩ := ob h
    obtain ⟨cs, h2, rfl⟩ := om h
    obtain ⟨pe, _⟩ := ih.Es h2 ok
    cases pe with
    | nil =>
      refine ⟨fun pins s σ H Q I ⟨as, env, st, d, st', er, sr, e, q⟩ => ?_⟩
      simp only [evE, evEs, Res.bind, List.map] at e
      cases b <;> simp [bi] at e <;> cases e
    | cons p r => exact pd_bis ok h1 g1 ((PEl.cons p r).pa hs) hs
  cases hl : c.G.lookup f with
  | some g =>
    simp only [hl] at h
    cases g with
    | con i => cases h
    | fn i np nd =>
      obtain ⟨⟨l1, l2⟩, h⟩ := oi h
      obtain ⟨cs, h1, rfl⟩ := om h
      exact pd_calls ok hl g1 g2 (ih.Es h1 ok).1 hs l1 l2
  | none =>
    simp only [hl] at h
    split at h
    · rename_i g pg es2 p2
      rcases ite2 h with ⟨⟨hf, hgr, hgg⟩, h'⟩ | ⟨_, h⟩
      · clear h
        subst g
        obtain ⟨hs2, h⟩ := oi h'
        clear h'
        obtain ⟨cs, h1, h⟩ := ob h
        obtain ⟨pe, _⟩ := ih.Es h1 ok
        obtain ⟨r1, _⟩ := ok.glb hgg
        have mr := ok.blt "range" (by decide +kernel)
        have mf : ∀ t : Bool, X.mg (if t then "tuple" else "list") = none := fun t => by
          cases t
          · exact ok.blt _ (by decide +kernel)
          · exact ok.blt _ (by decide +kernel)
        have ef : f = (if decide (f = "tuple") then ("tuple" : Str) else ("list" : Str)) := by
          rcases hf with e | e
          · subst e; decide +kernel
          · subst e; decide +kernel
        have gf : Gl X (if decide (f = "tuple") then ("tuple" : Str) else ("list" : Str)) := by rw [← ef]; exact g1
        rcases cs with _ | ⟨a, _ | ⟨b, _ | ⟨d, r⟩⟩⟩
        · cases h
        · cases h
          obtain ⟨x, rfl, px⟩ := pe.one
          simp only [List.all_cons, Bool.and_eq_true] at hs2
          have := pd_rng1 (p := pf) (p2 := pg) (pos := pos) (pos2 := p2) (t := decide (f = "tuple")) ok.calm gf (mf _) r1 mr px (star1 hs2.1)
          rw [← ef] at this
          exact this
        · cases h
          obtain ⟨x, y, rfl, px, py⟩ := pe.two
          simp only [List.all_cons, Bool.and_eq_true] at hs2
          have := pd_rng2 (p := pf) (p2 := pg) (pos := pos) (pos2 := p2) (t := decide (f = "tuple")) ok.calm gf (mf _) r1 mr px py (star1 hs2.1) (star1 hs2.2.1)
          rw [← ef] at this
          exact this
        · cases h
      · exact bis h
    · rename_i a t pt
      rcases ite2 h with ⟨⟨hf, hgt⟩, h'⟩ | ⟨_, h⟩
      · subst f
        obtain ⟨b, h1, h'⟩ := ob h'
        obtain ⟨ca, h2, rfl⟩ := om h'
        simp only [List.all_cons, Bool.and_eq_true] at hs
        exact pd_isis ok h1 g1 (ok.glb hgt).1 (ih.E h2 ok).1 hs.1
      · exact bis h
    · exact bis h
theorem trE_sub (ih : TrOk Γ con n) (ok : CxOk Γ con X c) {a s : Expr} {pos : Pos} {ce : CE} (h : (match s with
      | .Slice none none (some (.UnaryOp .USub (.Constant (.int 1) _ _) _)) _ => (trE n c a).map CE.rev
      | .Slice lo hi none _ => (trE n c a).bind fun ca => (trO n c lo).bind fun cl => (trO n c hi).map fun ch => .slc ca cl ch
      | b => if notSlice b then (trE n c a).bind fun ca => (trE n c b).map fun cb => .idx ca cb else none) = some ce) : PE X (.Subscript a s pos) (tE X.K Γ con ce) := by
  have un := ok.un
  split at h
  · obtain ⟨ca, h1, rfl⟩ := om h
    exact pd_rev (ih.E h1 ok).1
  · obtain ⟨ca, h1, h⟩ := ob h
    obtain ⟨cl, h2, h⟩ := ob h
    obtain ⟨ch, h3, rfl⟩ := om h
    exact pd_slc (ih.E h1 ok).1 (ih.O h2 ok) (ih.O h3 ok)
  · obtain ⟨hs, h⟩ := oi h
    obtain ⟨ca, h1, h⟩ := ob h
    obtain ⟨cb, h2, rfl⟩ := om h
    exact pd_idx (by omega) (ih.E h1 ok).1 (ih.E h2 ok).1 (plain1 hs)
theorem trE_lc (ih : TrOk Γ con n) (ok : CxOk Γ con X c) {elt tg iter : Expr} {ifs : List Expr} {as : Int} {sc : Scope} {pos : Pos} {ce : CE} (h : (if as = 0 then match trIt c tg iter with
      | some j => (trL n c elt tg ifs sc).map fun (t, test, ce, own) => CE.comp t (.items (.var j)) test ce (own.map (·.2))
      | none => (trI n c tg iter).bind fun ci => (trL n c elt tg ifs sc).map fun (t, test, ce, own) => CE.comp t ci test ce (own.map (·.2)) else none) = some ce) : PE X (.ListComp elt [⟨tg, iter, ifs, as⟩] sc pos) (tE X.K Γ con ce) := by
  obtain ⟨rfl, h⟩ := oi h
  cases hi : trIt c tg iter with
  | some j =>
    simp only [hi] at h
    obtain ⟨⟨t, test, ce', own⟩, h1, rfl⟩ := om h
    obtain ⟨elts, k, tp, x, px, m, apos, cpos, rfl, rfl, rfl, i2, i3, i4, i5⟩ := trIt_ok hi
    obtain ⟨l1, l2, _⟩ := ih.L h1 ok
    exact pd_compItems l1 (pe_var (by rw [ok.N]; exact slotAt_ok i5) (ok.vis i3) (okN_d i4) (okN_c i4)) rfl i2 l2 fun _ => rfl
  | none =>
    simp only [hi] at h
    obtain ⟨ci, h1, h⟩ := ob h
    obtain ⟨⟨t, test, ce', own⟩, h2, rfl⟩ := om h
    obtain ⟨i1, i2⟩ := ih.I h1 ok
    obtain ⟨l1, l2, _⟩ := ih.L h2 ok
    exact pd_comp l1 i1 l2 i2
theorem trE_dc (ih : TrOk Γ con n) (ok : CxOk Γ con X c) {k v tg iter : Expr} {ifs : List Expr} {as : Int} {sc : Scope} {pos : Pos} {ce : CE} (h : (if as = 0 then (trI n c tg iter).bind fun ci => (trL n c k tg ifs sc).bind fun (t, test, ck, own) => (trE n (c.inner sc) v).map fun cv => CE.dcomp t ci test ck (frzIf (isName c.M v) cv) (own.map (·.2)) else none) = some ce) :
    PE X (.DictComp k v [⟨tg, iter, ifs, as⟩] sc pos) (tE X.K Γ con ce) := by
  obtain ⟨rfl, h⟩ := oi h
  obtain ⟨ci, h1, h⟩ := ob h
  obtain ⟨⟨t, test, ck, own⟩, h2, h⟩ := ob h
  obtain ⟨cv, h3, rfl⟩ := om h
  obtain ⟨i1, i2⟩ := ih.I h1 ok
  obtain ⟨l1, l2, l3⟩ := ih.L h2 ok
  exact pd_dcomp l1 i1 l2 (fun s H C cl fp => pd_frzIf (ih.E h3 (ok.inner l3 s H C cl fp)).1) i2
theorem trE_meth (ih : TrOk Γ con n) (ok : CxOk Γ con X c) {o : Expr} {m : Str} {apos p : Pos} {es : List Expr} {ce : CE} (h : (if notCall o && es.all notStar && (apos.endLine == p.line) then (trE n c o).bind fun co =>
        metC (trE n c) c.M co m es
      else none) = some ce) : PE X (.Call (.Attribute o m apos) es [] p) (tE X.K Γ con ce) := by
  obtain ⟨hh, h⟩ := oi h
  simp only [Bool.and_eq_true] at hh
  obtain ⟨co, h1, h⟩ := ob h
  exact pd_methods ok hh.1.1 hh.1.2 hh.2 (ih.E h1 ok).1 (trE n c) (fun e d _ q => (ih.E q ok).1) h
theorem trE_s (ih : TrOk Γ con n) {e : Expr} {ce : CE} (h : trE (n + 1) c e = some ce) (ok : CxOk Γ con X c) : PE X e (tE X.K Γ con ce) ∧ PT X e (tTest' X.K Γ con ce) := by
  have un := ok.un
  cases e with
  | Constant v k p =>
    cases v with
    | none =>
      have h' : some (CE.lit .non) = some ce := h
      cases h'
      exact both (pd_lit pe_non fun _ _ _ => .non) fun _ => rfl
    | bool b =>
      have h' : some (CE.lit (.bl b)) = some ce := h
      cases h'
      exact both (pd_lit pe_bl fun _ _ _ => .bl b) fun _ => rfl
    | int i =>
      have h' : some (CE.lit (.int i)) = some ce := h
      cases h'
      exact both (pd_lit pe_int fun _ _ _ => .int i) fun _ => rfl
    | str x =>
      have h' : some (CE.lit (.str x)) = some ce := h
      cases h'
      exact both (pd_lit pe_str fun _ _ _ => .str x) fun _ => rfl
    | _ => cases h
  | Name x p => exact both (trE_name ok h) fun _ => rfl
  | BinOp a op b p =>
    obtain ⟨o, h1, h⟩ := ob (show ((binOf op).bind fun o => (trE n c a).bind fun ca => (trE n c b).map fun cb => CE.bin o ca cb) = some ce from h)
    obtain ⟨ca, h2, h⟩ := ob h
    obtain ⟨cb, h3, rfl⟩ := om h
    obtain rfl := binOf_ok h1
    exact both (pd_bin (ih.E h2 ok).1 (ih.E h3 ok).1) fun _ => rfl
  | UnaryOp op a p =>
    cases op with
    | USub =>
      obtain ⟨ca, h1, rfl⟩ := om (show (trE n c a).map CE.neg = some ce from h)
      exact both (pd_neg (ih.E h1 ok).1) fun _ => rfl
    | Not =>
      obtain ⟨ca, h1, rfl⟩ := om (show (trE n c a).map CE.not = some ce from h)
      exact ⟨pd_not (ih.E h1 ok).1, pdt_not (ih.E h1 ok).2⟩
    | _ => cases h
  | Compare a ops bs p =>
    rcases ops with _ | ⟨op, _ | ⟨op', _ | ⟨op'', ops⟩⟩⟩
    · cases h
    · rcases bs with _ | ⟨b, _ | ⟨b', bs⟩⟩
      · cases h
      · rcases ite2 (show (if behindInMarks op b then none else (trE n c a).bind fun ca => (trE n c b).map fun cb => CE.cmp (cmpOf op) ca cb) = some ce from h) with ⟨_, h⟩ | ⟨hm, h⟩
        · cases h
        · obtain ⟨ca, h1, h⟩ := ob h
          obtain ⟨cb, h2, rfl⟩ := om h
          have hm' : behindInMarks (pyCmp (cmpOf op)) b = false := by rw [← cmpOf_ok]; simpa using hm
          have e1 := pd_cmp (pos := p) (op := cmpOf op) (by omega) (ih.E h1 ok).1 (ih.E h2 ok).1 hm'
          have e2 := pdt_cmp (pos := p) (op := cmpOf op) (by omega) (ih.E h1 ok).1 (ih.E h2 ok).1 hm'
          rw [← cmpOf_ok] at e1 e2
          exact ⟨e1, e2⟩
      · cases h
    · rcases bs with _ | ⟨b, _ | ⟨b', _ | ⟨b'', bs⟩⟩⟩
      · cases h
      · cases h
      · rcases ite2 (show (if lastMarks [op, op'] [b, b'] then none else (trE n c a).bind fun ca => (trE n c b).bind fun cb => (trE n c b').map fun cb' => CE.chain (cmpOf op) (cmpOf op') ca cb cb') = some ce from h) with ⟨_, h⟩ | ⟨hm, h⟩
        · cases h
        · obtain ⟨ca, h1, h⟩ := ob h
          obtain ⟨cb, h2, h⟩ := ob h
          obtain ⟨cb', h3, rfl⟩ := om h
          have hm' : lastMarks [pyCmp (cmpOf op), pyCmp (cmpOf op')] [b, b'] = false := by rw [← cmpOf_ok, ← cmpOf_ok]; simpa using hm
          have e1 := pd_chain (pos := p) (op := cmpOf op) (op' := cmpOf op') (by omega) (ih.E h1 ok).1 (ih.E h2 ok).1 (ih.E h3 ok).1 hm'
          have e2 := pdt_chain (pos := p) (op := cmpOf op) (op' := cmpOf op') (by omega) (ih.E h1 ok).1 (ih.E h2 ok).1 (ih.E h3 ok).1 hm'
          rw [← cmpOf_ok, ← cmpOf_ok] at e1 e2
          exact ⟨e1, e2⟩
      · cases h
    · cases h
  | BoolOp op es p =>
    cases es with
    | nil => cases op <;> cases h
    | cons a es =>
      cases op with
      | And =>
        obtain ⟨cs, h1, rfl⟩ := om (show (trEs n c false (a :: es)).map CE.and = some ce from h)
        obtain ⟨p1, p2⟩ := ih.Es h1 ok
        cases p1 with
        | cons q r =>
          cases p2 rfl with
          | cons q' r' => exact ⟨r.and q, (r'.and q').pt⟩
      | Or =>
        obtain ⟨cs, h1, rfl⟩ := om (show (trEs n c false (a :: es)).map CE.or = some ce from h)
        obtain ⟨p1, p2⟩ := ih.Es h1 ok
        cases p1 with
        | cons q r =>
          cases p2 rfl with
          | cons q' r' => exact ⟨r.or q, (r'.or q').pt⟩
  | IfExp t a b p =>
    obtain ⟨ct, h1, h⟩ := ob (show ((trE n c t).bind fun ct => (trE n c a).bind fun ca => (trE n c b).map fun cb => CE.ite ct ca cb) = some ce from h)
    obtain ⟨ca, h2, h⟩ := ob h
    obtain ⟨cb, h3, rfl⟩ := om h
    exact ⟨pd_ite (ih.E h1 ok).2 (ih.E h2 ok).1 (ih.E h3 ok).1, pdt_ite (ih.E h1 ok).2 (ih.E h2 ok).2 (ih.E h3 ok).2⟩
  | Tuple es k p =>
    obtain ⟨hs, h⟩ := oi (show (if es.all notStar then (trEs n c true es).map CE.tup else none) = some ce from h)
    obtain ⟨cs, h1, rfl⟩ := om h
    exact both (pd_tup ((ih.Es h1 ok).1.pa hs)) fun _ => rfl
  | List es p =>
    obtain ⟨hs, h⟩ := oi (show (if es.all notStar then (trEs n c true es).map CE.lst else none) = some ce from h)
    obtain ⟨cs, h1, rfl⟩ := om h
    exact both (pd_lst ((ih.Es h1 ok).1.pa hs)) fun _ => rfl
  | Dict ks vs p =>
    cases ks with
    | nil =>
      cases vs with
      | nil =>
        have h' : some CE.dnew = some ce := h
        cases h'
        exact both pd_dnew fun _ => rfl
      | cons _ _ => cases h
    | cons _ _ => cases h
  | Subscript a s p => exact both (trE_sub ih ok h) fun _ => rfl
  | Call f es kws p =>
    cases kws with
    | cons _ _ => cases f <;> cases h
    | nil =>
      cases f with
      | Name f pf => exact both (trE_call ih ok h) fun _ => rfl
      | Attribute o m apos =>
        exact both (trE_meth ih ok h) fun _ => rfl
      | _ => cases h
  | ListComp elt gs sc p =>
    rcases gs with _ | ⟨⟨tg, iter, ifs, as⟩, _ | ⟨g', gs⟩⟩
    · cases h
    · exact both (trE_lc ih ok h) fun _ => rfl
    · cases h
  | DictComp k v gs sc p =>
    rcases gs with _ | ⟨⟨tg, iter, ifs, as⟩, _ | ⟨g', gs⟩⟩
    · cases h
    · exact both (trE_dc ih ok h) fun _ => rfl
    · cases h
  | _ => cases h
theorem trOk : ∀ n, TrOk Γ con n
  | 0 => trOk0
  | n + 1 => ⟨trE_s (trOk n), trEs_s (trOk n), trO_s (trOk n), trI_s (trOk n), trL_s (trOk n), trT_s (trOk n)⟩
end
end En

set_option Elab.async false
set_option linter.all false
set_option maxRecDepth 100000
set_option maxHeartbeats 4000000
namespace En
open PySem PySem.Spec PyProof.Rows L2
/-- an expression whose list is to be changed -/
def trM (n : Nat) (c : TC) (e : Expr) : Option CE := match e with
  | .List es _ => if es.all notStar then (trEs n c true es).map .lstM else none
  | .Call (.Name f _) [a] [] _ => if f = "list" ∧ c.glb f = true ∧ notStar a = true ∧ notCall a = true then (trE n c a).map .copyM else trE n c e
  | .ListComp elt [⟨tg, iter, ifs, as⟩] sc _ => if as = 0 then (trI n c tg iter).bind fun ci => (trL n c elt tg ifs sc).map fun (t, test, ce, own) => .compM t ci test ce (own.map (·.2)) else none
  | e => trE n c e
def trMif (n : Nat) (c : TC) (m : Bool) (e : Expr) : Option CE := if m then trM n c e else trE n c e
def swB (c : TC) (x : Str) (px p : Pos) (sc : Scope) : Bool := c.isLocal x && (px.line == p.line) && !(sc.names.any fun (n, k) => n == x && (k == .local || k == .cell))
/-- name = value -/
def trSet (n : Nat) (c : TC) (x : Str) (px : Pos) (v : Expr) : Option CS := match slotAt c.N x with
  | none => none
  | some i => if c.loc x then match v with
    | .ListComp elt [⟨tg, iter, ifs, as⟩] sc p =>
      if as = 0 ∧ c.isLocal x = true then
        if swB c x px p sc then (trI n c tg iter).bind fun ci => (trL n c elt tg ifs sc).map fun (t, test, ce, own) => .asg (.name i) (if c.M.contains x then .compM t ci test ce (own.map (·.2)) else .comp t ci test ce (own.map (·.2)))
        else (trMif n c (c.M.contains x) v).map fun cv => .asg (.name i) cv
      else none
    | v => if notLc v then (trMif n c (c.M.contains x) v).map fun cv => .asg (.name i) cv else none
    else none
def parOk (c : TC) (ps : List (Str × Pos)) (vs : List Expr) : Bool := match ps with
  | [(x, px), (y, py)] => c.isLocal x && c.isLocal y && (py.line == px.line) && !(x == y) && vs.all notStar && !(vs.all (foldedForSure 8)) && !(vs.all (constantsAlone 8))
  | [(x, px), (y, py), (z, pz)] => c.isLocal x && c.isLocal y && c.isLocal z && (py.line == px.line) && (pz.line == px.line) && !(x == y) && !(x == z) && !(y == z) && vs.all notStar && !(vs.all (foldedForSure 8)) && !(vs.all (constantsAlone 8))
  | _ => false
/-- names = values -/
def trPar (n : Nat) (c : TC) (ts vs : List Expr) : Option CS := match ts, vs with
  | [.Name x px, .Name y py], [a, b] => if parOk c [(x, px), (y, py)] [a, b] then
      (slotAt c.N x).bind fun i => (slotAt c.N y).bind fun j => if i = j then none else (trMif n c (c.M.contains x) a).bind fun ca => (trMif n c (c.M.contains y) b).map fun cb => .par [i, j] [ca, cb]
      else none
  | [.Name x px, .Name y py, .Name z pz], [a, b, d] => if parOk c [(x, px), (y, py), (z, pz)] [a, b, d] then
      (slotAt c.N x).bind fun i => (slotAt c.N y).bind fun j => (slotAt c.N z).bind fun l => if i = j ∨ i = l ∨ j = l then none else
        (trMif n c (c.M.contains x) a).bind fun ca => (trMif n c (c.M.contains y) b).bind fun cb => (trMif n c (c.M.contains z) d).map fun cd => .par [i, j, l] [ca, cb, cd]
      else none
  | _, _ => none
def augOk : BOp → Bool
  | .add => true
  | .sub => true
  | .mul => true
  | .mod => true
  | _ => false
def lineOf : Stmt → Nat
  | .Assign _ _ p => p.line
  | .Expr _ p => p.line
  | .For _ _ _ _ p => p.line
  | .While _ _ _ p => p.line
  | .If _ _ _ p => p.line
  | .AugAssign _ _ _ p => p.line
  | _ => 0
def addFz (l : Nat) : List (Nat × Nat) → List CS → List CS
  | [], cs => cs
  | (k, i) :: r, cs => if k = l then .frzV i :: addFz l r cs else addFz l r cs
mutual
def trS : Nat → TC → Stmt → Option CS
  | 0, _, _ => none
  | n + 1, c, s => match s with
    | .Pass _ => some .pass
    | .Break _ => some .brk
    | .Continue _ => some .cont
    | .Raise _ _ _ => some .never
    | .Return none _ => some .retN
    | .Return (some e) _ => (trMif n c c.keep e).map .ret
    | .Expr e _ => if notLc e then (trE n c e).map .ex else none
    | .Assign [.Name x px] v _ => trSet n c x px v
    | .Assign [.Tuple ts kt pt] v _ => match v with
      | .Tuple vs _ _ =>
        if !(ts.length == 2 || ts.length == 3) || vs.length != ts.length || vs.all (foldedForSure 8) then (trG n c (.Tuple ts kt pt)).bind fun t => (trE n c v).map fun cv => .asg t cv
        else trPar n c ts vs
      | v => if notLc v then (trG n c (.Tuple ts kt pt)).bind fun t => (trE n c v).map fun cv => .asg t cv else none
    | .Assign [.Subscript o i _] v _ => if notSlice i && notLc v then (trE n c o).bind fun co => (trE n c i).bind fun ci => (trE n c v).map fun cv => .setix co ci (frzIf (isName c.M v) cv) else none
    | .AugAssign (.Name x _) op v _ => (binOf op).bind fun o => if augOk o && c.loc x then (slotAt c.N x).bind fun i => (trE n c v).map fun cv => .aug i o cv else none
    | .If t a b _ => (trE n c t).bind fun ct => (trSs n c a).bind fun ca => (trSs n c b).map fun cb => .ite ct ca cb
    | .For tg it body [] _ => (trG n c tg).bind fun t => (trI n c tg it).bind fun ci => (trSs n c body).map fun cb => .for_ t ci cb
    | .While t body [] _ => (trE n c t).bind fun ct => (trSs n c body).map fun cb => .while_ ct cb
    | _ => none
def trSs : Nat → TC → List Stmt → Option (List CS)
  | 0, _, _ => none
  | n + 1, c, ss => match ss with
    | [] => some []
    | s :: r => (trS n c s).bind fun cs => (trSs n c r).map fun cr => cs :: addFz (lineOf s) c.fz cr
end
section
variable {Γ : Fns} {con : Nat → Option D} {n : Nat} {c : TC} {X : Cx} {F : Nat} {pos : Pos}
theorem CxOk.isLocal {x : Str} (ok : CxOk Γ con X c) (h : c.isLocal x = true) : X.env.scope.names.lookup x = some .local := by
  unfold TC.isLocal at h
  rw [ok.nm]
  split at h
  · assumption
  · cases h
theorem CxOk.blockKind (ok : CxOk Γ con X c) : X.env.blockKind = .function := by
  unfold Env.blockKind
  rw [ok.kind]
  rfl
theorem trM_ok {e : Expr} {ce : CE} (h : trM n c e = some ce) (ok : CxOk Γ con X c) : PE X e (tE X.K Γ con ce) := by
  have gen : ∀ {e : Expr} {ce : CE}, trE n c e = some ce → PE X e (tE X.K Γ con ce) := fun h => ((trOk n).E h ok).1
  unfold trM at h
  split at h
  · obtain ⟨hs, h⟩ := oi h
    obtain ⟨cs, h1, rfl⟩ := om h
    exact pd_lstM (((trOk n).Es h1 ok).1.pa hs)
  · rcases ite2 h with ⟨⟨hf, hg, hs, _⟩, h⟩ | ⟨_, h⟩
    · obtain ⟨ca, h1, rfl⟩ := om h
      subst hf
      exact pd_copyM (ok.glb hg).1 (ok.blt _ (by decide +kernel)) (gen h1) (star1 hs)
    · exact gen h
  · obtain ⟨rfl, h⟩ := oi h
    obtain ⟨ci, h1, h⟩ := ob h
    obtain ⟨⟨t, test, ce', own⟩, h2, rfl⟩ := om h
    obtain ⟨i1, i2⟩ := (trOk n).I h1 ok
    obtain ⟨l1, l2, _⟩ := (trOk n).L h2 ok
    exact pd_compM l1 i1 l2 i2
  · exact gen h
theorem trMif_ok {m : Bool} {e : Expr} {ce : CE} (h : trMif n c m e = some ce) (ok : CxOk Γ con X c) : PE X e (tE X.K Γ con ce) := by
  unfold trMif at h
  rcases ite2 h with ⟨_, h⟩ | ⟨_, h⟩
  · exact trM_ok h ok
  · exact ((trOk n).E h ok).1
theorem swap_no {v : Expr} {t : Option Expr} {l : Nat} {env : PySem.Env} (h : notLc v = true) : swapsWith v t l env = pure false := by
  cases v <;> first | rfl | cases h
theorem swap_lc {elt : Expr} {gs : List Comprehension} {sc : Scope} {p px : Pos} {x : Str} {l : Nat} (ok : CxOk Γ con X c) (hl : c.isLocal x = true) : swapsWith (.ListComp elt gs sc p) (some (.Name x px)) l X.env = pure (swB c x px p sc) := by
  have e : swapsWith (.ListComp elt gs sc p) (some (.Name x px)) l X.env = pure (X.env.blockKind == .function && X.env.kindOf x == some .local && px.line == p.line && !(sc.names.any fun (n, k) => n == x && (k == .local || k == .cell))) := rfl
  rw [e, ok.blockKind]
  unfold Env.kindOf swB
  rw [ok.isLocal hl, hl]
  rfl
theorem trSet_ok {x : Str} {px : Pos} {v : Expr} {cs : CS} (h : trSet n c x px v = some cs) (ok : CxOk Γ con X c) : PS X (.Assign [.Name x px] v pos) (tS X.K Γ con F cs) := by
  unfold trSet at h
  cases hi : slotAt c.N x with
  | none => rw [hi] at h; cases h
  | some i =>
    simp only [hi] at h
    obtain ⟨hl, h⟩ := oi h
    obtain ⟨l1, l2⟩ := ok.loc hl
    have hN : X.N.Nodup := by rw [ok.N]; exact ok.nd
    have hx : X.N[i]? = some x := by rw [ok.N]; exact slotAt_ok hi
    split at h
    · obtain ⟨⟨rfl, hloc⟩, h⟩ := oi h
      rcases ite2 h with ⟨hb, h⟩ | ⟨hb, h⟩
      · obtain ⟨ci, h1, h⟩ := ob h
        obtain ⟨⟨t, test, ce', own⟩, h2, rfl⟩ := om h
        obtain ⟨i1, i2⟩ := (trOk n).I h1 ok
        obtain ⟨k1, k2, _⟩ := (trOk n).L h2 ok
        by_cases hm : c.M.contains x = true
        · simp only [hm, if_true]; exact pd_setLcM k1 i1 k2 i2 hx (ok.isLocal hloc) (by rw [swap_lc ok hloc, hb])
        · simp only [hm]; exact pd_setLc k1 i1 k2 i2 hx (ok.isLocal hloc) (by rw [swap_lc ok hloc, hb])
      · obtain ⟨cv, h1, rfl⟩ := om h
        exact pd_set hN hx l1 l2 (trMif_ok h1 ok) (by rw [swap_lc ok hloc]; simp [hb])
    · obtain ⟨hn, h⟩ := oi h
      obtain ⟨cv, h1, rfl⟩ := om h
      exact pd_set hN hx l1 l2 (trMif_ok h1 ok) (swap_no hn)
end
end En

set_option Elab.async false
set_option linter.all false
set_option maxRecDepth 100000
set_option maxHeartbeats 4000000
namespace En
open PySem PySem.Spec PyProof.Rows L2
section
variable {Γ : Fns} {con : Nat → Option D} {n : Nat} {c : TC} {X : Cx} {F : Nat} {pos : Pos}
theorem sw_none {ts vs : List Expr} {kt k2 : Nat} {pt pt2 : Pos} {env : PySem.Env} (h : (!(ts.length == 2 || ts.length == 3) || vs.length != ts.length || vs.all (foldedForSure 8)) = true) : swappedStores [.Tuple ts kt pt] (.Tuple vs k2 pt2) env = pure none := by
  unfold swappedStores
  simp only [Bool.or_eq_true] at h
  rcases h with (h | h) | h
  · simp [h]
  · simp [h]
  · by_cases h1 : (!(ts.length == 2 || ts.length == 3) || vs.length != ts.length || env.blockKind != .function) = true
    · simp only [h1]; rfl
    · simp only [h1, h]
      simp only [Bool.false_eq_true, if_false, if_true]
      split <;> (try split) <;> (try split) <;> rfl
theorem sw_other {ts : List Expr} {v : Expr} {kt : Nat} {pt : Pos} {env : PySem.Env} (h : notTup v = true) : swappedStores [.Tuple ts kt pt] v env = pure none := by
  cases v <;> first | rfl | cases h
def isStar : Expr → Bool
  | .Starred _ _ => true
  | _ => false
def nameIn (env : PySem.Env) (line : Nat) : Expr → Option Str
  | .Name id pos => if env.kindOf id == some .local && pos.line == line then some id else none
  | _ => none
theorem sw_gen {ts vs : List Expr} {kt k2 : Nat} {pt pt2 : Pos} {env : PySem.Env} {names : List Str} (h1 : (!(ts.length == 2 || ts.length == 3) || vs.length != ts.length || env.blockKind != .function) = false) (h2 : vs.any isStar = false)
    (hn : ts.filterMap (nameIn env ((ts.head?.map (·.pos.line)).getD 0)) = names) (h3 : (names.length != ts.length || names.eraseDups.length != names.length) = false) (h4 : vs.all (foldedForSure 8) = false) (h5 : vs.all (constantsAlone 8) = false) :
    swappedStores [.Tuple ts kt pt] (.Tuple vs k2 pt2) env = pure (some names) := by
  have e : swappedStores [.Tuple ts kt pt] (.Tuple vs k2 pt2) env = (if (!(ts.length == 2 || ts.length == 3) || vs.length != ts.length || env.blockKind != .function) = true then pure none else if vs.any isStar = true then pure none else
      if ((ts.filterMap (nameIn env ((ts.head?.map (·.pos.line)).getD 0))).length != ts.length || (ts.filterMap (nameIn env ((ts.head?.map (·.pos.line)).getD 0))).eraseDups.length != (ts.filterMap (nameIn env ((ts.head?.map (·.pos.line)).getD 0))).length) = true then pure none else
      if vs.all (foldedForSure 8) = true then pure none else if vs.all (constantsAlone 8) = true then (unsupported "assign.tuple-of-constant-expressions:order-of-the-stores" : Sem PUnit) >>= fun _ => pure (some (ts.filterMap (nameIn env ((ts.head?.map (·.pos.line)).getD 0)))) else pure (some (ts.filterMap (nameIn env ((ts.head?.map (·.pos.line)).getD 0))))) := by
    unfold swappedStores
    rfl
  rw [e, hn, h1, h2, h3, h4, h5]
  rfl
theorem not_star : ∀ {vs : List Expr}, vs.all notStar = true → vs.any isStar = false
  | [], _ => rfl
  | v :: vs, h => by
    simp only [List.all_cons, Bool.and_eq_true] at h
    rw [List.any_cons, not_star h.2]
    cases v <;> first | rfl | cases h.1
theorem sw2 {x y : Str} {px py pt pt2 : Pos} {kt k2 : Nat} {a b : Expr} {env : PySem.Env} (hb : env.blockKind = .function) (hx : env.kindOf x = some .local) (hy : env.kindOf y = some .local) (hl : (py.line == px.line) = true) (hne : x ≠ y) (hs : [a, b].all notStar = true)
    (h1 : ([a, b].all (foldedForSure 8)) = false) (h2 : ([a, b].all (constantsAlone 8)) = false) : swappedStores [.Tuple [.Name x px, .Name y py] kt pt] (.Tuple [a, b] k2 pt2) env = pure (some [x, y]) := by
  refine sw_gen (by rw [hb]; rfl) (not_star hs) ?_ ?_ h1 h2
  · have n1 : nameIn env px.line (.Name x px) = some x := by show (if (env.kindOf x == some .local && px.line == px.line) = true then some x else none) = _; rw [hx]; simp
    have n2 : nameIn env px.line (.Name y py) = some y := by show (if (env.kindOf y == some .local && py.line == px.line) = true then some y else none) = _; rw [hy, hl]; simp
    show List.filterMap (nameIn env px.line) _ = _
    rw [List.filterMap_cons_some n1, List.filterMap_cons_some n2]; rfl
  · have du : ([x, y] : List Str).eraseDups.length = 2 := by simp [List.eraseDups_cons, hne, Ne.symm hne]
    rw [du]; rfl
theorem sw3 {x y z : Str} {px py pz pt pt2 : Pos} {kt k2 : Nat} {a b d : Expr} {env : PySem.Env} (hb : env.blockKind = .function) (hx : env.kindOf x = some .local) (hy : env.kindOf y = some .local) (hz : env.kindOf z = some .local) (hl : (py.line == px.line) = true) (hl2 : (pz.line == px.line) = true)
    (hne : x ≠ y) (hne2 : x ≠ z) (hne3 : y ≠ z) (hs : [a, b, d].all notStar = true) (h1 : ([a, b, d].all (foldedForSure 8)) = false) (h2 : ([a, b, d].all (constantsAlone 8)) = false) :
    swappedStores [.Tuple [.Name x px, .Name y py, .Name z pz] kt pt] (.Tuple [a, b, d] k2 pt2) env = pure (some [x, y, z]) := by
  refine sw_gen (by rw [hb]; rfl) (not_star hs) ?_ ?_ h1 h2
  · have n1 : nameIn env px.line (.Name x px) = some x := by show (if (env.kindOf x == some .local && px.line == px.line) = true then some x else none) = _; rw [hx]; simp
    have n2 : nameIn env px.line (.Name y py) = some y := by show (if (env.kindOf y == some .local && py.line == px.line) = true then some y else none) = _; rw [hy, hl]; simp
    have n3 : nameIn env px.line (.Name z pz) = some z := by show (if (env.kindOf z == some .local && pz.line == px.line) = true then some z else none) = _; rw [hz, hl2]; simp
    show List.filterMap (nameIn env px.line) _ = _
    rw [List.filterMap_cons_some n1, List.filterMap_cons_some n2, List.filterMap_cons_some n3]; rfl
  · have du : ([x, y, z] : List Str).eraseDups.length = 3 := by simp [List.eraseDups_cons, hne, hne2, hne3, Ne.symm hne, Ne.symm hne2, Ne.symm hne3]
    rw [du]; rfl
theorem trPar_ok {ts vs : List Expr} {kt k2 : Nat} {pt pt2 : Pos} {cs : CS} (h : trPar n c ts vs = some cs) (ok : CxOk Γ con X c) : PS X (.Assign [.Tuple ts kt pt] (.Tuple vs k2 pt2) pos) (tS X.K Γ con F cs) := by
  have hN : X.N.Nodup := by rw [ok.N]; exact ok.nd
  have sl : ∀ {x : Str} {i : Nat}, slotAt c.N x = some i → X.N[i]? = some x := fun h => by rw [ok.N]; exact slotAt_ok h
  unfold trPar at h
  split at h
  · obtain ⟨hp, h⟩ := oi h
    obtain ⟨i, h1, h⟩ := ob h
    obtain ⟨j, h2, h⟩ := ob h
    rcases ite2 h with ⟨_, h⟩ | ⟨hij, h⟩
    · cases h
    · obtain ⟨ca, h3, h⟩ := ob h
      obtain ⟨cb, h4, rfl⟩ := om h
      unfold parOk at hp
      simp only [Bool.and_eq_true, Bool.not_eq_true'] at hp
      obtain ⟨⟨⟨⟨⟨⟨p1, p2⟩, p3⟩, p4⟩, p5⟩, p6⟩, p7⟩ := hp
      have hs := p5
      simp only [List.all_cons, Bool.and_eq_true] at hs
      exact pd_par2 ok.calm hN (sl h1) (sl h2) hij (ok.isLocal p1) (ok.isLocal p2) ((PEl.cons (trMif_ok h3 ok) (.cons (trMif_ok h4 ok) .nil)).pa p5)
        (sw2 ok.blockKind (ok.isLocal p1) (ok.isLocal p2) p3 (by simpa using p4) p5 p6 p7)
  · obtain ⟨hp, h⟩ := oi h
    obtain ⟨i, h1, h⟩ := ob h
    obtain ⟨j, h2, h⟩ := ob h
    obtain ⟨l, h2', h⟩ := ob h
    rcases ite2 h with ⟨_, h⟩ | ⟨hij, h⟩
    · cases h
    · obtain ⟨ca, h3, h⟩ := ob h
      obtain ⟨cb, h4, h⟩ := ob h
      obtain ⟨cd, h5, rfl⟩ := om h
      unfold parOk at hp
      simp only [Bool.and_eq_true, Bool.not_eq_true'] at hp
      obtain ⟨⟨⟨⟨⟨⟨⟨⟨⟨⟨p1, p2⟩, p3⟩, l1⟩, l2⟩, e1⟩, e2⟩, e3⟩, p5⟩, p6⟩, p7⟩ := hp
      exact pd_par3 ok.calm hN (sl h1) (sl h2) (sl h2') (fun z => hij (.inl z)) (fun z => hij (.inr (.inl z))) (fun z => hij (.inr (.inr z))) (ok.isLocal p1) (ok.isLocal p2) (ok.isLocal p3)
        ((PEl.cons (trMif_ok h3 ok) (.cons (trMif_ok h4 ok) (.cons (trMif_ok h5 ok) .nil))).pa p5)
        (sw3 ok.blockKind (ok.isLocal p1) (ok.isLocal p2) (ok.isLocal p3) l1 l2 (by simpa using e1) (by simpa using e2) (by simpa using e3) p5 p6 p7)
  · cases h
theorem addFz_ok {l : Nat} {sts : List Stmt} : ∀ {fz : List (Nat × Nat)} {cs : List CS}, PSs X sts (tSs X.K Γ con F cs) → PSs X sts (tSs X.K Γ con F (addFz l fz cs))
  | [], cs, h => h
  | (k, i) :: r, cs, h => by
    unfold addFz
    split
    · exact pds_frz (addFz_ok h)
    · exact addFz_ok h
end
end En

set_option Elab.async false
set_option linter.all false
set_option maxRecDepth 100000
set_option maxHeartbeats 4000000
namespace En
open PySem PySem.Spec PyProof.Rows L2
section
variable {Γ : Fns} {con : Nat → Option D} {n : Nat} {c : TC} {X : Cx} {F : Nat} {pos : Pos}
theorem sole_no {v t : Expr} {l : Nat} {env : PySem.Env} (h : notLc v = true) : swapsWithSole [t] v l env = pure false := swap_no (t := some t) h
theorem trS_tup (ok : CxOk Γ con X c) {ts : List Expr} {kt : Nat} {pt : Pos} {v : Expr} {cs : CS} (h : (match v with
      | .Tuple vs _ _ =>
        if !(ts.length == 2 || ts.length == 3) || vs.length != ts.length || vs.all (foldedForSure 8) then (trG n c (.Tuple ts kt pt)).bind fun t => (trE n c v).map fun cv => CS.asg t cv
        else trPar n c ts vs
      | v => if notLc v then (trG n c (.Tuple ts kt pt)).bind fun t => (trE n c v).map fun cv => .asg t cv else none) = some cs) : PS X (.Assign [.Tuple ts kt pt] v pos) (tS X.K Γ con F cs) := by
  split at h
  · rcases ite2 h with ⟨hb, h⟩ | ⟨_, h⟩
    · obtain ⟨t, h1, h⟩ := ob h
      obtain ⟨cv, h2, rfl⟩ := om h
      exact pd_asg ((trOk n).E h2 ok).1 ((trG_ok n).1 _ t h1 ok) rfl (sw_none hb) rfl
    · exact trPar_ok h ok
  · rename_i hnt
    obtain ⟨hb, h⟩ := oi h
    obtain ⟨t, h1, h⟩ := ob h
    obtain ⟨cv, h2, rfl⟩ := om h
    refine pd_asg ((trOk n).E h2 ok).1 ((trG_ok n).1 _ t h1 ok) (sole_no hb) (sw_other ?_) rfl
    cases v <;> first | rfl | exact absurd rfl (hnt _ _ _)
theorem trS_ok : ∀ (n : Nat), (∀ {s : Stmt} {cs : CS}, trS n c s = some cs → CxOk Γ con X c → PS X s (tS X.K Γ con F cs)) ∧ (∀ {ss : List Stmt} {cs : List CS}, trSs n c ss = some cs → CxOk Γ con X c → PSs X ss (tSs X.K Γ con F cs))
  | 0 => by
    refine ⟨fun {s cs} h => ?_, fun {s cs} h => ?_⟩ <;> cases h
  | n + 1 => by
    obtain ⟨ih1, ih2⟩ := trS_ok n
    refine ⟨fun {s cs} h ok => ?_, fun {ss cs} h ok => ?_⟩
    · have hN : X.N.Nodup := by rw [ok.N]; exact ok.nd
      have un := ok.un
      cases s with
      | Pass p => have h' : some CS.pass = some cs := h; cases h'; exact pd_pass
      | Break p => have h' : some CS.brk = some cs := h; cases h'; exact pd_break
      | Continue p => have h' : some CS.cont = some cs := h; cases h'; exact pd_continue
      | Raise a b p => have h' : some CS.never = some cs := h; cases h'; exact pd_never
      | Return v p =>
        cases v with
        | none => have h' : some CS.retN = some cs := h; cases h'; exact pd_retN
        | some e =>
          obtain ⟨ce, h1, rfl⟩ := om (show (trMif n c c.keep e).map CS.ret = some cs from h)
          exact pd_ret (trMif_ok h1 ok)
      | Expr e p =>
        obtain ⟨hn, h⟩ := oi (show (if notLc e then (trE n c e).map CS.ex else none) = some cs from h)
        obtain ⟨ce, h1, rfl⟩ := om h
        exact pd_ex ((trOk n).E h1 ok).1 (swap_no hn)
      | Assign ts v p =>
        rcases ts with _ | ⟨t, _ | ⟨t', ts⟩⟩
        · cases h
        · cases t with
          | Name x px => exact trSet_ok h ok
          | Tuple ts kt pt => exact trS_tup ok h
          | Subscript o i tp =>
            obtain ⟨hh, h⟩ := oi (show (if notSlice i && notLc v then (trE n c o).bind fun co => (trE n c i).bind fun ci => (trE n c v).map fun cv => CS.setix co ci (frzIf (isName c.M v) cv) else none) = some cs from h)
            simp only [Bool.and_eq_true] at hh
            obtain ⟨co, h1, h⟩ := ob h
            obtain ⟨ci, h2, h⟩ := ob h
            obtain ⟨cv, h3, rfl⟩ := om h
            refine pd_setix (by omega) ((trOk n).E h1 ok).1 ((trOk n).E h2 ok).1 (pd_frzIf ((trOk n).E h3 ok).1) (fun w => ?_) (sole_no hh.2) rfl rfl
            have hi := hh.1
            cases i <;> first | rfl | cases hi
          | _ => cases h
        · cases t <;> cases h
      | AugAssign t op v p =>
        cases t with
        | Name x px =>
          obtain ⟨o, h1, h⟩ := ob (show ((binOf op).bind fun o => if augOk o && c.loc x then (slotAt c.N x).bind fun i => (trE n c v).map fun cv => CS.aug i o cv else none) = some cs from h)
          obtain ⟨hh, h⟩ := oi h
          simp only [Bool.and_eq_true] at hh
          obtain ⟨i, h2, h⟩ := ob h
          obtain ⟨cv, h3, rfl⟩ := om h
          obtain rfl := binOf_ok h1
          obtain ⟨l1, l2⟩ := ok.loc hh.2
          refine pd_aug ?_ hN (by rw [ok.N]; exact slotAt_ok h2) l1 l2 ((trOk n).E h3 ok).1
          have ha := hh.1
          cases o <;> first | exact .inl rfl | exact .inr (.inl rfl) | exact .inr (.inr (.inl rfl)) | exact .inr (.inr (.inr rfl)) | cases ha
        | _ => cases h
      | If t a b p =>
        obtain ⟨ct, h1, h⟩ := ob (show ((trE n c t).bind fun ct => (trSs n c a).bind fun ca => (trSs n c b).map fun cb => CS.ite ct ca cb) = some cs from h)
        obtain ⟨ca, h2, h⟩ := ob h
        obtain ⟨cb, h3, rfl⟩ := om h
        exact pd_if ((trOk n).E h1 ok).2 (ih2 h2 ok) (ih2 h3 ok)
      | For tg it body els p =>
        cases els with
        | nil =>
          obtain ⟨t, h1, h⟩ := ob (show ((trG n c tg).bind fun t => (trI n c tg it).bind fun ci => (trSs n c body).map fun cb => CS.for_ t ci cb) = some cs from h)
          obtain ⟨ci, h2, h⟩ := ob h
          obtain ⟨cb, h3, rfl⟩ := om h
          obtain ⟨i1, i2⟩ := (trOk n).I h2 ok
          exact pd_for ok.pass ok.calm i1 ((trG_ok n).1 tg t h1 ok) (ih2 h3 ok) i2
        | cons _ _ => cases h
      | While t body els p =>
        cases els with
        | nil =>
          obtain ⟨ct, h1, h⟩ := ob (show ((trE n c t).bind fun ct => (trSs n c body).map fun cb => CS.while_ ct cb) = some cs from h)
          obtain ⟨cb, h2, rfl⟩ := om h
          exact pd_while ok.pass ((trOk n).E h1 ok).2 (ih2 h2 ok)
        | cons _ _ => cases h
      | _ => cases h
    · cases ss with
      | nil => have h' : some ([] : List CS) = some cs := h; cases h'; exact pds_nil
      | cons s r =>
        obtain ⟨cs', h1, h⟩ := ob (show ((trS n c s).bind fun cs => (trSs n c r).map fun cr => cs :: addFz (lineOf s) c.fz cr) = some cs from h)
        obtain ⟨cr, h2, rfl⟩ := om h
        exact pds_cons (ih1 h1 ok) (addFz_ok (ih2 h2 ok))
end
end En

set_option Elab.async false
set_option linter.all false
set_option maxRecDepth 100000
set_option maxHeartbeats 4000000
namespace En
open PySem PySem.Spec PyProof.Rows L2
inductive AllP {α : Type} (P : α → Prop) : List α → Prop
  | nil : AllP P []
  | cons {a : α} {l : List α} : P a → AllP P l → AllP P (a :: l)
theorem AllP.get {α : Type} {P : α → Prop} : ∀ {l : List α} {i : Nat} {a : α}, AllP P l → l[i]? = some a → P a := by
  intro l i a h
  induction h generalizing i with
  | nil => intro e; simp at e
  | cons h _ ih =>
    intro e
    cases i with
    | zero => simp at e; subst e; exact h
    | succ i => exact ih (by simpa using e)
/-- a def of the text and its code -/
structure Row where
  x : Str
  st : Stmt
  fn : Fn
  N : List Str
  ps : List Str
  M : List Str
  fz : List (Nat × Nat)
def tcOf (G : List (Str × GK)) (r : Row) : TC := ⟨r.N, (defScope r.st).names, none, G, r.M, r.fn.keep, r.fz⟩
structure RowChk (G : List (Str × GK)) (fuel : Nat) (r : Row) : Prop where
  tr : trSs fuel (tcOf G r) (defBody r.st) = some r.fn.body
  sc : FnScope r.N r.ps (defScope r.st)
  np : r.fn.np = r.ps.length
  ns : r.fn.ns = r.N.length
/-- what the module holds of a def: its object, and how its arguments bind -/
structure RowOk (K : PySem.W.Frag) (mg : Str → Option Value) (r : Row) (f : Addr) (fd : FuncData) : Prop where
  gl : mg r.x = some (.ref f)
  kp : PySem.W.keepIn K (.ref f) = true
  ex : ∃ (oc : Value) (od : Option Addr) (dV kV doc pm : Value) (an : Option Addr) (cdv ct : Value) (osl : Array (Option Value)),
    fd = PySem.W.fnOf r.x r.x (defArgs r.st) (defBody r.st) (defScope r.st) dV kV doc pm an cdv ct ∧ K.lookup f = some ⟨oc, od, .func fd, osl⟩ ∧ PySem.W.codeIn K cdv r.x = true
  bn : ∀ m, m ≤ r.fn.np → r.fn.np ≤ m + r.fn.defs.length → ∃ dvs dsv, Vals dvs dsv ∧ Binds K fd r.ps dsv ∧ ∀ as H, DReps K as H dvs (r.fn.defs.drop (m + r.fn.defs.length - r.fn.np))
def HasCon (K : PySem.W.Frag) (mg : Str → Option Value) (x : Str) (d : D) : Prop := ∃ u v, mg x = some u ∧ RelV v u ∧ ∀ as H, DRep K as H v d
def conOf (cons : List (Str × D)) (i : Nat) : Option D := (cons[i]?).map (·.2)
/-- the module's names against its tables -/
def gC (rows : List Row) (cons : List (Str × D)) (G : List (Str × GK)) : Bool := G.all fun p => match p.2 with
  | .con i => match cons[i]? with
    | some q => decide (q.1 = p.1)
    | none => false
  | .fn i np nd => match rows[i]? with
    | some r => decide (r.x = p.1) && decide (r.fn.np = np) && decide (r.fn.defs.length = nd)
    | none => false
theorem lookup_mem {α : Type} {l : List (Str × α)} {x : Str} {a : α} (h : l.lookup x = some a) : (x, a) ∈ l := by
  induction l with
  | nil => cases h
  | cons p r ih =>
    obtain ⟨y, b⟩ := p
    rw [List.lookup_cons] at h
    split at h
    · rename_i e
      cases h
      have : x = y := by simpa using e
      subst this
      exact List.mem_cons_self ..
    · exact List.mem_cons_of_mem _ (ih h)
section
variable {P : Program} {w : World} {K : PySem.W.Frag} {mg : Str → Option Value} {rows : List Row} {cons : List (Str × D)} {G : List (Str × GK)} {fuel F : Nat}
structure ModOk (K : PySem.W.Frag) (mg : Str → Option Value) (rows : List Row) (cons : List (Str × D)) (G : List (Str × GK)) (fuel : Nat) : Prop where
  chk : AllP (RowChk G fuel) rows
  row : AllP (fun r => ∃ f fd, RowOk K mg r f fd) rows
  con : AllP (fun p => HasCon K mg p.1 p.2) cons
  g : gC rows cons G = true
  blt : ∀ x ∈ bltNames, mg x = none
theorem ModOk.levels (mo : ModOk K mg rows cons G fuel) : ∀ (k : Nat) (base : Heap) (i : Nat) (r : Row) (f : Addr) (fd : FuncData), rows[i]? = some r → RowOk K mg r f fd →
    FnG P w K mg base (k + 1) f fd r.ps (spF K r.fn.np (runBody (callN (rows.map Row.fn) (conOf cons) F k) (conOf cons) F r.fn)) := by
  intro k
  induction k with
  | zero => ?_
  | succ k ih => ?_
  all_goals
    intro base i r f fd hi ro
    obtain ⟨oc, od, dV, kV, doc, pm, an, cdv, ct, osl, rfl, lk, hcd⟩ := ro.ex
    have ck := mo.chk.get hi
    refine fn_ofG lk hcd ck.sc ck.np ck.ns fun A outer s H hg hr => ?_
    refine (trS_ok fuel).2 ck.tr ⟨ck.sc.nd, rfl, rfl, ck.sc.kind, fun _ _ => rfl, rfl, hg, by have := hr.un; show (A.deeper _).units + 200 < cLine; omega, PassesOwn.never, mo.blt, fun x j hl => ?_, fun x j np nd hl => ?_⟩
    · have hm := List.all_eq_true.mp mo.g _ (lookup_mem hl)
      simp only at hm
      split at hm
      · rename_i q hq
        obtain ⟨y, d⟩ := q
        have : y = x := by simpa using hm
        subst this
        obtain ⟨u, v, h1, h2, h3⟩ := mo.con.get hq
        exact ⟨u, v, d, h1, h2, by unfold conOf; rw [hq]; rfl, h3⟩
      · cases hm
  · exact .inl fun ds st r h => by cases h
  · have hm := List.all_eq_true.mp mo.g _ (lookup_mem hl)
    simp only at hm
    split at hm
    · rename_i q hq
      simp only [Bool.and_eq_true, decide_eq_true_eq] at hm
      obtain ⟨⟨e1, e2⟩, e3⟩ := hm
      obtain ⟨f', fd', ro'⟩ := mo.row.get hq
      refine .inr ⟨k + 1, f', fd', q.ps, q.fn, callN (rows.map Row.fn) (conOf cons) F k, F, hr, by rw [← e1]; exact ro'.gl, ro'.kp, ?_, ih base j q f' fd' hq ro', e2, e3, fun m h1 h2 => ?_⟩
      · funext ds st
        show (match (rows.map Row.fn)[j]? with | some fn => runFn (callN (rows.map Row.fn) (conOf cons) F k) (conOf cons) F fn ds st | none => .bad) = _
        rw [List.getElem?_map, hq]
        rfl
      · exact ro'.bn m (by omega) (by omega)
    · cases hm
theorem thenE {p q : Prop} (h : p) (f : p → q) : q := f h
theorem blt_of {mg : Str → Option Value} (b0 : mg "len" = none) (b1 : mg "abs" = none) (b2 : mg "int" = none) (b3 : mg "tuple" = none) (b4 : mg "list" = none) (b5 : mg "all" = none) (b6 : mg "any" = none) (b7 : mg "sum" = none) (b8 : mg "max" = none) (b9 : mg "min" = none) (b10 : mg "sorted" = none) (b11 : mg "repr" = none) (b12 : mg "dict" = none) (b13 : mg "isinstance" = none) (b14 : mg "range" = none) (b15 : mg "zip" = none) (b16 : mg "enumerate" = none) (b17 : mg "bool" = none) (b18 : mg "str" = none) : ∀ x ∈ bltNames, mg x = none := fun x hx => by
  have h : x = "len" ∨ x = "abs" ∨ x = "int" ∨ x = "tuple" ∨ x = "list" ∨ x = "all" ∨ x = "any" ∨ x = "sum" ∨ x = "max" ∨ x = "min" ∨ x = "sorted" ∨ x = "repr" ∨ x = "dict" ∨ x = "isinstance" ∨ x = "range" ∨ x = "zip" ∨ x = "enumerate" ∨ x = "bool" ∨ x = "str" := by
    unfold bltNames at hx
    simpa only [List.mem_cons, List.not_mem_nil, or_false] using hx
  rcases h with rfl | rfl | rfl | rfl | rfl | rfl | rfl | rfl | rfl | rfl | rfl | rfl | rfl | rfl | rfl | rfl | rfl | rfl | rfl
  all_goals assumption
/-- a def with no defaults -/
theorem rowOk0 {r : Row} {f : Addr} {h : Heap} {oc : Value} {od an : Option Addr} {osl : Array (Option Value)} {kV doc pm cdv ct : Value} (X : K.In h) (Gm : h.Ns mainGlobals mg)
    (a : PySem.W.nsIn K mainGlobals r.x = some (some (.ref f))) (l : K.lookup f = some ⟨oc, od, .func (PySem.W.fnOf r.x r.x (defArgs r.st) (defBody r.st) (defScope r.st) .none kV doc pm an cdv ct), osl⟩) (c : PySem.W.codeIn K cdv r.x = true) (kp : PySem.W.keepIn K (.ref f) = true)
    (hd : r.fn.defs = []) (hnp : r.fn.np = r.ps.length) (hb : ∀ (kV doc pm : Value) (an : Option Addr) (cdv ct : Value) (us : List Value), us.length = r.ps.length → bindArgs (PySem.W.fnOf r.x r.x (defArgs r.st) (defBody r.st) (defScope r.st) .none kV doc pm an cdv ct) ⟨us, []⟩ = pure (r.ps.zip us)) :
    ∃ f fd, RowOk K mg r f fd := by
  refine ⟨f, _, PySem.W.mg_of X Gm a, kp, ⟨oc, od, .none, kV, doc, pm, an, cdv, ct, osl, rfl, l, c⟩, fun m h1 h2 => ⟨[], [], .nil, .all (hb kV doc pm an cdv ct), fun as H => ?_⟩⟩
  rw [hd]
  simp only [List.drop_nil]
  exact .nil
/-- a def with defaults -/
theorem rowOkD {r : Row} {f T : Addr} {h : Heap} {oc : Value} {od an : Option Addr} {osl : Array (Option Value)} {kV doc pm cdv ct : Value} {o : Obj} {its : List Value} {nn : Nat} {dvs : List V} (X : K.In h) (Gm : h.Ns mainGlobals mg)
    (a : PySem.W.nsIn K mainGlobals r.x = some (some (.ref f))) (l : K.lookup f = some ⟨oc, od, .func (PySem.W.fnOf r.x r.x (defArgs r.st) (defBody r.st) (defScope r.st) (.ref T) kV doc pm an cdv ct), osl⟩) (c : PySem.W.codeIn K cdv r.x = true) (kp : PySem.W.keepIn K (.ref f) = true)
    (lT : K.lookup T = some o) (oT : o.data = .seq its.toArray nn) (rT : Vals dvs its) (hne : dvs ≠ []) (hds : ∀ as H, DReps K as H dvs r.fn.defs) (hnp : r.fn.np = r.ps.length)
    (hb : ∀ m, m ≤ r.fn.np → r.fn.np ≤ m + r.fn.defs.length → ∀ (T : Addr) (kV doc pm : Value) (an : Option Addr) (cdv ct : Value) (us its : List Value), us.length = m → its.length = r.fn.defs.length →
      ∃ k, bindArgs (PySem.W.fnOf r.x r.x (defArgs r.st) (defBody r.st) (defScope r.st) (.ref T) kV doc pm an cdv ct) ⟨us, []⟩ = seqItems? (.ref T) >>= k ∧ k (some its.toArray) = pure (r.ps.zip (us ++ its.drop (m + r.fn.defs.length - r.fn.np)))) :
    ∃ f fd, RowOk K mg r f fd := by
  refine ⟨f, _, PySem.W.mg_of X Gm a, kp, ⟨oc, od, .ref T, kV, doc, pm, an, cdv, ct, osl, rfl, l, c⟩, fun m h1 h2 => ?_⟩
  have FD : FunD K r.x r.x (defArgs r.st) (defBody r.st) (defScope r.st) dvs [] f (PySem.W.fnOf r.x r.x (defArgs r.st) (defBody r.st) (defScope r.st) (.ref T) kV doc pm an cdv ct) :=
    ⟨⟨oc, od, .ref T, kV, doc, pm, an, cdv, ct, osl, rfl, l, c, .inr ⟨hne, T, o, its, nn, rfl, lT, oT, rT⟩, .inl rfl⟩, kp⟩
  have hl : dvs.length = r.fn.defs.length := (hds ⟨[], []⟩ fun _ => none).length
  obtain ⟨ds, v1, v2⟩ := FD.binds1 (ps := r.ps) m (m + r.fn.defs.length - r.fn.np) hne (by omega) fun T kV doc pm an cdv ct us its e1 e2 => hb m h1 h2 T kV doc pm an cdv ct us its e1 (by omega)
  exact ⟨_, ds, v1, v2, fun as H => (hds as H).drop _⟩
theorem con_int {h : Heap} {x : Str} {i : Int} {t : Tok} (X : K.In h) (Gm : h.Ns mainGlobals mg) (a : PySem.W.nsIn K mainGlobals x = some (some (.int i t))) : HasCon K mg x (.int i) := ⟨_, .int i, PySem.W.mg_of X Gm a, ⟨t, rfl⟩, fun _ _ => .int i⟩
theorem con_str {h : Heap} {x y : Str} {t : Tok} (X : K.In h) (Gm : h.Ns mainGlobals mg) (a : PySem.W.nsIn K mainGlobals x = some (some (.str y t))) : HasCon K mg x (.str y) := ⟨_, .str y, PySem.W.mg_of X Gm a, ⟨t, rfl⟩, fun _ _ => .str y⟩
theorem con_tup {h : Heap} {x : Str} {T : Addr} {o : Obj} {its : Array Value} {n : Nat} {vs : List V} {ds : List D} (X : K.In h) (Gm : h.Ns mainGlobals mg) (a : PySem.W.nsIn K mainGlobals x = some (some (.ref T))) (l : K.lookup T = some o) (hc : o.cls = .type "tuple") (hd : o.data = .seq its n) (hz : its.size ≤ sizeLine) (hv : Vals vs its.toList) (hr : ∀ as H, DReps K as H vs ds) :
    HasCon K mg x (.tup ds) := ⟨_, .ref T, PySem.W.mg_of X Gm a, rfl, fun as H => .tup (.inr ⟨o, its, n, l, hc, hd, hz, hv⟩) (by rw [hv.length]; simpa using hz) (hr as H)⟩
/-- the law's def, of all scripts -/
theorem law_row {h : Heap} {fa : Addr} {i k : Nat} {r : Row} {x : Str} (mo : ModOk K mg rows cons G fuel) (hi : rows[i]? = some r) (hfa : mg r.x = some (.ref fa)) (hp : r.ps = [x]) (hnp : r.fn.np = 1) :
    ∃ fd : FuncData, (∀ (s : Shared) (u : Value), K.In s.heap → BindsTo s fd ⟨[u], []⟩ [(x, u)]) ∧ ∀ base : Heap, FnG P w K mg base (k + 1) fa fd [x] (spF K 1 (runBody (callN (rows.map Row.fn) (conOf cons) F k) (conOf cons) F r.fn)) := by
  obtain ⟨f, fd, ro⟩ := mo.row.get hi
  obtain rfl : f = fa := by have := ro.gl.symm.trans hfa; cases this; rfl
  refine ⟨fd, fun s u hk => ?_, fun base => ?_⟩
  · obtain ⟨dvs, dsv, v1, v2, v3⟩ := ro.bn 1 (by omega) (by omega)
    have e : dvs = [] := by
      have := (v3 ⟨[], []⟩ fun _ => none).length
      rw [List.length_drop] at this
      exact List.eq_nil_of_length_eq_zero (by omega)
    subst e
    cases v1
    have := v2 s [u] hk (by rw [hp]; rfl)
    rw [hp] at this
    exact this
  · have := mo.levels (P := P) (w := w) (F := F) k base i r f fd hi ro
    rw [hnp, hp] at this
    exact this
end
end En

set_option Elab.async false
set_option linter.all false
set_option maxRecDepth 100000
set_option maxHeartbeats 1000000
namespace En
open PySem
section
variable {α β : Type}
theorem rb (a : α) (f : α → Res β) : (Res.ok a).bind f = f a := rfl
theorem ro_some (a : α) : Res.of (some a) = .ok a := rfl
end
section
variable {st : Sto} {Γ : Fns} {C : Nat → Option D} {F : Nat}
theorem sn_int (i : Int) : snap st (.int i) = .int i := rfl
theorem sn_str (i : Str) : snap st (.str i) = .str i := rfl
theorem sn_bl (i : Bool) : snap st (.bl i) = .bl i := rfl
theorem sn_non : snap st .non = .non := rfl
theorem sn_tup (i : List D) : snap st (.tup i) = .tup i := rfl
theorem sn_lst (i : List D) : snap st (.lst i) = .lst i := rfl
theorem sn_ro (i : List D) : snap st (.ro i) = .ro i := rfl
theorem sn_dic (i : List (L2.Key × D)) : snap st (.dic i) = .dic i := rfl
theorem sn_ml {i : Nat} {ds : List D} (h : st[i]? = some (.lst ds)) : snap st (.mref i) = .lst ds := by simp only [snap, h]
theorem sn_md {i : Nat} {ds : List (L2.Key × D)} (h : st[i]? = some (.dic ds)) : snap st (.mref i) = .dic ds := by simp only [snap, h]
theorem ab (b : Bool) : asBool (.bl b) = .ok b := rfl
theorem ix_l (ds : List D) (i : Int) : idx (.lst ds) (.int i) = Res.of (atD ds i) := rfl
theorem ix_t (ds : List D) (i : Int) : idx (.tup ds) (.int i) = Res.of (atD ds i) := rfl
theorem ix_r (ds : List D) (i : Int) : idx (.ro ds) (.int i) = Res.of (atD ds i) := rfl
theorem b_add (i j : Int) : bop .add (.int i) (.int j) = .ok (.int (i + j)) := rfl
theorem b_sub (i j : Int) : bop .sub (.int i) (.int j) = .ok (.int (i - j)) := rfl
theorem b_mul {i j : Int} (h : i.natAbs.log2 + j.natAbs.log2 < 1000000) : bop .mul (.int i) (.int j) = .ok (.int (i * j)) := if_pos h
theorem b_div {i j : Int} (h : 0 < j ∧ j.natAbs.log2 < 9000) : bop .fdiv (.int i) (.int j) = .ok (.int (i / j)) := if_pos h
theorem b_mod {i j : Int} (h : 0 < j) : bop .mod (.int i) (.int j) = .ok (.int (i % j)) := if_pos h
theorem b_pow {i j : Int} (h : 0 ≤ j ∧ (Builtin.Int.intBits i : Int) * j ≤ 2 ^ 27) : bop .pow (.int i) (.int j) = .ok (.int (i ^ j.toNat)) := if_pos h
theorem c_gt (i j : Int) : cop .gt (.int i) (.int j) = .ok (decide (j < i)) := rfl
theorem c_ge (i j : Int) : cop .ge (.int i) (.int j) = .ok (decide (j ≤ i)) := rfl
theorem c_lt (i j : Int) : cop .lt (.int i) (.int j) = .ok (decide (i < j)) := rfl
theorem c_le (i j : Int) : cop .le (.int i) (.int j) = .ok (decide (i ≤ j)) := rfl
theorem bi_int (i : Int) : bi .int [.int i] = .ok (.int i) := rfl
theorem bi_intb (b : Bool) : bi .int [.bl b] = .ok (.int (if b then 1 else 0)) := rfl
theorem bi_abs (i : Int) : bi .abs [.int i] = .ok (.int (if i < 0 then -i else i)) := rfl
theorem bi_lenl (ds : List D) : bi .len [.lst ds] = .ok (.int ds.length) := rfl
theorem bi_lent (ds : List D) : bi .len [.tup ds] = .ok (.int ds.length) := rfl
theorem bi_lenr (ds : List D) : bi .len [.ro ds] = .ok (.int ds.length) := rfl
theorem bi_tupl (ds : List D) : bi .tuple [.lst ds] = .ok (.tup ds) := rfl
theorem at3_0 (a b c : D) : atD [a, b, c] 0 = some a := rfl
theorem at3_1 (a b c : D) : atD [a, b, c] 1 = some b := rfl
theorem at3_2 (a b c : D) : atD [a, b, c] 2 = some c := rfl
theorem nil_bind : ([] : List CE) = [] := rfl
/-- the end of a body that hands back plain data -/
theorem fin_d {keep : Bool} {n : Nat} {d : D} {st : Sto} (h : d.isRef = false) (hn : st.length = n) : En.finish keep n d st = .ok (d, st) := by
  subst hn
  cases d <;> first | (simp only [En.finish, List.take_length]; done) | cases h
theorem log2_le {a : Int} {n : Nat} (h0 : 0 ≤ a) (h : a < 2 ^ n) : a.natAbs.log2 ≤ n := by
  by_cases z : a.natAbs = 0
  · rw [z]; simp
  · have h1 : a.natAbs < 2 ^ n := by
      have e : ((2 ^ n : Nat) : Int) = 2 ^ n := by norm_cast
      omega
    have := (Nat.log2_lt z).mpr h1
    omega
theorem st_lt {i : Nat} {o : O} (h : st[i]? = some o) : i < st.length := by
  by_cases q : i < st.length
  · exact q
  · rw [List.getElem?_eq_none (by simpa using q)] at h; cases h
theorem set_at {i : Nat} {o o' : O} (h : st[i]? = some o) : (st.set i o')[i]? = some o' := List.getElem?_set_self (st_lt h)
end
end En
namespace En
theorem tn0 : Int.toNat 0 = 0 := rfl
theorem tn1 : Int.toNat 1 = 1 := rfl
theorem tn2 : Int.toNat 2 = 2 := rfl
theorem tn3 : Int.toNat 3 = 3 := rfl
end En
namespace En
open PySem
theorem bits_le {a : Int} {n : Nat} (h0 : 0 ≤ a) (h : a < 2 ^ n) : Builtin.Int.intBits a ≤ n + 1 := by
  have := log2_le h0 h
  unfold Builtin.Int.intBits
  split <;> omega
theorem at_nat {ds : List D} {r : Int} (h0 : 0 ≤ r) (hr : r.toNat < ds.length) : atD ds r = some ds[r.toNat] := by
  have h := L2.atI_nat (xs := ds) (j := r.toNat) (v := ds[r.toNat]) (by simp [hr])
  have e : ((r.toNat : Nat) : Int) = r := by omega
  rw [e] at h
  exact h
theorem gl_at {st : Sto} {i : Nat} {ds : List D} (h : st[i]? = some (.lst ds)) : getLst st (.mref i) = .ok (i, ds) := by simp only [getLst, h]
end En
namespace En
open PySem
theorem ir_int (i : Int) : (D.int i).isRef = false := rfl
theorem ir_str (i : Str) : (D.str i).isRef = false := rfl
theorem ir_bl (i : Bool) : (D.bl i).isRef = false := rfl
theorem ir_non : D.non.isRef = false := rfl
theorem ir_tup (i : List D) : (D.tup i).isRef = false := rfl
theorem ir_lst (i : List D) : (D.lst i).isRef = false := rfl
theorem ir_ro (i : List D) : (D.ro i).isRef = false := rfl
theorem ir_dic (i : List (L2.Key × D)) : (D.dic i).isRef = false := rfl
end En
namespace En
open PySem
theorem perm_erase {α : Type} : ∀ {l : List α} {i : Nat} (h : i < l.length), (l[i] :: l.eraseIdx i).Perm l
  | a :: l, 0, _ => List.Perm.refl _
  | a :: l, i + 1, h => by
    have hl : i < l.length := by simpa using h
    have := perm_erase hl
    show (l[i] :: a :: l.eraseIdx i).Perm (a :: l)
    exact (List.Perm.swap a l[i] _).trans (List.Perm.cons a this)
section
variable {Γ : Fns} {C : Nat → Option D} {F : Nat} {c : CS} {r : List CS} {env env1 : Env} {st st1 : Sto} {d : D} {fl : Fl}
theorem ss_next (h : evS Γ C F c env st = .ok (.next, env1, st1)) : evSs Γ C F (c :: r) env st = evSs Γ C F r env1 st1 := by simp only [evSs, h, rb]
theorem ss_ret (h : evS Γ C F c env st = .ok (.ret d, env1, st1)) : evSs Γ C F (c :: r) env st = .ok (.ret d, env1, st1) := by simp only [evSs, h, rb]
theorem s_for {t : Tg} {it : CI} {body : List CS} {ds : List D} (h : evI Γ C it env st = .ok (ds, st1)) : evS Γ C F (.for_ t it body) env st = forGo (asgT t) (fun e s => evSs Γ C F body e s) ds env st1 := by simp only [evS, h, rb]
theorem body_ret {fn : Fn} {ds : List D} (h : evSs Γ C F fn.body (ds.map some ++ List.replicate (fn.ns - ds.length) none) st = .ok (.ret d, env1, st1)) : runBody Γ C F fn ds st = En.finish fn.keep st.length d st1 := by simp only [runBody, h, rb]
theorem body_next {fn : Fn} {ds : List D} (h : evSs Γ C F fn.body (ds.map some ++ List.replicate (fn.ns - ds.length) none) st = .ok (.next, env1, st1)) : runBody Γ C F fn ds st = En.finish fn.keep st.length .non st1 := by simp only [runBody, h, rb]
end
theorem take_set {st st' : Sto} {i n : Nat} {x : O} (hn : st.length = n) (hl : n ≤ st'.length) (hi : st'[i]? = some x) (hin : i < n) (h : ∀ j, j ≠ i → j < n → st'[j]? = st[j]?) : st'.take n = st.set i x := by
  apply List.ext_getElem?
  intro j
  rw [List.getElem?_take]
  split
  · rename_i hj
    by_cases e : j = i
    · subst e; rw [hi, List.getElem?_set_self (by omega)]
    · rw [List.getElem?_set_ne (Ne.symm e), h j e hj]
  · rw [List.getElem?_eq_none (by simp; omega)]
end En
namespace En
theorem LIM_val : LIM = 16777216 := rfl
theorem lim_ok {n : Nat} (h : n < 1000) : (n ≤ LIM) = True := eq_true (by rw [LIM_val]; omega)
end En
namespace En
theorem small_rng {m : Nat} (h : m < 2000000) : -(2 ^ 62) ≤ (m : Int) ∧ (m : Int) < 2 ^ 24 := by
  have a : -(2 ^ 62) ≤ (0 : Int) := by decide
  have b : (2000000 : Int) ≤ 2 ^ 24 := by decide
  exact ⟨Int.le_trans a (Int.natCast_nonneg m), Int.lt_of_lt_of_le (by omega) b⟩
theorem ev_range1 {Γ : Fns} {C : Nat → Option D} {e : CE} {env : Env} {st st1 : Sto} {m : Nat} (h : evE Γ C e env st = .ok (.int m, st1)) (hm : m < 2000000) : evI Γ C (.range1 e) env st = .ok (rngD 0 m, st1) := by
  unfold evI
  rw [h, rb]
  exact (if_pos (small_rng hm)).trans (by rw [Int.toNat_natCast])
end En

set_option Elab.async false
set_option linter.all false
namespace En
open PySem
section
variable {Γ : Fns} {C : Nat → Option D} {F : Nat}
theorem x_lit (d : D) (env : Env) (st : Sto) : evE Γ C (.lit d) env st = .ok (d, st) := by rw [evE]; try rfl
theorem x_var (i : Nat) (env : Env) (st : Sto) : evE Γ C (.var i) env st = match env[i]? with
    | some (some d) => .ok (d, st)
    | _ => .bad := by rw [evE]; try rfl
theorem x_glob (g : Nat) (env : Env) (st : Sto) : evE Γ C (.glob g) env st = match C g with
    | some d => .ok (d, st)
    | none => .bad := by rw [evE]; try rfl
theorem x_bin (op : BOp) (a b : CE) (env : Env) (st : Sto) : evE Γ C (.bin op a b) env st = (evE Γ C a env st).bind fun (x, st1) => (evE Γ C b env st1).bind fun (y, st2) => (bop op (snap st2 x) (snap st2 y)).bind fun d => .ok (d, st2) := by rw [evE]; try rfl
theorem x_neg (a : CE) (env : Env) (st : Sto) : evE Γ C (.neg a) env st = (evE Γ C a env st).bind fun (x, st1) => match x with
    | .int i => .ok (.int (-i), st1)
    | _ => .bad := by rw [evE]; try rfl
theorem x_not (a : CE) (env : Env) (st : Sto) : evE Γ C (.not a) env st = (evE Γ C a env st).bind fun (x, st1) => (asBool x).bind fun b => .ok (.bl (!b), st1) := by rw [evE]; try rfl
theorem x_cmp (op : COp) (a b : CE) (env : Env) (st : Sto) : evE Γ C (.cmp op a b) env st = (evE Γ C a env st).bind fun (x, st1) => (evE Γ C b env st1).bind fun (y, st2) => (cop op (snap st2 x) (snap st2 y)).bind fun d => .ok (.bl d, st2) := by rw [evE]; try rfl
theorem x_chain (op op' : COp) (a b c : CE) (env : Env) (st : Sto) : evE Γ C (.chain op op' a b c) env st = (evE Γ C a env st).bind fun (x, st1) => (evE Γ C b env st1).bind fun (y, st2) => (cop op (snap st2 x) (snap st2 y)).bind fun r =>
      if r then (evE Γ C c env st2).bind fun (z, st3) => (cop op' (snap st3 y) (snap st3 z)).bind fun d => .ok (.bl d, st3) else .ok (.bl false, st2) := by rw [evE]; try rfl
theorem x_and (es : List CE) (env : Env) (st : Sto) : evE Γ C (.and es) env st = evAnd Γ C es env st := by rw [evE]; try rfl
theorem x_or (es : List CE) (env : Env) (st : Sto) : evE Γ C (.or es) env st = evOr Γ C es env st := by rw [evE]; try rfl
theorem x_ite (c a b : CE) (env : Env) (st : Sto) : evE Γ C (.ite c a b) env st = (evE Γ C c env st).bind fun (x, st1) => (asBool x).bind fun r => if r then evE Γ C a env st1 else evE Γ C b env st1 := by rw [evE]; try rfl
theorem x_tup (es : List CE) (env : Env) (st : Sto) : evE Γ C (.tup es) env st = (evEs Γ C es env st).bind fun (ds, st1) => if noRefs ds && decide (ds.length ≤ LIM) then .ok (.tup ds, st1) else .bad := by rw [evE]; try rfl
theorem x_lst (es : List CE) (env : Env) (st : Sto) : evE Γ C (.lst es) env st = (evEs Γ C es env st).bind fun (ds, st1) => if noRefs ds && decide (ds.length ≤ LIM) then .ok (.lst ds, st1) else .bad := by rw [evE]; try rfl
theorem x_lstM (es : List CE) (env : Env) (st : Sto) : evE Γ C (.lstM es) env st = (evEs Γ C es env st).bind fun (ds, st1) => if noRefs ds && decide (ds.length ≤ LIM) then .ok (.mref st1.length, st1 ++ [.lst ds]) else .bad := by rw [evE]; try rfl
theorem x_idx (a i : CE) (env : Env) (st : Sto) : evE Γ C (.idx a i) env st = (evE Γ C a env st).bind fun (x, st1) => (evE Γ C i env st1).bind fun (y, st2) => (idx (snap st2 x) y).bind fun d => .ok (d, st2) := by rw [evE]; try rfl
theorem x_slc (a : CE) (lo hi : Option CE) (env : Env) (st : Sto) : evE Γ C (.slc a lo hi) env st = (evE Γ C a env st).bind fun (x, st1) => (evO Γ C lo env st1).bind fun (l, st2) => (evO Γ C hi env st2).bind fun (h, st3) => (slc (snap st3 x) l h).bind fun d => .ok (d, st3) := by rw [evE]; try rfl
theorem x_rev (a : CE) (env : Env) (st : Sto) : evE Γ C (.rev a) env st = (evE Γ C a env st).bind fun (x, st1) => (revD (snap st1 x)).bind fun d => .ok (d, st1) := by rw [evE]; try rfl
theorem x_call (f : Nat) (es : List CE) (env : Env) (st : Sto) : evE Γ C (.call f es) env st = (evEs Γ C es env st).bind fun (ds, st1) => Γ f ds st1 := by rw [evE]; try rfl
theorem x_bi (b : B) (es : List CE) (env : Env) (st : Sto) : evE Γ C (.bi b es) env st = (evEs Γ C es env st).bind fun (ds, st1) => (bi b (ds.map (snap st1))).bind fun d => .ok (d, st1) := by rw [evE]; try rfl
theorem x_copyM (a : CE) (env : Env) (st : Sto) : evE Γ C (.copyM a) env st = (evE Γ C a env st).bind fun (x, st1) => (Res.of (itemsOf (snap st1 x))).bind fun ds => .ok (.mref st1.length, st1 ++ [.lst ds]) := by rw [evE]; try rfl
theorem x_append (l e : CE) (env : Env) (st : Sto) : evE Γ C (.append l e) env st = (evE Γ C l env st).bind fun (x, st1) => (getLst st1 x).bind fun _ => (evE Γ C e env st1).bind fun (y, st2) => (getLst st2 x).bind fun (i, ds) =>
      if y.isRef || decide (LIM ≤ ds.length) then .bad else .ok (.non, st2.set i (.lst (ds ++ [y]))) := by rw [evE]; try rfl
theorem x_extend (l e : CE) (env : Env) (st : Sto) : evE Γ C (.extend l e) env st = (evE Γ C l env st).bind fun (x, st1) => (getLst st1 x).bind fun _ => (evE Γ C e env st1).bind fun (y, st2) => (getLst st2 x).bind fun (i, ds) => match snap st2 y with
      | .lst ys => if decide (LIM < ds.length + ys.length) then .bad else .ok (.non, st2.set i (.lst (ds ++ ys)))
      | _ => .bad := by rw [evE]; try rfl
theorem x_popAt (l k : CE) (env : Env) (st : Sto) : evE Γ C (.popAt l k) env st = (evE Γ C l env st).bind fun (x, st1) => (getLst st1 x).bind fun _ => (evE Γ C k env st1).bind fun (y, st2) => (getLst st2 x).bind fun (i, ds) => match y with
      | .int k => if 0 ≤ k then match ds[k.toNat]? with
          | some d => .ok (d, st2.set i (.lst (ds.eraseIdx k.toNat)))
          | none => .bad else .bad
      | _ => .bad := by rw [evE]; try rfl
theorem x_pop (l : CE) (env : Env) (st : Sto) : evE Γ C (.pop l) env st = (evE Γ C l env st).bind fun (x, st1) => (getLst st1 x).bind fun (i, ds) => match ds.getLast? with
      | some d => .ok (d, st1.set i (.lst ds.dropLast))
      | none => .bad := by rw [evE]; try rfl
theorem x_frz (l : CE) (env : Env) (st : Sto) : evE Γ C (.frz l) env st = (evE Γ C l env st).bind fun (x, st1) => match x with
      | .mref i => match st1[i]? with
        | some (.lst ds) => .ok (.lst ds, st1.set i .dead)
        | some (.dic ds) => .ok (.dic ds, st1.set i .dead)
        | _ => .bad
      | _ => .bad := by rw [evE]; try rfl
theorem x_dnew  (env : Env) (st : Sto) : evE Γ C (.dnew) env st = .ok (.mref st.length, st ++ [.dic []]) := by rw [evE]; try rfl
theorem x_rng1 (t : Bool) (a : CE) (env : Env) (st : Sto) : evE Γ C (.rng1 t a) env st = (evE Γ C a env st).bind fun (x, st1) => match x with
      | .int j => if -(2 ^ 62) ≤ j ∧ j < 2 ^ 24 then .ok (rngT t (rngD 0 j.toNat), st1) else .bad
      | _ => .bad := by rw [evE]; try rfl
theorem x_rng2 (t : Bool) (a b : CE) (env : Env) (st : Sto) : evE Γ C (.rng2 t a b) env st = (evE Γ C a env st).bind fun (x, st1) => (evE Γ C b env st1).bind fun (y, st2) => match x, y with
      | .int i, .int j => if (-(2 ^ 62) ≤ i ∧ i < 2 ^ 62) ∧ (-(2 ^ 62) ≤ j ∧ j < 2 ^ 62) ∧ j - i < 2 ^ 24 then .ok (rngT t (rngD i (j - i).toNat), st2) else .bad
      | _, _ => .bad := by rw [evE]; try rfl
theorem x_dget (o k : CE) (x : Option CE) (env : Env) (st : Sto) : evE Γ C (.dget o k x) env st = (evE Γ C o env st).bind fun (od, st1) => (asDic (snap st1 od)).bind fun _ => (evE Γ C k env st1).bind fun (kd, st2) => (evO Γ C x env st2).bind fun (xd, st3) => match snap st3 od, keyOf kd with
      | .dic kvs, some k => .ok ((dget kvs k).getD (xd.getD .non), st3)
      | _, _ => .bad := by rw [evE]; try rfl
theorem y_asg (t : Tg) (e : CE) (env : Env) (st : Sto) : evS Γ C F (.asg t e) env st = (evE Γ C e env st).bind fun (d, st1) => (Res.of (asgT t d env)).bind fun env1 => .ok (.next, env1, st1) := by rw [evS]; try rfl
theorem y_par (is : List Nat) (es : List CE) (env : Env) (st : Sto) : evS Γ C F (.par is es) env st = (evEs Γ C es env st).bind fun (ds, st1) => (Res.of (setAll is ds env)).bind fun env1 => .ok (.next, env1, st1) := by rw [evS]; try rfl
theorem y_aug (i : Nat) (op : BOp) (e : CE) (env : Env) (st : Sto) : evS Γ C F (.aug i op e) env st = match env[i]? with
    | some (some x) => (evE Γ C e env st).bind fun (y, st1) => match x, y with
      | .int a, .int b => (bop op (.int a) (.int b)).bind fun d => .ok (.next, env.set i (some d), st1)
      | .str a, .str b => (bop op (.str a) (.str b)).bind fun d => .ok (.next, env.set i (some d), st1)
      | _, _ => .bad
    | _ => .bad := by rw [evS]; try rfl
theorem y_ex (e : CE) (env : Env) (st : Sto) : evS Γ C F (.ex e) env st = (evE Γ C e env st).bind fun (_, st1) => .ok (.next, env, st1) := by rw [evS]; try rfl
theorem y_setix (l k e : CE) (env : Env) (st : Sto) : evS Γ C F (.setix l k e) env st = (evE Γ C e env st).bind fun (y, st1) => (evE Γ C l env st1).bind fun (x, st2) => (evE Γ C k env st2).bind fun (z, st3) =>
      if y.isRef then .bad else match x with
      | .mref i => match st3[i]?, z with
        | some (.lst ds), .int k => if 0 ≤ k ∧ k.toNat < ds.length then .ok (.next, env, st3.set i (.lst (ds.set k.toNat y))) else .bad
        | some (.dic kvs), z => match keyOf z with
          | some k => if kvs.length < LIM then .ok (.next, env, st3.set i (.dic (dput kvs k y))) else .bad
          | none => .bad
        | _, _ => .bad
      | _ => .bad := by rw [evS]; try rfl
theorem y_ite (c : CE) (a b : List CS) (env : Env) (st : Sto) : evS Γ C F (.ite c a b) env st = (evE Γ C c env st).bind fun (d, st1) => (asBool d).bind fun r => if r then evSs Γ C F a env st1 else evSs Γ C F b env st1 := by rw [evS]; try rfl
theorem y_ret (e : CE) (env : Env) (st : Sto) : evS Γ C F (.ret e) env st = (evE Γ C e env st).bind fun (d, st1) => .ok (.ret d, env, st1) := by rw [evS]; try rfl
theorem y_retN  (env : Env) (st : Sto) : evS Γ C F (.retN) env st = .ok (.ret .non, env, st) := by rw [evS]; try rfl
theorem y_brk  (env : Env) (st : Sto) : evS Γ C F (.brk) env st = .ok (.brk, env, st) := by rw [evS]; try rfl
theorem y_cont  (env : Env) (st : Sto) : evS Γ C F (.cont) env st = .ok (.cont, env, st) := by rw [evS]; try rfl
theorem y_pass  (env : Env) (st : Sto) : evS Γ C F (.pass) env st = .ok (.next, env, st) := by rw [evS]; try rfl
theorem y_never  (env : Env) (st : Sto) : evS Γ C F (.never) env st = .bad := by rw [evS]; try rfl
theorem y_frzV (i : Nat) (env : Env) (st : Sto) : evS Γ C F (.frzV i) env st = match env[i]? with
    | some (some (.mref j)) => match st[j]? with
      | some (.lst ds) => .ok (.next, env.set i (some (.lst ds)), st.set j .dead)
      | some (.dic ds) => .ok (.next, env.set i (some (.dic ds)), st.set j .dead)
      | _ => .bad
    | _ => .bad := by rw [evS]; try rfl
end
end En

set_option Elab.async false
set_option linter.all false
set_option maxRecDepth 100000
set_option maxHeartbeats 1000000
namespace En
open PySem
section
variable {Γ : Fns} {C : Nat → Option D} {F : Nat} {st st1 : Sto} {env : Env} {t : Tg} {it : CI} {e : CE} {own : List Nat} {ds : List D}
theorem compGo_opt {g : D → Sto → Res (Option D × Sto)} {f : D → Option D} : ∀ {ds : List D}, (∀ x ∈ ds, g x st = .ok (f x, st)) → compGo g ds st = .ok (ds.filterMap f, st)
  | [], _ => rfl
  | x :: r, h => by
    have ih := compGo_opt (g := g) (f := f) (ds := r) fun y hy => h y (List.mem_cons_of_mem _ hy)
    simp only [compGo, h x (List.mem_cons_self ..), rb, ih]
    cases hf : f x with
    | none => rw [List.filterMap_cons_none hf]
    | some d => rw [List.filterMap_cons_some hf]
theorem ev_comp {f : D → D} (hi : evI Γ C it env st = .ok (ds, st1)) (hb : ∀ x ∈ ds, ∃ env1, asgT t x (wipeD env own) = some env1 ∧ evE Γ C e env1 st1 = .ok (f x, st1) ∧ (f x).isRef = false) :
    evE Γ C (.comp t it none e own) env st = .ok (.lst (ds.map f), st1) := by
  simp only [evE, hi, rb]
  rw [compGo_opt (f := fun x => some (f x)) fun x hx => ?_]
  · simp only [rb]
    congr 3
    exact congrFun (List.filterMap_eq_map (f := f)) ds
  · obtain ⟨env1, h1, h2, h3⟩ := hb x hx
    simp (decide := true) only [h1, ro_some, rb, evT, h2, h3, if_true, if_false, Bool.false_eq_true]
theorem ev_compIf {f : D → D} {p : D → Bool} {q : CE} (hi : evI Γ C it env st = .ok (ds, st1)) (hb : ∀ x ∈ ds, ∃ env1, asgT t x (wipeD env own) = some env1 ∧ evE Γ C q env1 st1 = .ok (.bl (p x), st1) ∧ (p x = true → evE Γ C e env1 st1 = .ok (f x, st1) ∧ (f x).isRef = false)) :
    evE Γ C (.comp t it (some q) e own) env st = .ok (.lst ((ds.filter p).map f), st1) := by
  simp only [evE, hi, rb]
  rw [compGo_opt (f := fun x => if p x then some (f x) else none) fun x hx => ?_]
  · simp only [rb]
    congr 3
    clear hb hi
    induction ds with
    | nil => rfl
    | cons a r ih =>
      by_cases hp : p a = true
      · simp [hp, ih]
      · simp [hp, ih]
  · obtain ⟨env1, h1, h2, h3⟩ := hb x hx
    by_cases hp : p x = true
    · obtain ⟨h3, h4⟩ := h3 hp
      simp (decide := true) only [h1, ro_some, rb, evT, h2, ab, hp, h3, h4, if_true, if_false, Bool.false_eq_true]
    · simp (decide := true) only [h1, ro_some, rb, evT, h2, ab, hp, if_true, if_false, Bool.false_eq_true]
theorem boolsD_map {α : Type} (p : α → Bool) : ∀ l : List α, boolsD (l.map fun x => .bl (p x)) = some (l.map p)
  | [] => rfl
  | x :: r => by simp only [List.map_cons, boolsD, boolsD_map p r, Option.map_some]
theorem bi_all {α : Type} (p : α → Bool) (l : List α) : bi .all [.lst (l.map fun x => .bl (p x))] = .ok (.bl (l.all p)) := by
  simp only [bi, boolsD_map, ro_some, rb]
  congr 2
  induction l with
  | nil => rfl
  | cons a r ih => simp [ih]
theorem intsD_map {α : Type} (p : α → Int) : ∀ l : List α, intsD (l.map fun x => .int (p x)) = some (l.map p)
  | [] => rfl
  | x :: r => by simp only [List.map_cons, intsD, intsD_map p r, Option.map_some]
theorem bi_sum {α : Type} (p : α → Int) (l : List α) : bi .sum [.lst (l.map fun x => .int (p x))] = .ok (.int (l.map p).sum) := by
  simp only [bi, intsD_map, ro_some, rb]
/-- a loop that only ever goes on -/
theorem forGo_inv {bind : D → Env → Option Env} {body : Env → Sto → Res (Fl × Env × Sto)} (P : List D → Env → Sto → Prop) : ∀ {ds : List D} {env : Env} {st : Sto}, P ds env st →
    (∀ x r env st, P (x :: r) env st → ∃ env1 env2 st2, bind x env = some env1 ∧ body env1 st = .ok (.next, env2, st2) ∧ P r env2 st2) → ∃ env' st', forGo bind body ds env st = .ok (.next, env', st') ∧ P [] env' st'
  | [], env, st, h, _ => ⟨env, st, rfl, h⟩
  | x :: r, env, st, h, hs => by
    obtain ⟨env1, env2, st2, h1, h2, h3⟩ := hs x r env st h
    obtain ⟨env', st', h4, h5⟩ := forGo_inv P h3 hs
    exact ⟨env', st', by simp only [forGo, h1, ro_some, rb, h2, h4], h5⟩
end
end En

set_option Elab.async false
set_option linter.all false
set_option maxRecDepth 100000
set_option maxHeartbeats 1000000
namespace En
open PySem
theorem pys_all {P : PyData → Prop} : ∀ {ds : List D}, (∀ d ∈ ds, P d.py) → ∀ x ∈ D.pys ds, P x
  | [], _, x, hx => by cases hx
  | d :: r, h, x, hx => by
    rcases List.mem_cons.mp (show x ∈ D.py d :: D.pys r from hx) with e | hx
    · subst e; exact h d (List.mem_cons_self ..)
    · exact pys_all (fun y hy => h y (List.mem_cons_of_mem _ hy)) x hx
theorem canAll : ∀ {xs : List PyData}, (∀ x ∈ xs, x.canLay0 = true) → PyData.canLayAll0 xs = true
  | [], _ => by simp only [PyData.canLayAll0]
  | x :: r, h => by
    simp only [PyData.canLayAll0, h x (List.mem_cons_self ..), canAll (xs := r) (fun y hy => h y (List.mem_cons_of_mem _ hy)), Bool.and_self]
/-- flat data of a few levels -/
def Flat (n : Nat) (d : D) : Prop := d.py.canLay0 = true ∧ d.py.depth ≤ n
theorem flat_int (i : Int) : Flat 0 (.int i) := ⟨by simp only [D.py, PyData.canLay0], by simp only [D.py, PyData.depth]; omega⟩
theorem eqv_str (x y : Str) : PyData.eqv (.str x) (.str y) = (x == y) := by simp only [PyData.eqv]
theorem depthAll_le {n : Nat} : ∀ {xs : List PyData}, (∀ x ∈ xs, x.depth ≤ n) → PyData.depthAll xs ≤ n
  | [], _ => by simp only [PyData.depthAll]; omega
  | x :: r, h => by
    have h1 := h x (List.mem_cons_self ..)
    have h2 := depthAll_le (xs := r) (fun y hy => h y (List.mem_cons_of_mem _ hy))
    simp only [PyData.depthAll]
    omega
theorem Flat.up {m n : Nat} {d : D} (h : Flat m d) (hm : m ≤ n) : Flat n d := ⟨h.1, Nat.le_trans h.2 hm⟩
theorem flat_tup {n : Nat} {ds : List D} (h : ∀ d ∈ ds, Flat n d) : Flat (n + 1) (.tup ds) := by
  refine ⟨?_, ?_⟩
  · simp only [D.py, PyData.canLay0]
    exact canAll (pys_all (P := fun x => x.canLay0 = true) fun d hd => (h d hd).1)
  · simp only [D.py, PyData.depth]
    have := depthAll_le (n := n) (pys_all (P := fun x => x.depth ≤ n) fun d hd => (h d hd).2)
    omega
theorem flat_lst {n : Nat} {ds : List D} (h : ∀ d ∈ ds, Flat n d) : Flat (n + 1) (.lst ds) := by
  refine ⟨?_, ?_⟩
  · simp only [D.py, PyData.canLay0]
    exact canAll (pys_all (P := fun x => x.canLay0 = true) fun d hd => (h d hd).1)
  · simp only [D.py, PyData.depth]
    have := depthAll_le (n := n) (pys_all (P := fun x => x.depth ≤ n) fun d hd => (h d hd).2)
    omega
theorem flat_str {x : Str} (h : PyData.strOk x = true) : Flat 0 (.str x) := ⟨by simp only [D.py, PyData.canLay0]; exact h, by simp only [D.py, PyData.depth]; omega⟩
theorem Flat.shaped {n : Nat} {d : D} (h : Flat n d) (hn : n ≤ 64) : SeqAt.shaped d.py = true := by
  unfold SeqAt.shaped
  rw [h.1, Bool.true_and, decide_eq_true_eq]
  exact Nat.le_trans h.2 hn
theorem eq_self {n : Nat} {d : D} (h : Flat n d) (hn : n ≤ 64) : cop .eq d d = .ok true := by
  simp only [cop, h.shaped hn, Bool.and_self, if_true, SeqAt.eqv_refl _ h.1]
theorem ne_self {n : Nat} {d : D} (h : Flat n d) (hn : n ≤ 64) : cop .ne d d = .ok false := by
  simp only [cop, h.shaped hn, Bool.and_self, if_true, SeqAt.eqv_refl _ h.1, Bool.not_true]
theorem cut_take (ds : List D) (i : Nat) (h : i ≤ ds.length) : cutD ds none (some (i : Int)) = ds.take i := by
  unfold cutD
  simp only [HT.sIx_none, HT.sIx_nat, List.drop_zero, Nat.sub_zero, Nat.min_eq_left h]
theorem cut_drop1 (ds : List D) : cutD ds (some 1) none = ds.drop 1 := by
  unfold cutD
  rw [show HT.sIx ds.length 0 (some 1) = min 1 ds.length from HT.sIx_nat ds.length 0 1, HT.sIx_none]
  cases ds with
  | nil => rfl
  | cons a r =>
    have : min 1 (a :: r).length = 1 := by simp only [List.length_cons]; omega
    simp only [this]
    show List.take (r.length + 1 - 1) r = r
    rw [Nat.add_sub_cancel, List.take_length]
/-- a text among texts -/
theorem in_strs {x : Str} {ts : List Str} (hx : PyData.strOk x = true) (h : ∀ t ∈ ts, PyData.strOk t = true) : isin (.str x) (.tup (ts.map .str)) = .ok (ts.contains x) := by
  have h1 : SeqAt.shaped (D.str x).py = true := (flat_str hx).shaped (by omega)
  have h2 : SeqAt.shaped (D.tup (ts.map .str)).py = true := (flat_tup (n := 0) fun d hd => by
    obtain ⟨t, ht, rfl⟩ := List.mem_map.mp hd
    exact flat_str (h t ht)).shaped (by omega)
  simp only [isin, h1, h2, Bool.and_self, if_true, List.any_map]
  congr 1
  clear h h2
  induction ts with
  | nil => rfl
  | cons t r ih =>
    rw [List.any_cons, List.contains_cons, ih]
    simp only [Function.comp, D.py, eqv_str]
    congr 1
    exact Bool.beq_comm ..
theorem mem_enum : ∀ {ds : List D} {a : Nat} {x : D}, x ∈ enumD a ds → ∃ (i : Nat) (d : D), ds[i]? = some d ∧ x = .tup [.int ((a + i : Nat) : Int), d]
  | [], a, x, h => by cases h
  | d :: r, a, x, h => by
    rcases List.mem_cons.mp (show x ∈ D.tup [.int (a : Int), d] :: enumD (a + 1) r from h) with e | h
    · exact ⟨0, d, rfl, by rw [e]; simp⟩
    · obtain ⟨i, d', h1, h2⟩ := mem_enum h
      exact ⟨i + 1, d', by simpa using h1, by rw [h2, show a + 1 + i = a + (i + 1) by omega]⟩
theorem mem_zip : ∀ {xs ys : List D} {x : D}, x ∈ zipD xs ys → ∃ (i : Nat) (a b : D), xs[i]? = some a ∧ ys[i]? = some b ∧ x = .tup [a, b]
  | [], _, x, h => by cases h
  | _ :: _, [], x, h => by cases h
  | a :: xs, b :: ys, x, h => by
    rcases List.mem_cons.mp (show x ∈ D.tup [a, b] :: zipD xs ys from h) with e | h
    · exact ⟨0, a, b, rfl, rfl, e⟩
    · obtain ⟨i, a', b', h1, h2, h3⟩ := mem_zip h
      exact ⟨i + 1, a', b', by simpa using h1, by simpa using h2, h3⟩
end En

set_option Elab.async false
set_option linter.all false
set_option maxRecDepth 100000
set_option maxHeartbeats 1000000
namespace En
open PySem
theorem sok_iff {x : Str} : PyData.strOk x = true ↔ ∀ c ∈ x.cps.toList, c < 0x110000 := by
  unfold PyData.strOk
  rw [Array.all_eq_true_iff_forall_mem]
  simp only [decide_eq_true_eq, Array.mem_def]
theorem cps_app (a b : Str) : (a ++ b).cps.toList = a.cps.toList ++ b.cps.toList := by
  show (a.cps ++ b.cps).toList = _
  simp
theorem len_app (a b : Str) : (a ++ b).length = a.length + b.length := by
  show (a.cps ++ b.cps).size = _
  simp [Str.length]
theorem sok_app {a b : Str} (ha : PyData.strOk a = true) (hb : PyData.strOk b = true) : PyData.strOk (a ++ b) = true := by
  rw [sok_iff] at *
  intro c hc
  rw [cps_app] at hc
  rcases List.mem_append.mp hc with h | h
  · exact ha c h
  · exact hb c h
theorem sok_ofString (s : String) : PyData.strOk (Str.ofString s) = true := by
  rw [sok_iff]
  intro c hc
  have e : (Str.ofString s).cps.toList = s.toList.map Char.toNat := by
    unfold Str.ofString
    simp only [cpsOfBytes_string]
  rw [e] at hc
  obtain ⟨ch, _, rfl⟩ := List.mem_map.mp hc
  have h := ch.valid
  have ht : ch.toNat = ch.val.toNat := rfl
  simp only [UInt32.isValidChar, Nat.isValidChar] at h
  omega
/-- data whose repr is told, of at most m signs and depth k -/
structure Rp (k m : Nat) (d : D) : Prop where
  lay : d.py.canLay0 = true
  sh : d.py.showable = true
  dep : d.py.depth ≤ k
  len : d.py.shown.length ≤ m
  ok : PyData.strOk d.py.shown = true
theorem Rp.up {k k' m m' : Nat} {d : D} (h : Rp k m d) (hk : k ≤ k') (hm : m ≤ m') : Rp k' m' d := ⟨h.lay, h.sh, Nat.le_trans h.dep hk, Nat.le_trans h.len hm, h.ok⟩
theorem Rp.flat {k m : Nat} {d : D} (h : Rp k m d) : Flat k d := ⟨h.lay, h.dep⟩
theorem log_le10 {i : Int} {k : Nat} (h : i.natAbs < 10 ^ k) (hk : k ≤ 400) : i.natAbs.log2 < 1920 := by
  by_cases z : i.natAbs = 0
  · rw [z]; simp
  · refine (Nat.log2_lt z).mpr (Nat.lt_of_lt_of_le h ?_)
    refine Nat.le_trans (Nat.pow_le_pow_right (by decide) hk) ?_
    decide +kernel
theorem len_ofString (s : String) : (Str.ofString s).length = s.length := by
  have e : (Str.ofString s).cps.toList = s.toList.map Char.toNat := by
    unfold Str.ofString
    simp only [cpsOfBytes_string]
  show (Str.ofString s).cps.size = _
  rw [← Array.length_toList, e, List.length_map]
  exact String.length_toList
theorem rp_int {i : Int} {k : Nat} (hk : 0 < k) (h : i.natAbs < 10 ^ k) (h4 : k ≤ 400) : Rp 0 (k + 1) (.int i) := by
  refine ⟨by simp only [D.py, PyData.canLay0], by simp only [D.py, PyData.showable, decide_eq_true_eq]; exact log_le10 h h4, by simp only [D.py, PyData.depth]; omega, ?_, ?_⟩
  · simp only [D.py, PyData.shown]
    show (Str.ofString (toString i)).length ≤ _
    rw [len_ofString]
    exact int_text_length_le10 hk h
  · simp only [D.py, PyData.shown]
    exact sok_ofString _
theorem rp_non : Rp 0 4 .non := ⟨by simp only [D.py, PyData.canLay0], by simp only [D.py, PyData.showable], by simp only [D.py, PyData.depth]; omega, by simp only [D.py, PyData.shown]; decide +kernel, by simp only [D.py, PyData.shown]; decide +kernel⟩
theorem rp_bl (b : Bool) : Rp 0 5 (.bl b) := by
  refine ⟨by simp only [D.py, PyData.canLay0], by simp only [D.py, PyData.showable], by simp only [D.py, PyData.depth]; omega, ?_, ?_⟩
  · cases b <;> simp only [D.py, PyData.shown] <;> decide +kernel
  · cases b <;> simp only [D.py, PyData.shown] <;> decide +kernel
theorem rp_str {x : Str} {m : Nat} (h1 : PyData.strOk x = true) (h2 : (reprText x).length ≤ m) (h3 : PyData.strOk (reprText x) = true) : Rp 0 m (.str x) :=
  ⟨by simp only [D.py, PyData.canLay0]; exact h1, by simp only [D.py, PyData.showable], by simp only [D.py, PyData.depth]; omega, by simp only [D.py, PyData.shown]; exact h2, by simp only [D.py, PyData.shown]; exact h3⟩
theorem shAll : ∀ {xs : List PyData}, (∀ x ∈ xs, x.showable = true) → PyData.showableAll xs = true
  | [], _ => by simp only [PyData.showableAll]
  | x :: r, h => by simp only [PyData.showableAll, h x (List.mem_cons_self ..), shAll (xs := r) (fun y hy => h y (List.mem_cons_of_mem _ hy)), Bool.and_self]
theorem join_ok : ∀ {ts : List Str}, (∀ t ∈ ts, PyData.strOk t = true) → PyData.strOk (Str.join ", " ts) = true
  | [], _ => by decide +kernel
  | [x], h => h x (List.mem_cons_self ..)
  | x :: y :: r, h => by
    have ih := join_ok (ts := y :: r) fun t ht => h t (List.mem_cons_of_mem _ ht)
    exact sok_app (sok_app (h x (List.mem_cons_self ..)) (by decide +kernel)) ih
theorem join_le {m : Nat} : ∀ {ts : List Str}, (∀ t ∈ ts, t.length ≤ m) → (Str.join ", " ts).length ≤ ts.length * (m + 2)
  | [], _ => by show (0 : Nat) ≤ _; omega
  | [x], h => by
    have := h x (List.mem_cons_self ..)
    show x.length ≤ 1 * (m + 2)
    omega
  | x :: y :: r, h => by
    have ih := join_le (m := m) (ts := y :: r) fun t ht => h t (List.mem_cons_of_mem _ ht)
    have h0 := h x (List.mem_cons_self ..)
    show (x ++ ", " ++ Str.join ", " (y :: r)).length ≤ _
    rw [len_app, len_app]
    have e2 : ((", " : String) : Str).length = 2 := rfl
    rw [e2]
    simp only [List.length_cons] at ih ⊢
    have : (r.length + 1 + 1) * (m + 2) = (r.length + 1) * (m + 2) + (m + 2) := by rw [Nat.add_mul]; omega
    omega
theorem shownAll_mem : ∀ {ds : List D} {t : Str}, t ∈ PyData.shownAll (D.pys ds) → ∃ d ∈ ds, t = d.py.shown
  | [], t, h => by simp only [D.pys, PyData.shownAll] at h; cases h
  | d :: r, t, h => by
    simp only [D.pys, PyData.shownAll] at h
    rcases List.mem_cons.mp h with e | h
    · exact ⟨d, List.mem_cons_self .., e⟩
    · obtain ⟨d', hd, e⟩ := shownAll_mem h
      exact ⟨d', List.mem_cons_of_mem _ hd, e⟩
theorem shownAll_len : ∀ ds : List D, (PyData.shownAll (D.pys ds)).length = ds.length
  | [] => by simp only [D.pys, PyData.shownAll, List.length_nil]
  | d :: r => by simp only [D.pys, PyData.shownAll, List.length_cons, shownAll_len r]
theorem rp_tup {k m n : Nat} {ds : List D} (h : ∀ d ∈ ds, Rp k m d) (hn : ds.length ≤ n) : Rp (k + 1) (n * (m + 2) + 3) (.tup ds) := by
  have f := flat_tup (n := k) (ds := ds) fun d hd => (h d hd).flat
  have hj : (Str.join ", " (PyData.shownAll (D.pys ds))).length ≤ n * (m + 2) := by
    refine Nat.le_trans (join_le (m := m) fun t ht => ?_) ?_
    · obtain ⟨d, hd, rfl⟩ := shownAll_mem ht
      exact (h d hd).len
    · rw [shownAll_len]; exact Nat.mul_le_mul_right _ hn
  refine ⟨f.1, ?_, f.2, ?_, ?_⟩
  · simp only [D.py, PyData.showable]
    exact shAll (pys_all (P := fun x => x.showable = true) fun d hd => (h d hd).sh)
  · simp only [D.py, PyData.shown]
    unfold tupleText
    rw [len_app, len_app]
    have e1 : ((")" : String) : Str).length = 1 := rfl
    have e0 : (("(" : String) : Str).length = 1 := rfl
    have e2 : ((",)" : String) : Str).length = 2 := rfl
    rw [e0]
    split
    · rw [e2]; omega
    · rw [e1]; omega
  · simp only [D.py, PyData.shown]
    unfold tupleText
    refine sok_app (sok_app (by decide +kernel) (join_ok fun t ht => ?_)) ?_
    · obtain ⟨d, hd, rfl⟩ := shownAll_mem ht
      exact (h d hd).ok
    · split <;> decide +kernel
/-- repr is told -/
theorem repr_rp {k m : Nat} {d : D} (h : Rp k m d) (hk : k ≤ 32) (hm : m ≤ 16000000) (hd : match d with | .dic _ => False | .ro _ => False | .mref _ => False | _ => True) : bi .repr [d] = .ok (.str d.py.shown) := by
  have h1 : decide (d.py.depth ≤ 32) = true := decide_eq_true (Nat.le_trans h.dep hk)
  have h2 : decide (d.py.shown.length ≤ LIM) = true := decide_eq_true (by have := h.len; rw [LIM_val]; omega)
  cases d with
  | dic _ => exact hd.elim
  | ro _ => exact hd.elim
  | mref _ => exact hd.elim
  | _ => simp only [bi, h.lay, h.sh, h1, h2, Bool.and_self, if_true]
theorem ne_shown {k m : Nat} {d : D} (h : Rp k m d) : cop .ne (.str d.py.shown) (.str d.py.shown) = .ok false := ne_self (flat_str h.ok) (by omega)
theorem eq_shown {k m : Nat} {d : D} (h : Rp k m d) : cop .eq (.str d.py.shown) (.str d.py.shown) = .ok true := eq_self (flat_str h.ok) (by omega)
end En

set_option Elab.async false
set_option linter.all false
set_option maxRecDepth 100000
set_option maxHeartbeats 1000000
namespace En
open PySem
section
variable {Γ : Fns} {C : Nat → Option D} {env : Env} {st st1 st2 st3 : Sto} {o k x : CE} {kvs : List (L2.Key × D)} {t : Str} {xd : D}
theorem ev_dget (h1 : evE Γ C o env st = .ok (.dic kvs, st1)) (h2 : evE Γ C k env st1 = .ok (.str t, st2)) (h3 : evE Γ C x env st2 = .ok (xd, st3)) : evE Γ C (.dget o k (some x)) env st = .ok ((dget kvs (.inr t)).getD xd, st3) := by
  have e : evO Γ C (some x) env st2 = .ok (some xd, st3) := by rw [evO, h3]; rfl
  rw [x_dget, h1, rb]
  show ((asDic (.dic kvs)).bind fun _ => _) = _
  show ((evE Γ C k env st1).bind _) = _
  rw [h2, rb]
  show ((evO Γ C (some x) env st2).bind _) = _
  rw [e, rb]
  rfl
end
theorem ev_bin {Γ : Fns} {C : Nat → Option D} {env : Env} {st st1 st2 : Sto} {op : BOp} {a b : CE} {x y d : D} (h1 : evE Γ C a env st = .ok (x, st1)) (h2 : evE Γ C b env st1 = .ok (y, st2)) (h3 : bop op (snap st2 x) (snap st2 y) = .ok d) : evE Γ C (.bin op a b) env st = .ok (d, st2) := by
  rw [x_bin, h1, rb]
  show ((evE Γ C b env st1).bind _) = _
  rw [h2, rb]
  show ((bop op (snap st2 x) (snap st2 y)).bind _) = _
  rw [h3, rb]
theorem a_name (i : Nat) (d : D) (env : Env) : asgT (.name i) d env = some (env.set i (some d)) := rfl
theorem a_tup (ts : List Tg) (ds : List D) (env : Env) : asgT (.tup ts) (.tup ds) env = asgTs ts ds env := rfl
theorem as_nil (env : Env) : asgTs [] [] env = some env := rfl
theorem as_cons (t : Tg) (ts : List Tg) (d : D) (ds : List D) (env : Env) : asgTs (t :: ts) (d :: ds) env = match asgT t d env with
    | some env1 => asgTs ts ds env1
    | none => none := rfl
end En

set_option Elab.async false
set_option maxRecDepth 100000
set_option maxHeartbeats 4000000
namespace K10
open PySem En
abbrev gCon (x : Str) (i : Nat) : Str × GK := (x, .con i)
abbrev gFn (x : Str) (i np nd : Nat) : Str × GK := (x, .fn i np nd)
abbrev gD (x : Str) (d : D) : Str × D := (x, d)
def topS (i : Nat) : Stmt := PySem.Challenge.pw_enoughhands_k10_whole_levels_and_least_s.main.body.getD i (.Pass ⟨0, 0, 0, 0⟩)
def cons : List (Str × D) := [gD "SIGNS" (.str "abcdefghijklmnopqrstuvwxyz"), gD "MOST_SIGNS" (.int 8), gD "MOST_ROWS" (.int 16), gD "MOST_NEED" (.int 9999), gD "MOST_STOCK" (.int 99999), gD "TRIPLE" (.int 3), gD "IDLE" (.tup [(.int 0), (.int 0)])]
def G : List (Str × GK) := [gCon "SIGNS" 0, gCon "MOST_SIGNS" 1, gCon "MOST_ROWS" 2, gCon "MOST_NEED" 3, gCon "MOST_STOCK" 4, gCon "TRIPLE" 5, gCon "IDLE" 6, gFn "is_integer" 0 3 2, gFn "is_tuple" 1 3 2, gFn "is_name" 2 1 0, gFn "are_unlike" 3 1 0, gFn "do_ascend" 4 1 0, gFn "are_names" 5 1 0, gFn "is_row" 6 1 0, gFn "check_trade" 7 1 0, gFn "check_stock" 8 1 0, gFn "check_tasks" 9 1 0, gFn "steps_table" 10 1 0, gFn "steps_of" 11 2 0, gFn "levels_by" 12 2 0, gFn "least_by" 13 1 0, gFn "net_by" 14 1 0, gFn "levels" 15 3 0, gFn "least" 16 2 0, gFn "net" 17 2 0, gFn "told_back" 18 1 0, gFn "_law_pot" 19 2 0, gFn "_law_take" 20 2 0, gFn "_law_of" 21 2 0, gFn "_law_some" 22 3 0, gFn "_law_cells" 23 2 0, gFn "_law_names" 24 2 0, gFn "_law_trade" 25 3 0, gFn "_law_trade_told" 26 1 0, gFn "_law_levels" 27 3 0, gFn "_law_least" 28 2 0, gFn "_law_back" 29 1 0, gFn "_law_right" 30 1 0, gFn "law" 31 1 0]
/-- is_integer -/
def f0 : Fn := ⟨3, 3, [.non, .non], false, [.ite (.or [(.not (.bi .isInt [(.var 0)])), (.bi .isBool [(.var 0)])]) [.ret (.lit (.bl false))] [],
  .ret (.and [(.or [(.cmp .isNone (.var 1) (.lit .non)), (.cmp .ge (.var 0) (.var 1))]), (.or [(.cmp .isNone (.var 2) (.lit .non)), (.cmp .le (.var 0) (.var 2))])])]⟩
def r0 : Row := ⟨"is_integer", topS 8, f0, ["value", "low", "high"], ["value", "low", "high"], [], []⟩
/-- is_tuple -/
def f1 : Fn := ⟨3, 3, [(.int 0), .non], false, [.ret (.and [(.bi .isTuple [(.var 0)]), (.cmp .ge (.bi .len [(.var 0)]) (.var 1)), (.or [(.cmp .isNone (.var 2) (.lit .non)), (.cmp .le (.bi .len [(.var 0)]) (.var 2))])])]⟩
def r1 : Row := ⟨"is_tuple", topS 9, f1, ["value", "least", "most"], ["value", "least", "most"], [], []⟩
/-- is_name -/
def f2 : Fn := ⟨1, 2, [], false, [.ret (.and [(.bi .isStr [(.var 0)]), (.chain .le .le (.lit (.int 1)) (.bi .len [(.var 0)]) (.glob 1)), (.bi .all [(.comp (.name 1) (.seq (.var 0)) none (.cmp .isin (.var 1) (.glob 0)) [1])])])]⟩
def r2 : Row := ⟨"is_name", topS 10, f2, ["value", "sign"], ["value"], [], []⟩
/-- are_unlike -/
def f3 : Fn := ⟨1, 3, [], false, [.ret (.bi .all [(.comp (.tup [(.name 1), (.name 2)]) (.enum (.var 0)) none (.cmp .notin (.var 2) (.slc (.var 0) none (some (.var 1)))) [1, 2])])]⟩
def r3 : Row := ⟨"are_unlike", topS 11, f3, ["some", "at", "one"], ["some"], [], []⟩
/-- do_ascend -/
def f4 : Fn := ⟨1, 3, [], false, [.ret (.bi .all [(.comp (.tup [(.name 1), (.name 2)]) (.zip (.var 0) (.slc (.var 0) (some (.lit (.int 1))) none)) none (.cmp .lt (.var 1) (.var 2)) [1, 2])])]⟩
def r4 : Row := ⟨"do_ascend", topS 12, f4, ["some", "one", "other"], ["some"], [], []⟩
/-- are_names -/
def f5 : Fn := ⟨1, 2, [], false, [.ret (.and [(.call 1 [(.var 0)]), (.bi .all [(.comp (.name 1) (.seq (.var 0)) none (.call 2 [(.var 1)]) [1])]), (.call 3 [(.var 0)])])]⟩
def r5 : Row := ⟨"are_names", topS 13, f5, ["value", "name"], ["value"], [], []⟩
/-- is_row -/
def f6 : Fn := ⟨1, 1, [], false, [.ite (.or [(.not (.call 1 [(.var 0), (.glob 5), (.glob 5)])), (.not (.call 2 [(.idx (.var 0) (.lit (.int 0)))])), (.not (.call 0 [(.idx (.var 0) (.lit (.int 1))), (.lit (.int 0)), (.glob 3)]))]) [.ret (.lit (.bl false))] [],
  .ret (.and [(.call 0 [(.idx (.var 0) (.neg (.lit (.int 1)))), (.neg (.glob 3)), (.glob 3)]), (.chain .le .le (.lit (.int 0)) (.bin .add (.idx (.var 0) (.lit (.int 1))) (.idx (.var 0) (.neg (.lit (.int 1))))) (.glob 3))])]⟩
def r6 : Row := ⟨"is_row", topS 20, f6, ["value"], ["value"], [], []⟩
/-- check_trade -/
def f7 : Fn := ⟨1, 2, [], false, [.ite (.or [(.not (.call 1 [(.var 0), (.lit (.int 0)), (.glob 2)])), (.not (.bi .all [(.comp (.name 1) (.seq (.var 0)) none (.call 6 [(.var 1)]) [1])]))]) [.never] [],
  .ite (.not (.call 4 [(.comp (.name 1) (.seq (.var 0)) none (.idx (.var 1) (.lit (.int 0))) [1])])) [.never] []]⟩
def r7 : Row := ⟨"check_trade", topS 21, f7, ["value", "row"], ["value"], [], []⟩
/-- check_stock -/
def f8 : Fn := ⟨1, 1, [], false, [.ite (.not (.call 0 [(.var 0), (.lit (.int 0)), (.glob 4)])) [.never] []]⟩
def r8 : Row := ⟨"check_stock", topS 22, f8, ["value"], ["value"], [], []⟩
/-- check_tasks -/
def f9 : Fn := ⟨1, 1, [], false, [.ite (.not (.call 5 [(.var 0)])) [.never] []]⟩
def r9 : Row := ⟨"check_tasks", topS 23, f9, ["value"], ["value"], [], []⟩
/-- steps_table -/
def f10 : Fn := ⟨1, 4, [], false, [.ret (.dcomp (.tup [(.name 1), (.name 2), (.name 3)]) (.seq (.var 0)) none (.var 1) (.tup [(.var 2), (.var 3)]) [1, 2, 3])]⟩
def r10 : Row := ⟨"steps_table", topS 24, f10, ["trade", "task", "need", "more"], ["trade"], [], []⟩
/-- steps_of -/
def f11 : Fn := ⟨2, 3, [], false, [.ret (.bi .tuple [(.comp (.name 2) (.seq (.var 1)) none (.dget (.var 0) (.var 2) (some (.glob 6))) [2])])]⟩
def r11 : Row := ⟨"steps_of", topS 25, f11, ["table", "tasks", "task"], ["table", "tasks"], [], []⟩
/-- levels_by -/
def f12 : Fn := ⟨2, 5, [], false, [.asg (.name 2) (.lstM [(.var 1)]),
  .for_ (.tup [(.name 3), (.name 4)]) (.seq (.var 0)) [.ite (.cmp .lt (.idx (.var 2) (.neg (.lit (.int 1)))) (.var 3)) [.brk] [], .ex (.append (.var 2) (.bin .add (.idx (.var 2) (.neg (.lit (.int 1)))) (.var 4)))],
  .ret (.bi .tuple [(.var 2)])]⟩
def r12 : Row := ⟨"levels_by", topS 26, f12, ["steps", "stock", "found", "need", "more"], ["steps", "stock"], ["found"], []⟩
/-- least_by -/
def f13 : Fn := ⟨1, 5, [], false, [.asg (.tup [(.name 1), (.name 2)]) (.tup [(.lit (.int 0)), (.lit (.int 0))]),
  .for_ (.tup [(.name 3), (.name 4)]) (.seq (.var 0)) [.asg (.name 1) (.bi .max2 [(.var 1), (.bin .sub (.var 3) (.var 2))]), .aug 2 .add (.var 4)],
  .ret (.var 1)]⟩
def r13 : Row := ⟨"least_by", topS 27, f13, ["steps", "found", "come", "need", "more"], ["steps"], [], []⟩
/-- net_by -/
def f14 : Fn := ⟨1, 3, [], false, [.ret (.bi .sum [(.comp (.tup [(.name 1), (.name 2)]) (.seq (.var 0)) none (.var 2) [1, 2])])]⟩
def r14 : Row := ⟨"net_by", topS 28, f14, ["steps", "need", "more"], ["steps"], [], []⟩
/-- levels -/
def f15 : Fn := ⟨3, 3, [], false, [.ex (.call 7 [(.var 0)]),
  .ex (.call 8 [(.var 1)]),
  .ex (.call 9 [(.var 2)]),
  .ret (.call 12 [(.call 11 [(.call 10 [(.var 0)]), (.var 2)]), (.var 1)])]⟩
def r15 : Row := ⟨"levels", topS 29, f15, ["trade", "stock", "tasks"], ["trade", "stock", "tasks"], [], []⟩
/-- least -/
def f16 : Fn := ⟨2, 2, [], false, [.ex (.call 7 [(.var 0)]),
  .ex (.call 9 [(.var 1)]),
  .ret (.call 13 [(.call 11 [(.call 10 [(.var 0)]), (.var 1)])])]⟩
def r16 : Row := ⟨"least", topS 30, f16, ["trade", "tasks"], ["trade", "tasks"], [], []⟩
/-- net -/
def f17 : Fn := ⟨2, 2, [], false, [.ex (.call 7 [(.var 0)]),
  .ex (.call 9 [(.var 1)]),
  .ret (.call 14 [(.call 11 [(.call 10 [(.var 0)]), (.var 1)])])]⟩
def r17 : Row := ⟨"net", topS 31, f17, ["trade", "tasks"], ["trade", "tasks"], [], []⟩
/-- told_back -/
def f18 : Fn := ⟨1, 4, [], false, [.ex (.call 7 [(.var 0)]),
  .ret (.bi .tuple [(.comp (.tup [(.name 1), (.name 2), (.name 3)]) (.seq (.var 0)) none (.tup [(.var 1), (.bin .add (.var 2) (.var 3)), (.neg (.var 3))]) [1, 2, 3])])]⟩
def r18 : Row := ⟨"told_back", topS 32, f18, ["trade", "task", "need", "more"], ["trade"], [], []⟩
/-- _law_pot -/
def f19 : Fn := ⟨2, 5, [], true, [.asg (.name 2) (.ite (.cmp .lt (.var 1) (.bi .len [(.var 0)])) (.idx (.var 0) (.var 1)) (.bin .add (.bin .mul (.lit (.int 243)) (.var 1)) (.lit (.int 97)))),
  .asg (.name 3) (.bin .mul (.bin .mod (.bi .int [(.bi .abs [(.var 2)])]) (.bin .pow (.bin .pow (.lit (.int 10)) (.lit (.int 60))) (.lit (.int 5)))) (.bi .int [(.cmp .ge (.bi .abs [(.var 2)]) (.bin .pow (.lit (.int 10)) (.lit (.int 18))))])),
  .asg (.name 4) (.bin .mod (.bi .int [(.var 2)]) (.lit (.int 2305843009213693951))),
  .ret (.lstM [(.var 3), (.bin .mod (.bi .int [(.bin .add (.bin .add (.bin .mul (.var 4) (.lit (.int 75329))) (.bin .mul (.bin .mul (.lit (.int 7877)) (.var 1)) (.var 1))) (.lit (.int 183)))]) (.lit (.int 2305843009213693921))), (.lit (.int 0))])]⟩
def r19 : Row := ⟨"_law_pot", topS 34, f19, ["_law_script", "_law_place", "_law_cell", "_law_own", "_law_small"], ["_law_script", "_law_place"], [], []⟩
/-- _law_take -/
def f20 : Fn := ⟨2, 5, [], false, [.ite (.cmp .gt (.idx (.var 0) (.lit (.int 0))) (.lit (.int 0))) [.asg (.name 4) (.bin .mod (.bi .int [(.idx (.var 0) (.lit (.int 0)))]) (.var 1)), .setix (.var 0) (.lit (.int 0)) (.bin .fdiv (.idx (.var 0) (.lit (.int 0))) (.var 1)), .ret (.var 4)] [],
  .setix (.var 0) (.lit (.int 2)) (.bin .add (.idx (.var 0) (.lit (.int 2))) (.lit (.int 1))),
  .asg (.name 2) (.idx (.lst [(.lit (.int 2147483647)), (.lit (.int 2147483629)), (.lit (.int 2147483587)), (.lit (.int 2147483579)), (.lit (.int 2147483563))]) (.bin .mod (.bi .int [(.idx (.var 0) (.lit (.int 2)))]) (.lit (.int 5)))),
  .asg (.name 3) (.bin .mod (.bi .int [(.bin .pow (.bi .int [(.bin .add (.bin .add (.idx (.var 0) (.lit (.int 1))) (.bin .mul (.bin .mul (.lit (.int 98041)) (.idx (.var 0) (.lit (.int 2)))) (.idx (.var 0) (.lit (.int 2))))) (.lit (.int 99)))]) (.lit (.int 3)))]) (.var 2)),
  .asg (.name 3) (.bin .mod (.bi .int [(.bin .mul (.var 3) (.bin .add (.bin .mod (.bi .int [(.var 3)]) (.lit (.int 10273))) (.bin .mul (.lit (.int 197)) (.idx (.var 0) (.lit (.int 2))))))]) (.lit (.int 2305843009213693907))),
  .ret (.bin .mod (.bi .int [(.bin .fdiv (.var 3) (.lit (.int 151)))]) (.var 1))]⟩
def r20 : Row := ⟨"_law_take", topS 35, f20, ["_law_pot_here", "_law_upto", "_law_prime", "_law_blend", "_law_digit"], ["_law_pot_here", "_law_upto"], [], []⟩
/-- _law_of -/
def f21 : Fn := ⟨2, 2, [], false, [.ret (.idx (.var 1) (.call 20 [(.var 0), (.bi .len [(.var 1)])]))]⟩
def r21 : Row := ⟨"_law_of", topS 36, f21, ["_law_pot_here", "_law_some_here"], ["_law_pot_here", "_law_some_here"], [], []⟩
/-- _law_some -/
def f22 : Fn := ⟨3, 6, [], false, [.par [4, 5] [(.copyM (.var 1)), (.lstM [])],
  .for_ (.name 3) (.range1 (.var 2)) [.ex (.append (.var 5) (.popAt (.var 4) (.call 20 [(.var 0), (.bi .len [(.var 4)])])))],
  .ret (.var 5)]⟩
def r22 : Row := ⟨"_law_some", topS 37, f22, ["_law_pot_here", "_law_pool", "_law_amount", "_law_lap", "_law_left", "_law_found"], ["_law_pot_here", "_law_pool", "_law_amount"], ["_law_found", "_law_left"], []⟩
/-- _law_cells -/
def f23 : Fn := ⟨2, 2, [], false, [.ret (.rng1 false (.bi .max2 [(.lit (.int 1)), (.bi .min2 [(.var 1), (.bi .len [(.var 0)])])]))]⟩
def r23 : Row := ⟨"_law_cells", topS 38, f23, ["_law_script", "_law_limit"], ["_law_script", "_law_limit"], [], []⟩
/-- _law_names -/
def f24 : Fn := ⟨2, 3, [], false, [.asg (.name 2) (.lst [(.lit (.str "a")), (.lit (.str "b")), (.lit (.str "c")), (.lit (.str "d")), (.lit (.str "task")), (.lit (.str "may")), (.lit (.str "few")), (.lit (.str "do")), (.lit (.str "go")), (.lit (.str "x")), (.lit (.str "zzzzzzzz")), (.lit (.str "same")), (.lit (.str "bench")), (.lit (.str "stock"))]),
  .ret (.call 22 [(.var 0), (.bin .add (.var 2) (.lst [(.lit (.str "plan")), (.lit (.str "m"))])), (.var 1)])]⟩
def r24 : Row := ⟨"_law_names", topS 39, f24, ["_law_pot_here", "_law_amount", "_law_pool"], ["_law_pot_here", "_law_amount"], [], []⟩
/-- _law_trade -/
def f25 : Fn := ⟨3, 7, [], false, [.asg (.name 3) .dnew,
  .for_ (.name 4) (.seq (.var 1)) [.ite (.cmp .gt (.call 20 [(.var 0), (.lit (.int 6))]) (.lit (.int 0))) [.asg (.name 5) (.call 21 [(.var 0), (.lst [(.lit (.int 0)), (.lit (.int 1)), (.lit (.int 2)), (.call 20 [(.var 0), (.bin .add (.var 2) (.lit (.int 1)))])])]), .asg (.name 6) (.lst [(.neg (.var 5)), (.lit (.int 0)), (.lit (.int 1)), (.lit (.int 2)), (.call 20 [(.var 0), (.bin .add (.var 2) (.lit (.int 1)))]), (.bin .sub (.call 20 [(.var 0), (.bin .add (.var 5) (.lit (.int 1)))]) (.var 5))]), .setix (.var 3) (.var 4) (.tup [(.var 5), (.call 21 [(.var 0), (.var 6)])])] []],
  .ret (.var 3)]⟩
def r25 : Row := ⟨"_law_trade", topS 40, f25, ["_law_pot_here", "_law_tasks", "_law_great", "_law_found", "_law_task", "_law_need", "_law_some_here"], ["_law_pot_here", "_law_tasks", "_law_great"], ["_law_found"], []⟩
/-- _law_trade_told -/
def f26 : Fn := ⟨1, 2, [], false, [.ret (.bi .tuple [(.comp (.name 1) (.seq (.bi .sorted [(.var 0)])) none (.bin .add (.tup [(.var 1)]) (.idx (.var 0) (.var 1))) [1])])]⟩
def r26 : Row := ⟨"_law_trade_told", topS 41, f26, ["_law_trade_here", "_law_task"], ["_law_trade_here"], [], []⟩
/-- _law_levels -/
def f27 : Fn := ⟨3, 7, [], false, [.asg (.name 3) (.lstM [(.var 1)]),
  .for_ (.name 4) (.seq (.var 2)) [.asg (.tup [(.name 5), (.name 6)]) (.dget (.var 0) (.var 4) (some (.tup [(.lit (.int 0)), (.lit (.int 0))]))), .ite (.and [(.cmp .gt (.bi .len [(.var 3)]) (.lit (.int 0))), (.cmp .lt (.idx (.var 3) (.neg (.lit (.int 1)))) (.var 5))]) [.ret (.bi .tuple [(.var 3)])] [], .ex (.append (.var 3) (.bin .add (.idx (.var 3) (.neg (.lit (.int 1)))) (.var 6)))],
  .ret (.bi .tuple [(.var 3)])]⟩
def r27 : Row := ⟨"_law_levels", topS 42, f27, ["_law_trade_here", "_law_stock", "_law_tasks", "_law_found", "_law_task", "_law_need", "_law_gain"], ["_law_trade_here", "_law_stock", "_law_tasks"], ["_law_found"], []⟩
/-- _law_least -/
def f28 : Fn := ⟨2, 7, [], false, [.asg (.tup [(.name 3), (.name 4)]) (.tup [(.lit (.int 0)), (.lit (.int 0))]),
  .for_ (.name 2) (.seq (.var 1)) [.asg (.tup [(.name 5), (.name 6)]) (.dget (.var 0) (.var 2) (some (.tup [(.lit (.int 0)), (.lit (.int 0))]))), .par [3, 4] [(.bi .max2 [(.var 3), (.bin .sub (.var 5) (.var 4))]), (.bin .add (.var 4) (.var 6))]],
  .ret (.var 3)]⟩
def r28 : Row := ⟨"_law_least", topS 43, f28, ["_law_trade_here", "_law_tasks", "_law_task", "_law_low_end", "_law_gone", "_law_need", "_law_gain"], ["_law_trade_here", "_law_tasks"], [], []⟩
/-- _law_back -/
def f29 : Fn := ⟨1, 4, [], false, [.ret (.bi .dict [(.comp (.tup [(.name 1), (.tup [(.name 2), (.name 3)])]) (.items (.var 0)) none (.tup [(.var 1), (.tup [(.bin .add (.var 2) (.var 3)), (.neg (.var 3))])]) [1, 2, 3])])]⟩
def r29 : Row := ⟨"_law_back", topS 44, f29, ["_law_trade_here", "_law_task", "_law_need", "_law_gain"], ["_law_trade_here"], [], []⟩
/-- _law_right -/
def f30 : Fn := ⟨1, 10, [], false, [.asg (.name 1) (.call 24 [(.var 0), (.lit (.int 16))]),
  .asg (.name 2) (.call 25 [(.var 0), (.var 1), (.call 21 [(.var 0), (.lst [(.lit (.int 3)), (.lit (.int 60)), (.lit (.int 9999))])])]),
  .asg (.name 2) (.bi .dict [(.comp (.tup [(.name 9), (.name 8)]) (.items (.var 2)) (some (.cmp .lt (.bin .add (.idx (.var 8) (.lit (.int 0))) (.idx (.var 8) (.lit (.int 1)))) (.lit (.int 10000)))) (.tup [(.var 9), (.var 8)]) [9, 8])]),
  .asg (.name 3) (.call 26 [(.var 2)]),
  .asg (.name 4) (.bi .tuple [(.call 22 [(.var 0), (.var 1), (.call 20 [(.var 0), (.lit (.int 11))])])]),
  .par [6, 7] [(.call 28 [(.var 2), (.var 4)]), (.bi .sum [(.comp (.name 9) (.seq (.var 4)) none (.idx (.dget (.var 2) (.var 9) (some (.tup [(.lit (.int 0)), (.lit (.int 0))]))) (.lit (.int 1))) [9])])],
  .ite (.cmp .ne (.bi .repr [(.tup [(.call 16 [(.var 3), (.var 4)]), (.call 17 [(.var 3), (.var 4)])])]) (.bi .repr [(.tup [(.var 6), (.var 7)])])) [.ret (.lit (.bl false))] [],
  .ite (.or [(.cmp .ne (.bi .repr [(.call 18 [(.var 3)])]) (.bi .repr [(.call 26 [(.call 29 [(.var 2)])])])), (.cmp .ne (.call 18 [(.call 18 [(.var 3)])]) (.var 3))]) [.ret (.lit (.bl false))] [],
  .for_ (.name 5) (.seq (.lst [(.var 6), (.bin .add (.var 6) (.lit (.int 1))), (.bi .max2 [(.lit (.int 0)), (.bin .sub (.var 6) (.lit (.int 1)))]), (.lit (.int 0)), (.lit (.int 99999)), (.bin .add (.var 6) (.call 20 [(.var 0), (.lit (.int 30))]))])) [.ite (.cmp .gt (.var 5) (.lit (.int 99999))) [.cont] [], .asg (.name 8) (.call 15 [(.var 3), (.var 5), (.var 4)]), .ite (.or [(.cmp .ne (.bi .repr [(.var 8)]) (.bi .repr [(.call 27 [(.var 2), (.var 5), (.var 4)])])), (.cmp .ne (.cmp .eq (.bi .len [(.var 8)]) (.bin .add (.bi .len [(.var 4)]) (.lit (.int 1)))) (.cmp .ge (.var 5) (.var 6)))]) [.ret (.lit (.bl false))] []],
  .ret (.and [(.cmp .eq (.call 16 [(.call 18 [(.var 3)]), (.rev (.var 4))]) (.bin .add (.var 6) (.var 7))), (.cmp .eq (.call 17 [(.call 18 [(.var 3)]), (.var 4)]) (.neg (.var 7)))])]⟩
def r30 : Row := ⟨"_law_right", topS 45, f30, ["_law_pot_here", "_law_names_here", "_law_trade_here", "_law_told", "_law_tasks", "_law_stock", "_law_due", "_law_gone", "_law_row", "_law_task"], ["_law_pot_here"], [], []⟩
/-- law -/
def f31 : Fn := ⟨1, 4, [], false, [.for_ (.name 1) (.seq (.call 23 [(.var 0), (.lit (.int 4))])) [.asg (.name 2) (.call 19 [(.var 0), (.var 1)]), .ite (.not (.bi .all [(.comp (.name 3) (.range1 (.lit (.int 8))) none (.call 30 [(.var 2)]) [3])])) [.ret (.lit (.bl false))] []],
  .ret (.lit (.bl true))]⟩
def r31 : Row := ⟨"law", topS 46, f31, ["_law_script", "_law_place", "_law_pot_here", "_law_lap"], ["_law_script"], [], []⟩
def rows : List Row := [r0, r1, r2, r3, r4, r5, r6, r7, r8, r9, r10, r11, r12, r13, r14, r15, r16, r17, r18, r19, r20, r21, r22, r23, r24, r25, r26, r27, r28, r29, r30, r31]
end K10

set_option Elab.async false
set_option maxRecDepth 100000
set_option maxHeartbeats 4000000
namespace K10
open PySem En L2 PyProof.Rows
theorem chk0 : RowChk G 60 r0 := ⟨rfl, ⟨rfl, rfl, rfl, by decide +kernel, rfl, by decide +kernel, by decide +kernel⟩, rfl, rfl⟩
theorem chk1 : RowChk G 60 r1 := ⟨rfl, ⟨rfl, rfl, rfl, by decide +kernel, rfl, by decide +kernel, by decide +kernel⟩, rfl, rfl⟩
theorem chk2 : RowChk G 60 r2 := ⟨rfl, ⟨rfl, rfl, rfl, by decide +kernel, rfl, by decide +kernel, by decide +kernel⟩, rfl, rfl⟩
theorem chk3 : RowChk G 60 r3 := ⟨rfl, ⟨rfl, rfl, rfl, by decide +kernel, rfl, by decide +kernel, by decide +kernel⟩, rfl, rfl⟩
theorem chk4 : RowChk G 60 r4 := ⟨rfl, ⟨rfl, rfl, rfl, by decide +kernel, rfl, by decide +kernel, by decide +kernel⟩, rfl, rfl⟩
theorem chk5 : RowChk G 60 r5 := ⟨rfl, ⟨rfl, rfl, rfl, by decide +kernel, rfl, by decide +kernel, by decide +kernel⟩, rfl, rfl⟩
theorem chk6 : RowChk G 60 r6 := ⟨rfl, ⟨rfl, rfl, rfl, by decide +kernel, rfl, by decide +kernel, by decide +kernel⟩, rfl, rfl⟩
theorem chk7 : RowChk G 60 r7 := ⟨rfl, ⟨rfl, rfl, rfl, by decide +kernel, rfl, by decide +kernel, by decide +kernel⟩, rfl, rfl⟩
theorem chk8 : RowChk G 60 r8 := ⟨rfl, ⟨rfl, rfl, rfl, by decide +kernel, rfl, by decide +kernel, by decide +kernel⟩, rfl, rfl⟩
theorem chk9 : RowChk G 60 r9 := ⟨rfl, ⟨rfl, rfl, rfl, by decide +kernel, rfl, by decide +kernel, by decide +kernel⟩, rfl, rfl⟩
theorem chk10 : RowChk G 60 r10 := ⟨rfl, ⟨rfl, rfl, rfl, by decide +kernel, rfl, by decide +kernel, by decide +kernel⟩, rfl, rfl⟩
theorem chk11 : RowChk G 60 r11 := ⟨rfl, ⟨rfl, rfl, rfl, by decide +kernel, rfl, by decide +kernel, by decide +kernel⟩, rfl, rfl⟩
theorem chk12 : RowChk G 60 r12 := ⟨rfl, ⟨rfl, rfl, rfl, by decide +kernel, rfl, by decide +kernel, by decide +kernel⟩, rfl, rfl⟩
theorem chk13 : RowChk G 60 r13 := ⟨rfl, ⟨rfl, rfl, rfl, by decide +kernel, rfl, by decide +kernel, by decide +kernel⟩, rfl, rfl⟩
theorem chk14 : RowChk G 60 r14 := ⟨rfl, ⟨rfl, rfl, rfl, by decide +kernel, rfl, by decide +kernel, by decide +kernel⟩, rfl, rfl⟩
theorem chk15 : RowChk G 60 r15 := ⟨rfl, ⟨rfl, rfl, rfl, by decide +kernel, rfl, by decide +kernel, by decide +kernel⟩, rfl, rfl⟩
theorem chk16 : RowChk G 60 r16 := ⟨rfl, ⟨rfl, rfl, rfl, by decide +kernel, rfl, by decide +kernel, by decide +kernel⟩, rfl, rfl⟩
theorem chk17 : RowChk G 60 r17 := ⟨rfl, ⟨rfl, rfl, rfl, by decide +kernel, rfl, by decide +kernel, by decide +kernel⟩, rfl, rfl⟩
theorem chk18 : RowChk G 60 r18 := ⟨rfl, ⟨rfl, rfl, rfl, by decide +kernel, rfl, by decide +kernel, by decide +kernel⟩, rfl, rfl⟩
theorem chk19 : RowChk G 60 r19 := ⟨rfl, ⟨rfl, rfl, rfl, by decide +kernel, rfl, by decide +kernel, by decide +kernel⟩, rfl, rfl⟩
theorem chk20 : RowChk G 60 r20 := ⟨rfl, ⟨rfl, rfl, rfl, by decide +kernel, rfl, by decide +kernel, by decide +kernel⟩, rfl, rfl⟩
theorem chk21 : RowChk G 60 r21 := ⟨rfl, ⟨rfl, rfl, rfl, by decide +kernel, rfl, by decide +kernel, by decide +kernel⟩, rfl, rfl⟩
theorem chk22 : RowChk G 60 r22 := ⟨rfl, ⟨rfl, rfl, rfl, by decide +kernel, rfl, by decide +kernel, by decide +kernel⟩, rfl, rfl⟩
theorem chk23 : RowChk G 60 r23 := ⟨rfl, ⟨rfl, rfl, rfl, by decide +kernel, rfl, by decide +kernel, by decide +kernel⟩, rfl, rfl⟩
theorem chk24 : RowChk G 60 r24 := ⟨rfl, ⟨rfl, rfl, rfl, by decide +kernel, rfl, by decide +kernel, by decide +kernel⟩, rfl, rfl⟩
theorem chk25 : RowChk G 60 r25 := ⟨rfl, ⟨rfl, rfl, rfl, by decide +kernel, rfl, by decide +kernel, by decide +kernel⟩, rfl, rfl⟩
theorem chk26 : RowChk G 60 r26 := ⟨rfl, ⟨rfl, rfl, rfl, by decide +kernel, rfl, by decide +kernel, by decide +kernel⟩, rfl, rfl⟩
theorem chk27 : RowChk G 60 r27 := ⟨rfl, ⟨rfl, rfl, rfl, by decide +kernel, rfl, by decide +kernel, by decide +kernel⟩, rfl, rfl⟩
theorem chk28 : RowChk G 60 r28 := ⟨rfl, ⟨rfl, rfl, rfl, by decide +kernel, rfl, by decide +kernel, by decide +kernel⟩, rfl, rfl⟩
theorem chk29 : RowChk G 60 r29 := ⟨rfl, ⟨rfl, rfl, rfl, by decide +kernel, rfl, by decide +kernel, by decide +kernel⟩, rfl, rfl⟩
theorem chk30 : RowChk G 60 r30 := ⟨rfl, ⟨rfl, rfl, rfl, by decide +kernel, rfl, by decide +kernel, by decide +kernel⟩, rfl, rfl⟩
theorem chk31 : RowChk G 60 r31 := ⟨rfl, ⟨rfl, rfl, rfl, by decide +kernel, rfl, by decide +kernel, by decide +kernel⟩, rfl, rfl⟩
theorem chks : En.AllP (RowChk G 60) rows := .cons chk0 (.cons chk1 (.cons chk2 (.cons chk3 (.cons chk4 (.cons chk5 (.cons chk6 (.cons chk7 (.cons chk8 (.cons chk9 (.cons chk10 (.cons chk11 (.cons chk12 (.cons chk13 (.cons chk14 (.cons chk15 (.cons chk16 (.cons chk17 (.cons chk18 (.cons chk19 (.cons chk20 (.cons chk21 (.cons chk22 (.cons chk23 (.cons chk24 (.cons chk25 (.cons chk26 (.cons chk27 (.cons chk28 (.cons chk29 (.cons chk30 (.cons chk31 (.nil))))))))))))))))))))))))))))))))
section
variable {K : PySem.W.Frag} {h : Heap} {mg : Str → Option Value}
theorem row0 {f T : Addr} {oc : Value} {od an od2 : Option Addr} {osl osl2 : Array (Option Value)} {kV doc pm cdv ct oc2 : Value} {nn : Nat} (X : K.In h) (Gm : h.Ns mainGlobals mg) (a : PySem.W.nsIn K mainGlobals "is_integer" = some (some (.ref f))) (l : K.lookup f = some ⟨oc, od, .func (PySem.W.fnOf "is_integer" "is_integer" (defArgs (topS 8)) (defBody (topS 8)) (defScope (topS 8)) (.ref T) kV doc pm an cdv ct), osl⟩) (c : PySem.W.codeIn K cdv "is_integer" = true) (kp : PySem.W.keepIn K (.ref f) = true) (lT : K.lookup T = some ⟨oc2, od2, .seq [Value.none, Value.none].toArray nn, osl2⟩) : ∃ f fd, RowOk K mg r0 f fd :=
  rowOkD (r := r0) (dvs := [.non, .non]) X Gm a l c kp lT rfl (.cons rfl (.cons rfl .nil)) (by simp) (fun as H => (.cons .non (.cons .non .nil))) rfl (fun m h1 h2 T kV doc pm an cdv ct us its e1 e2 => by
    have h1' : m ≤ 3 := h1; have h2' : 3 ≤ m + 2 := h2; have e2' : its.length = 2 := e2
    obtain ⟨i0, i1, rfl⟩ : ∃ i0 i1, its = [i0, i1] := by
      match its, e2' with | [y0, y1], _ => exact ⟨y0, y1, rfl⟩
    have hm : m = 1 ∨ m = 2 ∨ m = 3 := by omega
    rcases hm with rfl | rfl | rfl
    · match us, e1 with | [_], _ => exact ⟨_, rfl, rfl⟩
    · match us, e1 with | [_, _], _ => exact ⟨_, rfl, rfl⟩
    · match us, e1 with | [_, _, _], _ => exact ⟨_, rfl, rfl⟩)
theorem row1 {f T : Addr} {oc : Value} {od an od2 : Option Addr} {osl osl2 : Array (Option Value)} {kV doc pm cdv ct oc2 : Value} {nn : Nat} {t0 : Tok} (X : K.In h) (Gm : h.Ns mainGlobals mg) (a : PySem.W.nsIn K mainGlobals "is_tuple" = some (some (.ref f))) (l : K.lookup f = some ⟨oc, od, .func (PySem.W.fnOf "is_tuple" "is_tuple" (defArgs (topS 9)) (defBody (topS 9)) (defScope (topS 9)) (.ref T) kV doc pm an cdv ct), osl⟩) (c : PySem.W.codeIn K cdv "is_tuple" = true) (kp : PySem.W.keepIn K (.ref f) = true) (lT : K.lookup T = some ⟨oc2, od2, .seq [Value.int 0 t0, Value.none].toArray nn, osl2⟩) : ∃ f fd, RowOk K mg r1 f fd :=
  rowOkD (r := r1) (dvs := [.int 0, .non]) X Gm a l c kp lT rfl (.cons ⟨_, rfl⟩ (.cons rfl .nil)) (by simp) (fun as H => (.cons (.int _) (.cons .non .nil))) rfl (fun m h1 h2 T kV doc pm an cdv ct us its e1 e2 => by
    have h1' : m ≤ 3 := h1; have h2' : 3 ≤ m + 2 := h2; have e2' : its.length = 2 := e2
    obtain ⟨i0, i1, rfl⟩ : ∃ i0 i1, its = [i0, i1] := by
      match its, e2' with | [y0, y1], _ => exact ⟨y0, y1, rfl⟩
    have hm : m = 1 ∨ m = 2 ∨ m = 3 := by omega
    rcases hm with rfl | rfl | rfl
    · match us, e1 with | [_], _ => exact ⟨_, rfl, rfl⟩
    · match us, e1 with | [_, _], _ => exact ⟨_, rfl, rfl⟩
    · match us, e1 with | [_, _, _], _ => exact ⟨_, rfl, rfl⟩)
theorem row2 {f : Addr} {oc : Value} {od an : Option Addr} {osl : Array (Option Value)} {kV doc pm cdv ct : Value} (X : K.In h) (Gm : h.Ns mainGlobals mg) (a : PySem.W.nsIn K mainGlobals "is_name" = some (some (.ref f))) (l : K.lookup f = some ⟨oc, od, .func (PySem.W.fnOf "is_name" "is_name" (defArgs (topS 10)) (defBody (topS 10)) (defScope (topS 10)) .none kV doc pm an cdv ct), osl⟩) (c : PySem.W.codeIn K cdv "is_name" = true) (kp : PySem.W.keepIn K (.ref f) = true) : ∃ f fd, RowOk K mg r2 f fd :=
  rowOk0 (r := r2) X Gm a l c kp rfl rfl (fun _ _ _ _ _ _ us hl => match us, hl with | [_], _ => rfl)
theorem row3 {f : Addr} {oc : Value} {od an : Option Addr} {osl : Array (Option Value)} {kV doc pm cdv ct : Value} (X : K.In h) (Gm : h.Ns mainGlobals mg) (a : PySem.W.nsIn K mainGlobals "are_unlike" = some (some (.ref f))) (l : K.lookup f = some ⟨oc, od, .func (PySem.W.fnOf "are_unlike" "are_unlike" (defArgs (topS 11)) (defBody (topS 11)) (defScope (topS 11)) .none kV doc pm an cdv ct), osl⟩) (c : PySem.W.codeIn K cdv "are_unlike" = true) (kp : PySem.W.keepIn K (.ref f) = true) : ∃ f fd, RowOk K mg r3 f fd :=
  rowOk0 (r := r3) X Gm a l c kp rfl rfl (fun _ _ _ _ _ _ us hl => match us, hl with | [_], _ => rfl)
theorem row4 {f : Addr} {oc : Value} {od an : Option Addr} {osl : Array (Option Value)} {kV doc pm cdv ct : Value} (X : K.In h) (Gm : h.Ns mainGlobals mg) (a : PySem.W.nsIn K mainGlobals "do_ascend" = some (some (.ref f))) (l : K.lookup f = some ⟨oc, od, .func (PySem.W.fnOf "do_ascend" "do_ascend" (defArgs (topS 12)) (defBody (topS 12)) (defScope (topS 12)) .none kV doc pm an cdv ct), osl⟩) (c : PySem.W.codeIn K cdv "do_ascend" = true) (kp : PySem.W.keepIn K (.ref f) = true) : ∃ f fd, RowOk K mg r4 f fd :=
  rowOk0 (r := r4) X Gm a l c kp rfl rfl (fun _ _ _ _ _ _ us hl => match us, hl with | [_], _ => rfl)
theorem row5 {f : Addr} {oc : Value} {od an : Option Addr} {osl : Array (Option Value)} {kV doc pm cdv ct : Value} (X : K.In h) (Gm : h.Ns mainGlobals mg) (a : PySem.W.nsIn K mainGlobals "are_names" = some (some (.ref f))) (l : K.lookup f = some ⟨oc, od, .func (PySem.W.fnOf "are_names" "are_names" (defArgs (topS 13)) (defBody (topS 13)) (defScope (topS 13)) .none kV doc pm an cdv ct), osl⟩) (c : PySem.W.codeIn K cdv "are_names" = true) (kp : PySem.W.keepIn K (.ref f) = true) : ∃ f fd, RowOk K mg r5 f fd :=
  rowOk0 (r := r5) X Gm a l c kp rfl rfl (fun _ _ _ _ _ _ us hl => match us, hl with | [_], _ => rfl)
theorem row6 {f : Addr} {oc : Value} {od an : Option Addr} {osl : Array (Option Value)} {kV doc pm cdv ct : Value} (X : K.In h) (Gm : h.Ns mainGlobals mg) (a : PySem.W.nsIn K mainGlobals "is_row" = some (some (.ref f))) (l : K.lookup f = some ⟨oc, od, .func (PySem.W.fnOf "is_row" "is_row" (defArgs (topS 20)) (defBody (topS 20)) (defScope (topS 20)) .none kV doc pm an cdv ct), osl⟩) (c : PySem.W.codeIn K cdv "is_row" = true) (kp : PySem.W.keepIn K (.ref f) = true) : ∃ f fd, RowOk K mg r6 f fd :=
  rowOk0 (r := r6) X Gm a l c kp rfl rfl (fun _ _ _ _ _ _ us hl => match us, hl with | [_], _ => rfl)
theorem row7 {f : Addr} {oc : Value} {od an : Option Addr} {osl : Array (Option Value)} {kV doc pm cdv ct : Value} (X : K.In h) (Gm : h.Ns mainGlobals mg) (a : PySem.W.nsIn K mainGlobals "check_trade" = some (some (.ref f))) (l : K.lookup f = some ⟨oc, od, .func (PySem.W.fnOf "check_trade" "check_trade" (defArgs (topS 21)) (defBody (topS 21)) (defScope (topS 21)) .none kV doc pm an cdv ct), osl⟩) (c : PySem.W.codeIn K cdv "check_trade" = true) (kp : PySem.W.keepIn K (.ref f) = true) : ∃ f fd, RowOk K mg r7 f fd :=
  rowOk0 (r := r7) X Gm a l c kp rfl rfl (fun _ _ _ _ _ _ us hl => match us, hl with | [_], _ => rfl)
theorem row8 {f : Addr} {oc : Value} {od an : Option Addr} {osl : Array (Option Value)} {kV doc pm cdv ct : Value} (X : K.In h) (Gm : h.Ns mainGlobals mg) (a : PySem.W.nsIn K mainGlobals "check_stock" = some (some (.ref f))) (l : K.lookup f = some ⟨oc, od, .func (PySem.W.fnOf "check_stock" "check_stock" (defArgs (topS 22)) (defBody (topS 22)) (defScope (topS 22)) .none kV doc pm an cdv ct), osl⟩) (c : PySem.W.codeIn K cdv "check_stock" = true) (kp : PySem.W.keepIn K (.ref f) = true) : ∃ f fd, RowOk K mg r8 f fd :=
  rowOk0 (r := r8) X Gm a l c kp rfl rfl (fun _ _ _ _ _ _ us hl => match us, hl with | [_], _ => rfl)
theorem row9 {f : Addr} {oc : Value} {od an : Option Addr} {osl : Array (Option Value)} {kV doc pm cdv ct : Value} (X : K.In h) (Gm : h.Ns mainGlobals mg) (a : PySem.W.nsIn K mainGlobals "check_tasks" = some (some (.ref f))) (l : K.lookup f = some ⟨oc, od, .func (PySem.W.fnOf "check_tasks" "check_tasks" (defArgs (topS 23)) (defBody (topS 23)) (defScope (topS 23)) .none kV doc pm an cdv ct), osl⟩) (c : PySem.W.codeIn K cdv "check_tasks" = true) (kp : PySem.W.keepIn K (.ref f) = true) : ∃ f fd, RowOk K mg r9 f fd :=
  rowOk0 (r := r9) X Gm a l c kp rfl rfl (fun _ _ _ _ _ _ us hl => match us, hl with | [_], _ => rfl)
theorem row10 {f : Addr} {oc : Value} {od an : Option Addr} {osl : Array (Option Value)} {kV doc pm cdv ct : Value} (X : K.In h) (Gm : h.Ns mainGlobals mg) (a : PySem.W.nsIn K mainGlobals "steps_table" = some (some (.ref f))) (l : K.lookup f = some ⟨oc, od, .func (PySem.W.fnOf "steps_table" "steps_table" (defArgs (topS 24)) (defBody (topS 24)) (defScope (topS 24)) .none kV doc pm an cdv ct), osl⟩) (c : PySem.W.codeIn K cdv "steps_table" = true) (kp : PySem.W.keepIn K (.ref f) = true) : ∃ f fd, RowOk K mg r10 f fd :=
  rowOk0 (r := r10) X Gm a l c kp rfl rfl (fun _ _ _ _ _ _ us hl => match us, hl with | [_], _ => rfl)
theorem row11 {f : Addr} {oc : Value} {od an : Option Addr} {osl : Array (Option Value)} {kV doc pm cdv ct : Value} (X : K.In h) (Gm : h.Ns mainGlobals mg) (a : PySem.W.nsIn K mainGlobals "steps_of" = some (some (.ref f))) (l : K.lookup f = some ⟨oc, od, .func (PySem.W.fnOf "steps_of" "steps_of" (defArgs (topS 25)) (defBody (topS 25)) (defScope (topS 25)) .none kV doc pm an cdv ct), osl⟩) (c : PySem.W.codeIn K cdv "steps_of" = true) (kp : PySem.W.keepIn K (.ref f) = true) : ∃ f fd, RowOk K mg r11 f fd :=
  rowOk0 (r := r11) X Gm a l c kp rfl rfl (fun _ _ _ _ _ _ us hl => match us, hl with | [_, _], _ => rfl)
theorem row12 {f : Addr} {oc : Value} {od an : Option Addr} {osl : Array (Option Value)} {kV doc pm cdv ct : Value} (X : K.In h) (Gm : h.Ns mainGlobals mg) (a : PySem.W.nsIn K mainGlobals "levels_by" = some (some (.ref f))) (l : K.lookup f = some ⟨oc, od, .func (PySem.W.fnOf "levels_by" "levels_by" (defArgs (topS 26)) (defBody (topS 26)) (defScope (topS 26)) .none kV doc pm an cdv ct), osl⟩) (c : PySem.W.codeIn K cdv "levels_by" = true) (kp : PySem.W.keepIn K (.ref f) = true) : ∃ f fd, RowOk K mg r12 f fd :=
  rowOk0 (r := r12) X Gm a l c kp rfl rfl (fun _ _ _ _ _ _ us hl => match us, hl with | [_, _], _ => rfl)
theorem row13 {f : Addr} {oc : Value} {od an : Option Addr} {osl : Array (Option Value)} {kV doc pm cdv ct : Value} (X : K.In h) (Gm : h.Ns mainGlobals mg) (a : PySem.W.nsIn K mainGlobals "least_by" = some (some (.ref f))) (l : K.lookup f = some ⟨oc, od, .func (PySem.W.fnOf "least_by" "least_by" (defArgs (topS 27)) (defBody (topS 27)) (defScope (topS 27)) .none kV doc pm an cdv ct), osl⟩) (c : PySem.W.codeIn K cdv "least_by" = true) (kp : PySem.W.keepIn K (.ref f) = true) : ∃ f fd, RowOk K mg r13 f fd :=
  rowOk0 (r := r13) X Gm a l c kp rfl rfl (fun _ _ _ _ _ _ us hl => match us, hl with | [_], _ => rfl)
theorem row14 {f : Addr} {oc : Value} {od an : Option Addr} {osl : Array (Option Value)} {kV doc pm cdv ct : Value} (X : K.In h) (Gm : h.Ns mainGlobals mg) (a : PySem.W.nsIn K mainGlobals "net_by" = some (some (.ref f))) (l : K.lookup f = some ⟨oc, od, .func (PySem.W.fnOf "net_by" "net_by" (defArgs (topS 28)) (defBody (topS 28)) (defScope (topS 28)) .none kV doc pm an cdv ct), osl⟩) (c : PySem.W.codeIn K cdv "net_by" = true) (kp : PySem.W.keepIn K (.ref f) = true) : ∃ f fd, RowOk K mg r14 f fd :=
  rowOk0 (r := r14) X Gm a l c kp rfl rfl (fun _ _ _ _ _ _ us hl => match us, hl with | [_], _ => rfl)
theorem row15 {f : Addr} {oc : Value} {od an : Option Addr} {osl : Array (Option Value)} {kV doc pm cdv ct : Value} (X : K.In h) (Gm : h.Ns mainGlobals mg) (a : PySem.W.nsIn K mainGlobals "levels" = some (some (.ref f))) (l : K.lookup f = some ⟨oc, od, .func (PySem.W.fnOf "levels" "levels" (defArgs (topS 29)) (defBody (topS 29)) (defScope (topS 29)) .none kV doc pm an cdv ct), osl⟩) (c : PySem.W.codeIn K cdv "levels" = true) (kp : PySem.W.keepIn K (.ref f) = true) : ∃ f fd, RowOk K mg r15 f fd :=
  rowOk0 (r := r15) X Gm a l c kp rfl rfl (fun _ _ _ _ _ _ us hl => match us, hl with | [_, _, _], _ => rfl)
theorem row16 {f : Addr} {oc : Value} {od an : Option Addr} {osl : Array (Option Value)} {kV doc pm cdv ct : Value} (X : K.In h) (Gm : h.Ns mainGlobals mg) (a : PySem.W.nsIn K mainGlobals "least" = some (some (.ref f))) (l : K.lookup f = some ⟨oc, od, .func (PySem.W.fnOf "least" "least" (defArgs (topS 30)) (defBody (topS 30)) (defScope (topS 30)) .none kV doc pm an cdv ct), osl⟩) (c : PySem.W.codeIn K cdv "least" = true) (kp : PySem.W.keepIn K (.ref f) = true) : ∃ f fd, RowOk K mg r16 f fd :=
  rowOk0 (r := r16) X Gm a l c kp rfl rfl (fun _ _ _ _ _ _ us hl => match us, hl with | [_, _], _ => rfl)
theorem row17 {f : Addr} {oc : Value} {od an : Option Addr} {osl : Array (Option Value)} {kV doc pm cdv ct : Value} (X : K.In h) (Gm : h.Ns mainGlobals mg) (a : PySem.W.nsIn K mainGlobals "net" = some (some (.ref f))) (l : K.lookup f = some ⟨oc, od, .func (PySem.W.fnOf "net" "net" (defArgs (topS 31)) (defBody (topS 31)) (defScope (topS 31)) .none kV doc pm an cdv ct), osl⟩) (c : PySem.W.codeIn K cdv "net" = true) (kp : PySem.W.keepIn K (.ref f) = true) : ∃ f fd, RowOk K mg r17 f fd :=
  rowOk0 (r := r17) X Gm a l c kp rfl rfl (fun _ _ _ _ _ _ us hl => match us, hl with | [_, _], _ => rfl)
theorem row18 {f : Addr} {oc : Value} {od an : Option Addr} {osl : Array (Option Value)} {kV doc pm cdv ct : Value} (X : K.In h) (Gm : h.Ns mainGlobals mg) (a : PySem.W.nsIn K mainGlobals "told_back" = some (some (.ref f))) (l : K.lookup f = some ⟨oc, od, .func (PySem.W.fnOf "told_back" "told_back" (defArgs (topS 32)) (defBody (topS 32)) (defScope (topS 32)) .none kV doc pm an cdv ct), osl⟩) (c : PySem.W.codeIn K cdv "told_back" = true) (kp : PySem.W.keepIn K (.ref f) = true) : ∃ f fd, RowOk K mg r18 f fd :=
  rowOk0 (r := r18) X Gm a l c kp rfl rfl (fun _ _ _ _ _ _ us hl => match us, hl with | [_], _ => rfl)
theorem row19 {f : Addr} {oc : Value} {od an : Option Addr} {osl : Array (Option Value)} {kV doc pm cdv ct : Value} (X : K.In h) (Gm : h.Ns mainGlobals mg) (a : PySem.W.nsIn K mainGlobals "_law_pot" = some (some (.ref f))) (l : K.lookup f = some ⟨oc, od, .func (PySem.W.fnOf "_law_pot" "_law_pot" (defArgs (topS 34)) (defBody (topS 34)) (defScope (topS 34)) .none kV doc pm an cdv ct), osl⟩) (c : PySem.W.codeIn K cdv "_law_pot" = true) (kp : PySem.W.keepIn K (.ref f) = true) : ∃ f fd, RowOk K mg r19 f fd :=
  rowOk0 (r := r19) X Gm a l c kp rfl rfl (fun _ _ _ _ _ _ us hl => match us, hl with | [_, _], _ => rfl)
theorem row20 {f : Addr} {oc : Value} {od an : Option Addr} {osl : Array (Option Value)} {kV doc pm cdv ct : Value} (X : K.In h) (Gm : h.Ns mainGlobals mg) (a : PySem.W.nsIn K mainGlobals "_law_take" = some (some (.ref f))) (l : K.lookup f = some ⟨oc, od, .func (PySem.W.fnOf "_law_take" "_law_take" (defArgs (topS 35)) (defBody (topS 35)) (defScope (topS 35)) .none kV doc pm an cdv ct), osl⟩) (c : PySem.W.codeIn K cdv "_law_take" = true) (kp : PySem.W.keepIn K (.ref f) = true) : ∃ f fd, RowOk K mg r20 f fd :=
  rowOk0 (r := r20) X Gm a l c kp rfl rfl (fun _ _ _ _ _ _ us hl => match us, hl with | [_, _], _ => rfl)
theorem row21 {f : Addr} {oc : Value} {od an : Option Addr} {osl : Array (Option Value)} {kV doc pm cdv ct : Value} (X : K.In h) (Gm : h.Ns mainGlobals mg) (a : PySem.W.nsIn K mainGlobals "_law_of" = some (some (.ref f))) (l : K.lookup f = some ⟨oc, od, .func (PySem.W.fnOf "_law_of" "_law_of" (defArgs (topS 36)) (defBody (topS 36)) (defScope (topS 36)) .none kV doc pm an cdv ct), osl⟩) (c : PySem.W.codeIn K cdv "_law_of" = true) (kp : PySem.W.keepIn K (.ref f) = true) : ∃ f fd, RowOk K mg r21 f fd :=
  rowOk0 (r := r21) X Gm a l c kp rfl rfl (fun _ _ _ _ _ _ us hl => match us, hl with | [_, _], _ => rfl)
theorem row22 {f : Addr} {oc : Value} {od an : Option Addr} {osl : Array (Option Value)} {kV doc pm cdv ct : Value} (X : K.In h) (Gm : h.Ns mainGlobals mg) (a : PySem.W.nsIn K mainGlobals "_law_some" = some (some (.ref f))) (l : K.lookup f = some ⟨oc, od, .func (PySem.W.fnOf "_law_some" "_law_some" (defArgs (topS 37)) (defBody (topS 37)) (defScope (topS 37)) .none kV doc pm an cdv ct), osl⟩) (c : PySem.W.codeIn K cdv "_law_some" = true) (kp : PySem.W.keepIn K (.ref f) = true) : ∃ f fd, RowOk K mg r22 f fd :=
  rowOk0 (r := r22) X Gm a l c kp rfl rfl (fun _ _ _ _ _ _ us hl => match us, hl with | [_, _, _], _ => rfl)
theorem row23 {f : Addr} {oc : Value} {od an : Option Addr} {osl : Array (Option Value)} {kV doc pm cdv ct : Value} (X : K.In h) (Gm : h.Ns mainGlobals mg) (a : PySem.W.nsIn K mainGlobals "_law_cells" = some (some (.ref f))) (l : K.lookup f = some ⟨oc, od, .func (PySem.W.fnOf "_law_cells" "_law_cells" (defArgs (topS 38)) (defBody (topS 38)) (defScope (topS 38)) .none kV doc pm an cdv ct), osl⟩) (c : PySem.W.codeIn K cdv "_law_cells" = true) (kp : PySem.W.keepIn K (.ref f) = true) : ∃ f fd, RowOk K mg r23 f fd :=
  rowOk0 (r := r23) X Gm a l c kp rfl rfl (fun _ _ _ _ _ _ us hl => match us, hl with | [_, _], _ => rfl)
theorem row24 {f : Addr} {oc : Value} {od an : Option Addr} {osl : Array (Option Value)} {kV doc pm cdv ct : Value} (X : K.In h) (Gm : h.Ns mainGlobals mg) (a : PySem.W.nsIn K mainGlobals "_law_names" = some (some (.ref f))) (l : K.lookup f = some ⟨oc, od, .func (PySem.W.fnOf "_law_names" "_law_names" (defArgs (topS 39)) (defBody (topS 39)) (defScope (topS 39)) .none kV doc pm an cdv ct), osl⟩) (c : PySem.W.codeIn K cdv "_law_names" = true) (kp : PySem.W.keepIn K (.ref f) = true) : ∃ f fd, RowOk K mg r24 f fd :=
  rowOk0 (r := r24) X Gm a l c kp rfl rfl (fun _ _ _ _ _ _ us hl => match us, hl with | [_, _], _ => rfl)
theorem row25 {f : Addr} {oc : Value} {od an : Option Addr} {osl : Array (Option Value)} {kV doc pm cdv ct : Value} (X : K.In h) (Gm : h.Ns mainGlobals mg) (a : PySem.W.nsIn K mainGlobals "_law_trade" = some (some (.ref f))) (l : K.lookup f = some ⟨oc, od, .func (PySem.W.fnOf "_law_trade" "_law_trade" (defArgs (topS 40)) (defBody (topS 40)) (defScope (topS 40)) .none kV doc pm an cdv ct), osl⟩) (c : PySem.W.codeIn K cdv "_law_trade" = true) (kp : PySem.W.keepIn K (.ref f) = true) : ∃ f fd, RowOk K mg r25 f fd :=
  rowOk0 (r := r25) X Gm a l c kp rfl rfl (fun _ _ _ _ _ _ us hl => match us, hl with | [_, _, _], _ => rfl)
theorem row26 {f : Addr} {oc : Value} {od an : Option Addr} {osl : Array (Option Value)} {kV doc pm cdv ct : Value} (X : K.In h) (Gm : h.Ns mainGlobals mg) (a : PySem.W.nsIn K mainGlobals "_law_trade_told" = some (some (.ref f))) (l : K.lookup f = some ⟨oc, od, .func (PySem.W.fnOf "_law_trade_told" "_law_trade_told" (defArgs (topS 41)) (defBody (topS 41)) (defScope (topS 41)) .none kV doc pm an cdv ct), osl⟩) (c : PySem.W.codeIn K cdv "_law_trade_told" = true) (kp : PySem.W.keepIn K (.ref f) = true) : ∃ f fd, RowOk K mg r26 f fd :=
  rowOk0 (r := r26) X Gm a l c kp rfl rfl (fun _ _ _ _ _ _ us hl => match us, hl with | [_], _ => rfl)
theorem row27 {f : Addr} {oc : Value} {od an : Option Addr} {osl : Array (Option Value)} {kV doc pm cdv ct : Value} (X : K.In h) (Gm : h.Ns mainGlobals mg) (a : PySem.W.nsIn K mainGlobals "_law_levels" = some (some (.ref f))) (l : K.lookup f = some ⟨oc, od, .func (PySem.W.fnOf "_law_levels" "_law_levels" (defArgs (topS 42)) (defBody (topS 42)) (defScope (topS 42)) .none kV doc pm an cdv ct), osl⟩) (c : PySem.W.codeIn K cdv "_law_levels" = true) (kp : PySem.W.keepIn K (.ref f) = true) : ∃ f fd, RowOk K mg r27 f fd :=
  rowOk0 (r := r27) X Gm a l c kp rfl rfl (fun _ _ _ _ _ _ us hl => match us, hl with | [_, _, _], _ => rfl)
theorem row28 {f : Addr} {oc : Value} {od an : Option Addr} {osl : Array (Option Value)} {kV doc pm cdv ct : Value} (X : K.In h) (Gm : h.Ns mainGlobals mg) (a : PySem.W.nsIn K mainGlobals "_law_least" = some (some (.ref f))) (l : K.lookup f = some ⟨oc, od, .func (PySem.W.fnOf "_law_least" "_law_least" (defArgs (topS 43)) (defBody (topS 43)) (defScope (topS 43)) .none kV doc pm an cdv ct), osl⟩) (c : PySem.W.codeIn K cdv "_law_least" = true) (kp : PySem.W.keepIn K (.ref f) = true) : ∃ f fd, RowOk K mg r28 f fd :=
  rowOk0 (r := r28) X Gm a l c kp rfl rfl (fun _ _ _ _ _ _ us hl => match us, hl with | [_, _], _ => rfl)
theorem row29 {f : Addr} {oc : Value} {od an : Option Addr} {osl : Array (Option Value)} {kV doc pm cdv ct : Value} (X : K.In h) (Gm : h.Ns mainGlobals mg) (a : PySem.W.nsIn K mainGlobals "_law_back" = some (some (.ref f))) (l : K.lookup f = some ⟨oc, od, .func (PySem.W.fnOf "_law_back" "_law_back" (defArgs (topS 44)) (defBody (topS 44)) (defScope (topS 44)) .none kV doc pm an cdv ct), osl⟩) (c : PySem.W.codeIn K cdv "_law_back" = true) (kp : PySem.W.keepIn K (.ref f) = true) : ∃ f fd, RowOk K mg r29 f fd :=
  rowOk0 (r := r29) X Gm a l c kp rfl rfl (fun _ _ _ _ _ _ us hl => match us, hl with | [_], _ => rfl)
theorem row30 {f : Addr} {oc : Value} {od an : Option Addr} {osl : Array (Option Value)} {kV doc pm cdv ct : Value} (X : K.In h) (Gm : h.Ns mainGlobals mg) (a : PySem.W.nsIn K mainGlobals "_law_right" = some (some (.ref f))) (l : K.lookup f = some ⟨oc, od, .func (PySem.W.fnOf "_law_right" "_law_right" (defArgs (topS 45)) (defBody (topS 45)) (defScope (topS 45)) .none kV doc pm an cdv ct), osl⟩) (c : PySem.W.codeIn K cdv "_law_right" = true) (kp : PySem.W.keepIn K (.ref f) = true) : ∃ f fd, RowOk K mg r30 f fd :=
  rowOk0 (r := r30) X Gm a l c kp rfl rfl (fun _ _ _ _ _ _ us hl => match us, hl with | [_], _ => rfl)
theorem row31 {f : Addr} {oc : Value} {od an : Option Addr} {osl : Array (Option Value)} {kV doc pm cdv ct : Value} (X : K.In h) (Gm : h.Ns mainGlobals mg) (a : PySem.W.nsIn K mainGlobals "law" = some (some (.ref f))) (l : K.lookup f = some ⟨oc, od, .func (PySem.W.fnOf "law" "law" (defArgs (topS 46)) (defBody (topS 46)) (defScope (topS 46)) .none kV doc pm an cdv ct), osl⟩) (c : PySem.W.codeIn K cdv "law" = true) (kp : PySem.W.keepIn K (.ref f) = true) : ∃ f fd, RowOk K mg r31 f fd :=
  rowOk0 (r := r31) X Gm a l c kp rfl rfl (fun _ _ _ _ _ _ us hl => match us, hl with | [_], _ => rfl)
end
end K10

set_option Elab.async false
set_option linter.all false
set_option maxRecDepth 100000
set_option maxHeartbeats 1000000
namespace K10
open PySem En

abbrev T : List Fn := rows.map Row.fn
abbrev C : Nat → Option D := conOf cons
theorem call_eq {F n j : Nat} {fn : Fn} {ds : List D} {st : Sto} (h : T[j]? = some fn) : callN T C F (n + 1) j ds st = runFn (callN T C F n) C F fn ds st := by
  show (match T[j]? with | some fn => _ | none => _) = _
  rw [h]
theorem fill0 {fn : Fn} (h : fn.defs = []) (ds : List D) : fillD fn ds = ds := by unfold fillD; rw [h]; simp
theorem run0 {Γ : Fns} {F : Nat} {fn : Fn} {ds : List D} {st : Sto} (h : fn.defs = []) (hl : ds.length = fn.np) : runFn Γ C F fn ds st = runBody Γ C F fn ds st := by
  unfold runFn; rw [fill0 h, if_pos hl]
/-- the pot at place i of the store -/
structure Pot (st : Sto) (i : Nat) (o s c : Int) (k : Nat) : Prop where
  at_ : st[i]? = some (.lst [.int o, .int s, .int c])
  o0 : 0 ≤ o
  o1 : o < 10 ^ 300
  s0 : 0 ≤ s
  s1 : s < 2 ^ 61
  c0 : 0 ≤ c
  c1 : c ≤ k
theorem take_run {F n : Nat} {st : Sto} {i : Nat} {o s c : Int} {k : Nat} {u : Int} (p : Pot st i o s c k) (hk : k < 2 ^ 30) (u0 : 0 < u) (u1 : u < 2 ^ 20) :
    ∃ r o' c', callN T C F (n + 1) 20 [.mref i, .int u] st = .ok (.int r, st.set i (.lst [.int o', .int s, .int c'])) ∧ 0 ≤ r ∧ r < u ∧ 0 ≤ o' ∧ o' < 10 ^ 300 ∧ 0 ≤ c' ∧ c' ≤ k + 1 := by
  rw [call_eq (fn := f20) rfl, run0 rfl rfl]
  have hsn := sn_ml p.at_
  have lu : u.natAbs.log2 < 9000 := by have := log2_le (n := 20) (by omega) u1; omega
  by_cases ho : 0 < o
  · refine ⟨o % u, o / u, c, ?_, Int.emod_nonneg _ (by omega), Int.emod_lt_of_pos _ u0, Int.ediv_nonneg p.o0 (by omega), ?_, p.c0, by have := p.c1; omega⟩
    · simp (decide := true) only [runBody, List.map, List.length_cons, List.length_nil, List.replicate, List.cons_append, List.nil_append, evSs, evS, evE, evEs, evAnd, evOr, evT, evO, rb, List.getElem?_cons_zero, List.getElem?_cons_succ, sn_int, sn_str, sn_bl, sn_tup, sn_lst, sn_non, sn_dic, sn_ro, ix_l, ix_t, ix_r, ro_some, c_gt, c_ge, c_lt, c_le, decide_true, decide_false, ab, if_true, if_false, Bool.false_eq_true, Bool.not_true, Bool.not_false, bi_int, bi_intb, bi_abs, bi_lenl, bi_lent, bi_lenr, bi_tupl, b_add, b_sub, asgT, asgTs, setAll, List.set_cons_zero, List.set_cons_succ, ir_int, ir_str, ir_tup, ir_lst, ir_bl, ir_non, ir_dic, ir_ro, List.length_set, tn0, tn1, tn2, tn3, lim_ok, f20, hsn, at3_0, ho, b_mod u0, b_div ⟨u0, lu⟩, p.at_]
      exact fin_d rfl (by simp)
    · exact Int.lt_of_le_of_lt (Int.ediv_le_self _ p.o0) p.o1
  · have hs2 : ∀ x, snap (st.set i (.lst x)) (.mref i) = .lst x := fun x => sn_ml (set_at p.at_)
    have c0 := p.c0
    have c1 := p.c1
    have s0 := p.s0
    have s1 := p.s1
    obtain ⟨q, hq, hq0⟩ : ∃ q, atD [D.int 2147483647, D.int 2147483629, D.int 2147483587, D.int 2147483579, D.int 2147483563] ((c + 1) % 5) = some (.int q) ∧ 0 < q ∧ q < 2 ^ 31 := by
      have h5 : (c + 1) % 5 = 0 ∨ (c + 1) % 5 = 1 ∨ (c + 1) % 5 = 2 ∨ (c + 1) % 5 = 3 ∨ (c + 1) % 5 = 4 := by omega
      rcases h5 with h | h | h | h | h <;> rw [h] <;> exact ⟨_, rfl, by omega, by omega⟩
    have lc : (c + 1).natAbs.log2 ≤ 31 := log2_le (n := 31) (a := c + 1) (by omega) (by omega)
    have k1 : (98041 : Int).natAbs.log2 ≤ 17 := by decide
    have l1 : (98041 : Int).natAbs.log2 + (c + 1).natAbs.log2 < 1000000 := by omega
    have hm : 0 ≤ 98041 * (c + 1) ∧ 98041 * (c + 1) < 2 ^ 48 := ⟨by omega, by omega⟩
    have l2 : (98041 * (c + 1)).natAbs.log2 + (c + 1).natAbs.log2 < 1000000 := by have := log2_le (n := 48) hm.1 hm.2; omega
    have hm2 : 0 ≤ 98041 * (c + 1) * (c + 1) ∧ 98041 * (c + 1) * (c + 1) < 2 ^ 79 := by
      refine ⟨Int.mul_nonneg hm.1 (by omega), ?_⟩
      have : 98041 * (c + 1) * (c + 1) ≤ 2 ^ 48 * (c + 1) := Int.mul_le_mul_of_nonneg_right (by omega) (by omega)
      omega
    have hb : (Builtin.Int.intBits (s + 98041 * (c + 1) * (c + 1) + 99) : Int) * 3 ≤ 2 ^ 27 := by
      have := bits_le (n := 80) (a := s + 98041 * (c + 1) * (c + 1) + 99) (by omega) (by omega)
      omega
    have lp : (0 : Int) ≤ 3 ∧ (Builtin.Int.intBits (s + 98041 * (c + 1) * (c + 1) + 99) : Int) * 3 ≤ 2 ^ 27 := ⟨by decide, hb⟩
    generalize hx : (s + 98041 * (c + 1) * (c + 1) + 99) ^ 3 % q = x
    have x0 : 0 ≤ x := by rw [← hx]; exact Int.emod_nonneg _ (by omega)
    have x1 : x < 2 ^ 31 := by rw [← hx]; exact Int.lt_trans (Int.emod_lt_of_pos _ hq0.1) hq0.2
    have k2 : (197 : Int).natAbs.log2 ≤ 8 := by decide
    have l3 : (197 : Int).natAbs.log2 + (c + 1).natAbs.log2 < 1000000 := by omega
    have lx : x.natAbs.log2 ≤ 31 := log2_le x0 x1
    have y0 : 0 ≤ x % 10273 + 197 * (c + 1) ∧ x % 10273 + 197 * (c + 1) < 2 ^ 40 := ⟨by omega, by omega⟩
    have l4 : x.natAbs.log2 + (x % 10273 + 197 * (c + 1)).natAbs.log2 < 1000000 := by have := log2_le (n := 40) y0.1 y0.2; omega
    refine ⟨x * (x % 10273 + 197 * (c + 1)) % 2305843009213693907 / 151 % u, o, c + 1, ?_, Int.emod_nonneg _ (by omega), Int.emod_lt_of_pos _ u0, p.o0, p.o1, by omega, by omega⟩
    simp (decide := true) only [runBody, List.map, List.length_cons, List.length_nil, List.replicate, List.cons_append, List.nil_append, evSs, evS, evE, evEs, evAnd, evOr, evT, evO, rb, List.getElem?_cons_zero, List.getElem?_cons_succ, sn_int, sn_str, sn_bl, sn_tup, sn_lst, sn_non, sn_dic, sn_ro, ix_l, ix_t, ix_r, ro_some, c_gt, c_ge, c_lt, c_le, decide_true, decide_false, ab, if_true, if_false, Bool.false_eq_true, Bool.not_true, Bool.not_false, bi_int, bi_intb, bi_abs, bi_lenl, bi_lent, bi_lenr, bi_tupl, b_add, b_sub, asgT, asgTs, setAll, List.set_cons_zero, List.set_cons_succ, ir_int, ir_str, ir_tup, ir_lst, ir_bl, ir_non, ir_dic, ir_ro, List.length_set, tn0, tn1, tn2, tn3, lim_ok, f20, hsn, at3_0, at3_1, at3_2, ho, p.at_, hs2, b_mod, hq, b_mul l1, b_mul l2, b_pow lp, b_mod hq0.1, hx, b_mul l3, b_mul l4, b_div, b_mod u0]
    exact fin_d rfl (by simp)
/-- _law_of -/
theorem of_run {F n : Nat} {st : Sto} {i : Nat} {o s c : Int} {k : Nat} {ds : List D} (p : Pot st i o s c k) (hk : k < 2 ^ 30) (h0 : ds ≠ []) (h1 : ds.length < 2 ^ 20) (href : ∀ d ∈ ds, d.isRef = false) :
    ∃ d st' o' c', callN T C F (n + 2) 21 [.mref i, .lst ds] st = .ok (d, st') ∧ d ∈ ds ∧ st' = st.set i (.lst [.int o', .int s, .int c']) ∧ Pot st' i o' s c' (k + 1) := by
  have hl : 0 < ds.length := by cases ds with | nil => exact absurd rfl h0 | cons => simp
  obtain ⟨r, o', c', e, r0, r1, a0, a1, b0, b1⟩ := take_run (F := F) (n := n) (u := (ds.length : Int)) p hk (by omega) (by omega)
  have hr : r.toNat < ds.length := by omega
  have hat : atD ds r = some ds[r.toNat] := at_nat r0 hr
  refine ⟨ds[r.toNat], _, o', c', ?_, List.getElem_mem _, rfl, ⟨set_at p.at_, a0, a1, p.s0, p.s1, b0, by omega⟩⟩
  rw [call_eq (fn := f21) rfl, run0 rfl rfl]
  simp (decide := true) only [runBody, List.map, List.length_cons, List.length_nil, List.replicate, List.cons_append, List.nil_append, evSs, evS, evE, evEs, evAnd, evOr, evT, evO, rb, List.getElem?_cons_zero, List.getElem?_cons_succ, sn_int, sn_str, sn_bl, sn_tup, sn_lst, sn_non, sn_dic, sn_ro, ix_l, ix_t, ix_r, ro_some, c_gt, c_ge, c_lt, c_le, decide_true, decide_false, ab, if_true, if_false, Bool.false_eq_true, Bool.not_true, Bool.not_false, bi_int, bi_intb, bi_abs, bi_lenl, bi_lent, bi_lenr, bi_tupl, b_add, b_sub, asgT, asgTs, setAll, List.set_cons_zero, List.set_cons_succ, ir_int, ir_str, ir_tup, ir_lst, ir_bl, ir_non, ir_dic, ir_ro, List.length_set, tn0, tn1, tn2, tn3, lim_ok, f21, e, hat]
  exact fin_d (href _ (List.getElem_mem _)) (by simp)
/-- the loop of _law_some -/
def someBody : List CS := [.ex (.append (.var 5) (.popAt (.var 4) (.call 20 [(.var 0), (.bi .len [(.var 4)])])))]
theorem some_loop {F n i a b : Nat} {s amt : Int} {pool : D} (hia : i ≠ a) (hib : i ≠ b) (hab : a ≠ b) : ∀ (m : Nat) (lo : Int) (v : Option D) (st : Sto) (o c : Int) (k : Nat) (left found : List D), Pot st i o s c k → k + m < 2 ^ 30 → st[a]? = some (.lst left) → st[b]? = some (.lst found) →
    m ≤ left.length → left.length < 2 ^ 20 → found.length + m < 2 ^ 20 → (∀ d ∈ left, d.isRef = false) →
    ∃ st' o' c' left' out v', forGo (asgT (.name 3)) (fun e s => evSs (callN T C F (n + 1)) C F someBody e s) (rngD lo m) [some (.mref i), some pool, some (.int amt), v, some (.mref a), some (.mref b)] st = .ok (.next, [some (.mref i), some pool, some (.int amt), v', some (.mref a), some (.mref b)], st') ∧
      Pot st' i o' s c' (k + m) ∧ st'[a]? = some (.lst left') ∧ st'[b]? = some (.lst (found ++ out)) ∧ out.length = m ∧ (out ++ left').Perm left ∧ st'.length = st.length ∧ ∀ j, j ≠ i → j ≠ a → j ≠ b → st'[j]? = st[j]?
  | 0, lo, v, st, o, c, k, left, found, p, _, ha, hb, _, _, _, _ => ⟨st, o, c, left, [], v, rfl, p, ha, by simpa using hb, rfl, by simp, rfl, fun _ _ _ _ => rfl⟩
  | m + 1, lo, v, st, o, c, k, left, found, p, hk, ha, hb, hm, hl, hf, hr => by
    obtain ⟨r, o1, c1, e, r0, r1, a0, a1, b0, b1⟩ := take_run (F := F) (n := n) (u := (left.length : Int)) p (by omega) (by omega) (by omega)
    have hr' : r.toNat < left.length := by omega
    have ia := st_lt p.at_
    have la := st_lt ha
    have lb := st_lt hb
    have ha1 : (st.set i (.lst [.int o1, .int s, .int c1]))[a]? = some (.lst left) := by rw [List.getElem?_set_ne hia]; exact ha
    have hb1 : ((st.set i (.lst [.int o1, .int s, .int c1])).set a (.lst (left.eraseIdx r.toNat)))[b]? = some (.lst found) := by rw [List.getElem?_set_ne hab, List.getElem?_set_ne hib]; exact hb
    have hd : left[r.toNat]? = some left[r.toNat] := by simp [hr']
    have hnr : left[r.toNat].isRef = false := hr _ (List.getElem_mem _)
    have hlim : decide (LIM ≤ found.length) = false := by simp only [decide_eq_false_iff_not]; rw [LIM_val]; omega
    have step : evSs (callN T C F (n + 1)) C F someBody [some (.mref i), some pool, some (.int amt), some (.int lo), some (.mref a), some (.mref b)] st =
        .ok (.next, [some (.mref i), some pool, some (.int amt), some (.int lo), some (.mref a), some (.mref b)], ((st.set i (.lst [.int o1, .int s, .int c1])).set a (.lst (left.eraseIdx r.toNat))).set b (.lst (found ++ [left[r.toNat]]))) := by
      simp (decide := true) only [runBody, List.map, List.length_cons, List.length_nil, List.replicate, List.cons_append, List.nil_append, evSs, evS, evE, evEs, evAnd, evOr, evT, evO, rb, List.getElem?_cons_zero, List.getElem?_cons_succ, sn_int, sn_str, sn_bl, sn_tup, sn_lst, sn_non, sn_dic, sn_ro, ix_l, ix_t, ix_r, ro_some, c_gt, c_ge, c_lt, c_le, decide_true, decide_false, ab, if_true, if_false, Bool.false_eq_true, Bool.not_true, Bool.not_false, bi_int, bi_intb, bi_abs, bi_lenl, bi_lent, bi_lenr, bi_tupl, b_add, b_sub, asgT, asgTs, setAll, List.set_cons_zero, List.set_cons_succ, ir_int, ir_str, ir_tup, ir_lst, ir_bl, ir_non, ir_dic, ir_ro, List.length_set, tn0, tn1, tn2, tn3, lim_ok, someBody, gl_at ha, gl_at hb, sn_ml ha, e, gl_at ha1, r0, hd, gl_at hb1, hnr, hlim, Bool.or_false, Bool.or_self]
    obtain ⟨st', o', c', left', out, v', e2, p2, ha2, hb2, hl2, pm, len2, oth⟩ := some_loop (F := F) (n := n) (amt := amt) (pool := pool) hia hib hab m (lo + 1) (some (.int lo)) (o := o1) (c := c1) (k := k + 1) (left := left.eraseIdx r.toNat) (found := found ++ [left[r.toNat]])
      (st := ((st.set i (.lst [.int o1, .int s, .int c1])).set a (.lst (left.eraseIdx r.toNat))).set b (.lst (found ++ [left[r.toNat]])))
      ⟨by rw [List.getElem?_set_ne (Ne.symm hib), List.getElem?_set_ne (Ne.symm hia)]; exact List.getElem?_set_self ia, a0, a1, p.s0, p.s1, b0, by omega⟩ (by omega)
      (by rw [List.getElem?_set_ne (Ne.symm hab)]; exact List.getElem?_set_self (by simpa using la)) (List.getElem?_set_self (by simpa using lb))
      (by rw [List.length_eraseIdx_of_lt hr']; omega) (by rw [List.length_eraseIdx_of_lt hr']; omega) (by simp; omega) (fun d hd => hr d (List.mem_of_mem_eraseIdx hd))
    refine ⟨st', o', c', left', left[r.toNat] :: out, v', ?_, ⟨p2.at_, p2.o0, p2.o1, p2.s0, p2.s1, p2.c0, by have := p2.c1; omega⟩, ha2, by rw [hb2]; simp, by simp [hl2], ?_, by rw [len2]; simp, fun j h1 h2 h3 => ?_⟩
    · simp only [rngD, forGo, asgT, ro_some, rb, List.set_cons_succ, List.set_cons_zero, step]
      exact e2
    · have := (List.Perm.cons left[r.toNat] pm).trans (perm_erase hr')
      simpa using this
    · rw [oth j h1 h2 h3, List.getElem?_set_ne (Ne.symm h3), List.getElem?_set_ne (Ne.symm h2), List.getElem?_set_ne (Ne.symm h1)]
end K10

set_option Elab.async false
set_option linter.all false
set_option maxRecDepth 100000
set_option maxHeartbeats 1000000
namespace K10
open PySem En
theorem some_run {F n : Nat} {st : Sto} {i m : Nat} {o s c : Int} {k : Nat} {ds : List D} (p : Pot st i o s c k) (hk : k + m < 2 ^ 30) (hm : m ≤ ds.length) (h1 : ds.length < 2 ^ 20) (href : ∀ d ∈ ds, d.isRef = false) :
    ∃ out rest o' c', callN T C F (n + 2) 22 [.mref i, .lst ds, .int m] st = .ok (.lst out, st.set i (.lst [.int o', .int s, .int c'])) ∧ out.length = m ∧ (out ++ rest).Perm ds ∧ Pot (st.set i (.lst [.int o', .int s, .int c'])) i o' s c' (k + m) := by
  have hi := st_lt p.at_
  have hp1 : Pot (st ++ [.lst ds] ++ [.lst []]) i o s c k := ⟨by rw [List.getElem?_append_left (by simp; omega), List.getElem?_append_left hi]; exact p.at_, p.o0, p.o1, p.s0, p.s1, p.c0, p.c1⟩
  have ha : (st ++ [O.lst ds] ++ [O.lst []])[st.length]? = some (.lst ds) := by simp
  have hb : (st ++ [O.lst ds] ++ [O.lst []])[st.length + 1]? = some (.lst []) := by simp
  obtain ⟨st', o', c', left', out, v', e, p2, ha2, hb2, hl2, pm, len2, oth⟩ := some_loop (F := F) (n := n) (a := st.length) (b := st.length + 1) (amt := m) (pool := .lst ds) (by omega) (by omega) (by omega) m 0 none _ o c k ds [] hp1 hk ha hb hm h1 (by simp; omega) href
  have hset : st'.take st.length = st.set i (.lst [.int o', .int s, .int c']) := take_set rfl (by rw [len2]; simp) p2.at_ hi fun j h1 h2 => by
    rw [oth j h1 (by omega) (by omega), List.getElem?_append_left (by simp; omega), List.getElem?_append_left h2]
  refine ⟨out, left', o', c', ?_, hl2, pm, ⟨List.getElem?_set_self hi, p2.o0, p2.o1, p2.s0, p2.s1, p2.c0, p2.c1⟩⟩
  rw [call_eq (fn := f22) rfl, run0 rfl rfl, body_ret (fn := f22) (d := .mref (st.length + 1)) (st1 := st') (env1 := [some (.mref i), some (.lst ds), some (.int m), v', some (.mref st.length), some (.mref (st.length + 1))])]
  · show En.finish false st.length (.mref (st.length + 1)) st' = _
    simp only [En.finish, hb2]
    rw [if_neg (by omega), hset]
    simp
  · show evSs _ _ _ [.par [4, 5] [(.copyM (.var 1)), (.lstM [])], .for_ (.name 3) (.range1 (.var 2)) someBody, .ret (.var 5)] [some (.mref i), some (.lst ds), some (.int m), none, none, none] st = _
    have e1 : evS (callN T C F (n + 1)) C F (.par [4, 5] [(.copyM (.var 1)), (.lstM [])]) [some (.mref i), some (.lst ds), some (.int m), none, none, none] st = .ok (.next, [some (.mref i), some (.lst ds), some (.int m), none, some (.mref st.length), some (.mref (st.length + 1))], st ++ [.lst ds] ++ [.lst []]) := by
      simp (decide := true) only [runBody, List.map, List.length_cons, List.length_nil, List.replicate, List.cons_append, List.nil_append, evSs, evS, evE, evEs, evAnd, evOr, evT, evO, rb, List.getElem?_cons_zero, List.getElem?_cons_succ, sn_int, sn_str, sn_bl, sn_tup, sn_lst, sn_non, sn_dic, sn_ro, ix_l, ix_t, ix_r, ro_some, c_gt, c_ge, c_lt, c_le, decide_true, decide_false, ab, if_true, if_false, Bool.false_eq_true, Bool.not_true, Bool.not_false, bi_int, bi_intb, bi_abs, bi_lenl, bi_lent, bi_lenr, bi_tupl, b_add, b_sub, asgT, asgTs, setAll, List.set_cons_zero, List.set_cons_succ, ir_int, ir_str, ir_tup, ir_lst, ir_bl, ir_non, ir_dic, ir_ro, List.length_set, tn0, tn1, tn2, tn3, lim_ok, itemsOf, noRefs, Bool.true_and, List.length_append]
    have e2 : evI (callN T C F (n + 1)) C (.range1 (.var 2)) [some (.mref i), some (.lst ds), some (.int m), none, some (.mref st.length), some (.mref (st.length + 1))] (st ++ [.lst ds] ++ [.lst []]) = .ok (rngD 0 m, st ++ [.lst ds] ++ [.lst []]) :=
      ev_range1 (by simp only [evE, List.getElem?_cons_zero, List.getElem?_cons_succ]) (by omega)
    rw [ss_next e1, ss_next ((s_for e2).trans e)]
    simp (decide := true) only [runBody, List.map, List.length_cons, List.length_nil, List.replicate, List.cons_append, List.nil_append, evSs, evS, evE, evEs, evAnd, evOr, evT, evO, rb, List.getElem?_cons_zero, List.getElem?_cons_succ, sn_int, sn_str, sn_bl, sn_tup, sn_lst, sn_non, sn_dic, sn_ro, ix_l, ix_t, ix_r, ro_some, c_gt, c_ge, c_lt, c_le, decide_true, decide_false, ab, if_true, if_false, Bool.false_eq_true, Bool.not_true, Bool.not_false, bi_int, bi_intb, bi_abs, bi_lenl, bi_lent, bi_lenr, bi_tupl, b_add, b_sub, asgT, asgTs, setAll, List.set_cons_zero, List.set_cons_succ, ir_int, ir_str, ir_tup, ir_lst, ir_bl, ir_non, ir_dic, ir_ro, List.length_set, tn0, tn1, tn2, tn3, lim_ok]
end K10

set_option Elab.async false
set_option linter.all false
set_option maxRecDepth 100000
set_option maxHeartbeats 1000000
namespace K10
open PySem En
theorem isInt_run {F n : Nat} {st : Sto} (v lo hi : Int) : callN T C F (n + 1) 0 [.int v, .int lo, .int hi] st = .ok (.bl (decide (lo ≤ v) && decide (v ≤ hi)), st) := by
  rw [call_eq (fn := f0) rfl]
  show runBody _ _ _ f0 [.int v, .int lo, .int hi] st = _
  have e : evSs (callN T C F n) C F f0.body [some (.int v), some (.int lo), some (.int hi)] st = .ok (.ret (.bl (decide (lo ≤ v) && decide (v ≤ hi))), [some (.int v), some (.int lo), some (.int hi)], st) := by
    by_cases h1 : lo ≤ v
    · by_cases h2 : v ≤ hi
      · simp (decide := true) only [runBody, List.map, List.length_cons, List.length_nil, List.replicate, List.cons_append, List.nil_append, evSs, evS, evE, evEs, evAnd, evOr, evT, evO, rb, List.getElem?_cons_zero, List.getElem?_cons_succ, sn_int, sn_str, sn_bl, sn_tup, sn_lst, sn_non, sn_dic, sn_ro, ix_l, ix_t, ix_r, ro_some, c_gt, c_ge, c_lt, c_le, decide_true, decide_false, ab, if_true, if_false, Bool.false_eq_true, Bool.not_true, Bool.not_false, bi_int, bi_intb, bi_abs, bi_lenl, bi_lent, bi_lenr, bi_tupl, b_add, b_sub, asgT, asgTs, setAll, List.set_cons_zero, List.set_cons_succ, ir_int, ir_str, ir_tup, ir_lst, ir_bl, ir_non, ir_dic, ir_ro, List.length_set, tn0, tn1, tn2, tn3, lim_ok, f0, bi, cop, h1, h2, Bool.or_self, Bool.and_self, Bool.or_true, Bool.or_false]
      · simp (decide := true) only [runBody, List.map, List.length_cons, List.length_nil, List.replicate, List.cons_append, List.nil_append, evSs, evS, evE, evEs, evAnd, evOr, evT, evO, rb, List.getElem?_cons_zero, List.getElem?_cons_succ, sn_int, sn_str, sn_bl, sn_tup, sn_lst, sn_non, sn_dic, sn_ro, ix_l, ix_t, ix_r, ro_some, c_gt, c_ge, c_lt, c_le, decide_true, decide_false, ab, if_true, if_false, Bool.false_eq_true, Bool.not_true, Bool.not_false, bi_int, bi_intb, bi_abs, bi_lenl, bi_lent, bi_lenr, bi_tupl, b_add, b_sub, asgT, asgTs, setAll, List.set_cons_zero, List.set_cons_succ, ir_int, ir_str, ir_tup, ir_lst, ir_bl, ir_non, ir_dic, ir_ro, List.length_set, tn0, tn1, tn2, tn3, lim_ok, f0, bi, cop, h1, h2, Bool.or_self, Bool.and_self, Bool.or_true, Bool.or_false, Bool.and_false]
    · simp (decide := true) only [runBody, List.map, List.length_cons, List.length_nil, List.replicate, List.cons_append, List.nil_append, evSs, evS, evE, evEs, evAnd, evOr, evT, evO, rb, List.getElem?_cons_zero, List.getElem?_cons_succ, sn_int, sn_str, sn_bl, sn_tup, sn_lst, sn_non, sn_dic, sn_ro, ix_l, ix_t, ix_r, ro_some, c_gt, c_ge, c_lt, c_le, decide_true, decide_false, ab, if_true, if_false, Bool.false_eq_true, Bool.not_true, Bool.not_false, bi_int, bi_intb, bi_abs, bi_lenl, bi_lent, bi_lenr, bi_tupl, b_add, b_sub, asgT, asgTs, setAll, List.set_cons_zero, List.set_cons_succ, ir_int, ir_str, ir_tup, ir_lst, ir_bl, ir_non, ir_dic, ir_ro, List.length_set, tn0, tn1, tn2, tn3, lim_ok, f0, bi, cop, h1, Bool.or_self, Bool.and_self, Bool.or_true, Bool.or_false, Bool.false_and]
  rw [body_ret (fn := f0) e]
  exact fin_d rfl rfl
theorem isTup_run {F n : Nat} {st : Sto} (ds : List D) (lo hi : Int) : callN T C F (n + 1) 1 [.tup ds, .int lo, .int hi] st = .ok (.bl (decide (lo ≤ ds.length) && decide ((ds.length : Int) ≤ hi)), st) := by
  rw [call_eq (fn := f1) rfl]
  show runBody _ _ _ f1 [.tup ds, .int lo, .int hi] st = _
  have e : evSs (callN T C F n) C F f1.body [some (.tup ds), some (.int lo), some (.int hi)] st = .ok (.ret (.bl (decide (lo ≤ ds.length) && decide ((ds.length : Int) ≤ hi))), [some (.tup ds), some (.int lo), some (.int hi)], st) := by
    by_cases h1 : lo ≤ ds.length
    · by_cases h2 : (ds.length : Int) ≤ hi
      · simp (decide := true) only [runBody, List.map, List.length_cons, List.length_nil, List.replicate, List.cons_append, List.nil_append, evSs, evS, evE, evEs, evAnd, evOr, evT, evO, rb, List.getElem?_cons_zero, List.getElem?_cons_succ, sn_int, sn_str, sn_bl, sn_tup, sn_lst, sn_non, sn_dic, sn_ro, ix_l, ix_t, ix_r, ro_some, c_gt, c_ge, c_lt, c_le, decide_true, decide_false, ab, if_true, if_false, Bool.false_eq_true, Bool.not_true, Bool.not_false, bi_int, bi_intb, bi_abs, bi_lenl, bi_lent, bi_lenr, bi_tupl, b_add, b_sub, asgT, asgTs, setAll, List.set_cons_zero, List.set_cons_succ, ir_int, ir_str, ir_tup, ir_lst, ir_bl, ir_non, ir_dic, ir_ro, List.length_set, tn0, tn1, tn2, tn3, lim_ok, f1, bi, cop, h1, h2, Bool.or_self, Bool.and_self, Bool.or_true, Bool.or_false]
      · simp (decide := true) only [runBody, List.map, List.length_cons, List.length_nil, List.replicate, List.cons_append, List.nil_append, evSs, evS, evE, evEs, evAnd, evOr, evT, evO, rb, List.getElem?_cons_zero, List.getElem?_cons_succ, sn_int, sn_str, sn_bl, sn_tup, sn_lst, sn_non, sn_dic, sn_ro, ix_l, ix_t, ix_r, ro_some, c_gt, c_ge, c_lt, c_le, decide_true, decide_false, ab, if_true, if_false, Bool.false_eq_true, Bool.not_true, Bool.not_false, bi_int, bi_intb, bi_abs, bi_lenl, bi_lent, bi_lenr, bi_tupl, b_add, b_sub, asgT, asgTs, setAll, List.set_cons_zero, List.set_cons_succ, ir_int, ir_str, ir_tup, ir_lst, ir_bl, ir_non, ir_dic, ir_ro, List.length_set, tn0, tn1, tn2, tn3, lim_ok, f1, bi, cop, h1, h2, Bool.or_self, Bool.and_self, Bool.or_true, Bool.or_false, Bool.and_false]
    · simp (decide := true) only [runBody, List.map, List.length_cons, List.length_nil, List.replicate, List.cons_append, List.nil_append, evSs, evS, evE, evEs, evAnd, evOr, evT, evO, rb, List.getElem?_cons_zero, List.getElem?_cons_succ, sn_int, sn_str, sn_bl, sn_tup, sn_lst, sn_non, sn_dic, sn_ro, ix_l, ix_t, ix_r, ro_some, c_gt, c_ge, c_lt, c_le, decide_true, decide_false, ab, if_true, if_false, Bool.false_eq_true, Bool.not_true, Bool.not_false, bi_int, bi_intb, bi_abs, bi_lenl, bi_lent, bi_lenr, bi_tupl, b_add, b_sub, asgT, asgTs, setAll, List.set_cons_zero, List.set_cons_succ, ir_int, ir_str, ir_tup, ir_lst, ir_bl, ir_non, ir_dic, ir_ro, List.length_set, tn0, tn1, tn2, tn3, lim_ok, f1, bi, cop, h1, Bool.or_self, Bool.and_self, Bool.or_true, Bool.or_false, Bool.false_and]
  rw [body_ret (fn := f1) e]
  exact fin_d rfl rfl
theorem isTup1_run {F n : Nat} {st : Sto} (ds : List D) : callN T C F (n + 1) 1 [.tup ds] st = .ok (.bl true, st) := by
  rw [call_eq (fn := f1) rfl]
  show runBody (callN T C F n) C F f1 [.tup ds, .int 0, .non] st = _
  have e : evSs (callN T C F n) C F f1.body [some (.tup ds), some (.int 0), some .non] st = .ok (.ret (.bl true), [some (.tup ds), some (.int 0), some .non], st) := by
    have h : (0 : Int) ≤ ds.length := by omega
    simp (decide := true) only [runBody, List.map, List.length_cons, List.length_nil, List.replicate, List.cons_append, List.nil_append, evSs, evS, evE, evEs, evAnd, evOr, evT, evO, rb, List.getElem?_cons_zero, List.getElem?_cons_succ, sn_int, sn_str, sn_bl, sn_tup, sn_lst, sn_non, sn_dic, sn_ro, ix_l, ix_t, ix_r, ro_some, c_gt, c_ge, c_lt, c_le, decide_true, decide_false, ab, if_true, if_false, Bool.false_eq_true, Bool.not_true, Bool.not_false, bi_int, bi_intb, bi_abs, bi_lenl, bi_lent, bi_lenr, bi_tupl, b_add, b_sub, asgT, asgTs, setAll, List.set_cons_zero, List.set_cons_succ, ir_int, ir_str, ir_tup, ir_lst, ir_bl, ir_non, ir_dic, ir_ro, List.length_set, tn0, tn1, tn2, tn3, lim_ok, f1, bi, cop, h, Bool.or_self, Bool.and_self, Bool.or_true, Bool.or_false]
  rw [body_ret (fn := f1) e]
  exact fin_d rfl rfl
def NAMES : List Str := ["a", "b", "c", "d", "task", "may", "few", "do", "go", "x", "zzzzzzzz", "same", "bench", "stock", "plan", "m"]
theorem isName_run {F n : Nat} {st : Sto} {x : Str} (h : x ∈ NAMES) : callN T C F (n + 1) 2 [.str x] st = .ok (.bl true, st) := by
  rw [call_eq (fn := f2) rfl]
  show runBody _ _ _ f2 [.str x] st = _
  have e : evSs (callN T C F n) C F f2.body [some (.str x), none] st = .ok (.ret (.bl true), [some (.str x), none], st) := by
    have h' : x = "a" ∨ x = "b" ∨ x = "c" ∨ x = "d" ∨ x = "task" ∨ x = "may" ∨ x = "few" ∨ x = "do" ∨ x = "go" ∨ x = "x" ∨ x = "zzzzzzzz" ∨ x = "same" ∨ x = "bench" ∨ x = "stock" ∨ x = "plan" ∨ x = "m" := by
      unfold NAMES at h
      simpa only [List.mem_cons, List.not_mem_nil, or_false] using h
    rcases h' with h | h | h | h | h | h | h | h | h | h | h | h | h | h | h | h <;> subst h <;> rfl
  rw [body_ret (fn := f2) e]
  exact fin_d rfl rfl
end K10

set_option Elab.async false
set_option linter.all false
set_option maxRecDepth 100000
set_option maxHeartbeats 1000000
namespace K10
open PySem En
theorem name_ok {x : Str} (h : x ∈ NAMES) : PyData.strOk x = true := by
  have : ∀ y ∈ NAMES, PyData.strOk y = true := by decide +kernel
  exact this x h
/-- are_unlike of names, none twice -/
theorem unlike_run {F n : Nat} {st : Sto} {ts : List Str} (hn : ∀ t ∈ ts, t ∈ NAMES) (nd : ts.Nodup) : callN T C F (n + 1) 3 [.tup (ts.map .str)] st = .ok (.bl true, st) := by
  rw [call_eq (fn := f3) rfl, run0 rfl rfl]
  have e : evSs (callN T C F n) C F f3.body [some (.tup (ts.map .str)), none, none] st = .ok (.ret (.bl true), [some (.tup (ts.map .str)), none, none], st) := by
    have hi : evI (callN T C F n) C (.enum (.var 0)) [some (.tup (ts.map .str)), none, none] st = .ok (enumD 0 (ts.map .str), st) := by
      simp only [evI, evE, List.getElem?_cons_zero, rb]
    have hc := ev_comp (Γ := callN T C F n) (C := C) (e := .cmp .notin (.var 2) (.slc (.var 0) none (some (.var 1)))) (t := .tup [.name 1, .name 2]) (own := [1, 2]) (f := fun _ => .bl true) hi fun x hx => by
      obtain ⟨i, d, h1, rfl⟩ := mem_enum hx
      rw [Nat.zero_add]
      rw [List.getElem?_map] at h1
      obtain ⟨t, h2, rfl⟩ := Option.map_eq_some_iff.mp h1
      have hil : i < ts.length := by
        by_cases q : i < ts.length
        · exact q
        · rw [List.getElem?_eq_none (by omega)] at h2; cases h2
      refine ⟨[some (.tup (ts.map .str)), some (.int (i : Int)), some (.str t)], ?_, ?_, rfl⟩
      · simp only [wipeD, List.set_cons_zero, List.set_cons_succ, asgT, asgTs]
      · have h3 : slc (.tup (ts.map D.str)) none (some (.int (i : Int))) = .ok (.tup ((ts.take i).map .str)) := by
          simp only [slc, optI]
          rw [cut_take (ts.map D.str) i (by rw [List.length_map]; omega), List.map_take]
        have h4 : isin (.str t) (.tup ((ts.take i).map .str)) = .ok false := by
          rw [in_strs (name_ok (hn t (List.mem_of_getElem? h2))) fun y hy => name_ok (hn y (List.mem_of_mem_take hy))]
          congr 1
          rw [List.contains_eq_mem, decide_eq_false_iff_not]
          intro hm
          obtain ⟨j, hj⟩ := List.mem_iff_getElem?.mp hm
          rw [List.getElem?_take] at hj
          split at hj
          · rename_i hji
            have := (List.getElem?_inj (by omega : j < ts.length) nd).mp (hj.trans h2.symm)
            omega
          · cases hj
        simp (decide := true) only [runBody, List.map, List.length_cons, List.length_nil, List.replicate, List.cons_append, List.nil_append, evSs, x_lit, x_var, x_glob, x_bin, x_neg, x_not, x_cmp, x_chain, x_and, x_or, x_ite, x_tup, x_lst, x_lstM, x_idx, x_slc, x_rev, x_call, x_bi, x_copyM, x_append, x_extend, x_popAt, x_pop, x_frz, x_dnew, x_rng1, x_rng2, x_dget, y_asg, y_par, y_aug, y_ex, y_setix, y_ite, y_ret, y_retN, y_brk, y_cont, y_pass, y_never, y_frzV, evEs, evAnd, evOr, evT, evO, rb, List.getElem?_cons_zero, List.getElem?_cons_succ, sn_int, sn_str, sn_bl, sn_tup, sn_lst, sn_non, sn_dic, sn_ro, ix_l, ix_t, ix_r, ro_some, c_gt, c_ge, c_lt, c_le, decide_true, decide_false, ab, if_true, if_false, Bool.false_eq_true, Bool.not_true, Bool.not_false, bi_int, bi_intb, bi_abs, bi_lenl, bi_lent, bi_lenr, bi_tupl, b_add, b_sub, asgT, asgTs, setAll, List.set_cons_zero, List.set_cons_succ, ir_int, ir_str, ir_tup, ir_lst, ir_bl, ir_non, ir_dic, ir_ro, List.length_set, tn0, tn1, tn2, tn3, lim_ok, h3, cop, h4]
    simp (decide := true) only [runBody, List.map, List.length_cons, List.length_nil, List.replicate, List.cons_append, List.nil_append, evSs, x_lit, x_var, x_glob, x_bin, x_neg, x_not, x_cmp, x_chain, x_and, x_or, x_ite, x_tup, x_lst, x_lstM, x_idx, x_slc, x_rev, x_call, x_bi, x_copyM, x_append, x_extend, x_popAt, x_pop, x_frz, x_dnew, x_rng1, x_rng2, x_dget, y_asg, y_par, y_aug, y_ex, y_setix, y_ite, y_ret, y_retN, y_brk, y_cont, y_pass, y_never, y_frzV, evEs, evAnd, evOr, evT, evO, rb, List.getElem?_cons_zero, List.getElem?_cons_succ, sn_int, sn_str, sn_bl, sn_tup, sn_lst, sn_non, sn_dic, sn_ro, ix_l, ix_t, ix_r, ro_some, c_gt, c_ge, c_lt, c_le, decide_true, decide_false, ab, if_true, if_false, Bool.false_eq_true, Bool.not_true, Bool.not_false, bi_int, bi_intb, bi_abs, bi_lenl, bi_lent, bi_lenr, bi_tupl, b_add, b_sub, asgT, asgTs, setAll, List.set_cons_zero, List.set_cons_succ, ir_int, ir_str, ir_tup, ir_lst, ir_bl, ir_non, ir_dic, ir_ro, List.length_set, tn0, tn1, tn2, tn3, lim_ok, f3, hc]
    rw [bi_all (fun _ => true)]
    simp
  rw [body_ret (fn := f3) e]
  exact fin_d rfl rfl
/-- are_names -/
theorem names_run {F n : Nat} {st : Sto} {ts : List Str} (hn : ∀ t ∈ ts, t ∈ NAMES) (nd : ts.Nodup) : callN T C F (n + 2) 5 [.tup (ts.map .str)] st = .ok (.bl true, st) := by
  rw [call_eq (fn := f5) rfl, run0 rfl rfl]
  have e : evSs (callN T C F (n + 1)) C F f5.body [some (.tup (ts.map .str)), none] st = .ok (.ret (.bl true), [some (.tup (ts.map .str)), none], st) := by
    have hi : evI (callN T C F (n + 1)) C (.seq (.var 0)) [some (.tup (ts.map .str)), none] st = .ok (ts.map .str, st) := by
      simp only [evI, evE, List.getElem?_cons_zero, rb, seqItems]
    have hc := ev_comp (Γ := callN T C F (n + 1)) (C := C) (e := .call 2 [.var 1]) (t := .name 1) (own := [1]) (f := fun _ => .bl true) hi fun x hx => by
      obtain ⟨t, ht, rfl⟩ := List.mem_map.mp hx
      refine ⟨[some (.tup (ts.map .str)), some (.str t)], ?_, ?_, rfl⟩
      · simp only [wipeD, List.set_cons_zero, List.set_cons_succ, asgT]
      · simp (decide := true) only [runBody, List.map, List.length_cons, List.length_nil, List.replicate, List.cons_append, List.nil_append, evSs, x_lit, x_var, x_glob, x_bin, x_neg, x_not, x_cmp, x_chain, x_and, x_or, x_ite, x_tup, x_lst, x_lstM, x_idx, x_slc, x_rev, x_call, x_bi, x_copyM, x_append, x_extend, x_popAt, x_pop, x_frz, x_dnew, x_rng1, x_rng2, x_dget, y_asg, y_par, y_aug, y_ex, y_setix, y_ite, y_ret, y_retN, y_brk, y_cont, y_pass, y_never, y_frzV, evEs, evAnd, evOr, evT, evO, rb, List.getElem?_cons_zero, List.getElem?_cons_succ, sn_int, sn_str, sn_bl, sn_tup, sn_lst, sn_non, sn_dic, sn_ro, ix_l, ix_t, ix_r, ro_some, c_gt, c_ge, c_lt, c_le, decide_true, decide_false, ab, if_true, if_false, Bool.false_eq_true, Bool.not_true, Bool.not_false, bi_int, bi_intb, bi_abs, bi_lenl, bi_lent, bi_lenr, bi_tupl, b_add, b_sub, asgT, asgTs, setAll, List.set_cons_zero, List.set_cons_succ, ir_int, ir_str, ir_tup, ir_lst, ir_bl, ir_non, ir_dic, ir_ro, List.length_set, tn0, tn1, tn2, tn3, lim_ok, isName_run (hn t ht)]
    simp (decide := true) only [runBody, List.map, List.length_cons, List.length_nil, List.replicate, List.cons_append, List.nil_append, evSs, x_lit, x_var, x_glob, x_bin, x_neg, x_not, x_cmp, x_chain, x_and, x_or, x_ite, x_tup, x_lst, x_lstM, x_idx, x_slc, x_rev, x_call, x_bi, x_copyM, x_append, x_extend, x_popAt, x_pop, x_frz, x_dnew, x_rng1, x_rng2, x_dget, y_asg, y_par, y_aug, y_ex, y_setix, y_ite, y_ret, y_retN, y_brk, y_cont, y_pass, y_never, y_frzV, evEs, evAnd, evOr, evT, evO, rb, List.getElem?_cons_zero, List.getElem?_cons_succ, sn_int, sn_str, sn_bl, sn_tup, sn_lst, sn_non, sn_dic, sn_ro, ix_l, ix_t, ix_r, ro_some, c_gt, c_ge, c_lt, c_le, decide_true, decide_false, ab, if_true, if_false, Bool.false_eq_true, Bool.not_true, Bool.not_false, bi_int, bi_intb, bi_abs, bi_lenl, bi_lent, bi_lenr, bi_tupl, b_add, b_sub, asgT, asgTs, setAll, List.set_cons_zero, List.set_cons_succ, ir_int, ir_str, ir_tup, ir_lst, ir_bl, ir_non, ir_dic, ir_ro, List.length_set, tn0, tn1, tn2, tn3, lim_ok, f5, hc, isTup1_run, unlike_run hn nd]
    rw [bi_all (fun _ => true)]
    simp [Res.bind, asBool]
  rw [body_ret (fn := f5) e]
  exact fin_d rfl rfl
theorem tasks_run {F n : Nat} {st : Sto} {ts : List Str} (hn : ∀ t ∈ ts, t ∈ NAMES) (nd : ts.Nodup) : callN T C F (n + 3) 9 [.tup (ts.map .str)] st = .ok (.non, st) := by
  rw [call_eq (fn := f9) rfl, run0 rfl rfl]
  have e : evSs (callN T C F (n + 2)) C F f9.body [some (.tup (ts.map .str))] st = .ok (.next, [some (.tup (ts.map .str))], st) := by
    simp (decide := true) only [runBody, List.map, List.length_cons, List.length_nil, List.replicate, List.cons_append, List.nil_append, evSs, x_lit, x_var, x_glob, x_bin, x_neg, x_not, x_cmp, x_chain, x_and, x_or, x_ite, x_tup, x_lst, x_lstM, x_idx, x_slc, x_rev, x_call, x_bi, x_copyM, x_append, x_extend, x_popAt, x_pop, x_frz, x_dnew, x_rng1, x_rng2, x_dget, y_asg, y_par, y_aug, y_ex, y_setix, y_ite, y_ret, y_retN, y_brk, y_cont, y_pass, y_never, y_frzV, evEs, evAnd, evOr, evT, evO, rb, List.getElem?_cons_zero, List.getElem?_cons_succ, sn_int, sn_str, sn_bl, sn_tup, sn_lst, sn_non, sn_dic, sn_ro, ix_l, ix_t, ix_r, ro_some, c_gt, c_ge, c_lt, c_le, decide_true, decide_false, ab, if_true, if_false, Bool.false_eq_true, Bool.not_true, Bool.not_false, bi_int, bi_intb, bi_abs, bi_lenl, bi_lent, bi_lenr, bi_tupl, b_add, b_sub, asgT, asgTs, setAll, List.set_cons_zero, List.set_cons_succ, ir_int, ir_str, ir_tup, ir_lst, ir_bl, ir_non, ir_dic, ir_ro, List.length_set, tn0, tn1, tn2, tn3, lim_ok, f9, names_run hn nd]
  rw [body_next (fn := f9) e]
  exact fin_d rfl rfl
theorem stock_run {F n : Nat} {st : Sto} {v : Int} (h0 : 0 ≤ v) (h1 : v ≤ 99999) : callN T C F (n + 2) 8 [.int v] st = .ok (.non, st) := by
  rw [call_eq (fn := f8) rfl, run0 rfl rfl]
  have g : C 4 = some (.int 99999) := rfl
  have e : evSs (callN T C F (n + 1)) C F f8.body [some (.int v)] st = .ok (.next, [some (.int v)], st) := by
    simp (decide := true) only [runBody, List.map, List.length_cons, List.length_nil, List.replicate, List.cons_append, List.nil_append, evSs, x_lit, x_var, x_glob, x_bin, x_neg, x_not, x_cmp, x_chain, x_and, x_or, x_ite, x_tup, x_lst, x_lstM, x_idx, x_slc, x_rev, x_call, x_bi, x_copyM, x_append, x_extend, x_popAt, x_pop, x_frz, x_dnew, x_rng1, x_rng2, x_dget, y_asg, y_par, y_aug, y_ex, y_setix, y_ite, y_ret, y_retN, y_brk, y_cont, y_pass, y_never, y_frzV, evEs, evAnd, evOr, evT, evO, rb, List.getElem?_cons_zero, List.getElem?_cons_succ, sn_int, sn_str, sn_bl, sn_tup, sn_lst, sn_non, sn_dic, sn_ro, ix_l, ix_t, ix_r, ro_some, c_gt, c_ge, c_lt, c_le, decide_true, decide_false, ab, if_true, if_false, Bool.false_eq_true, Bool.not_true, Bool.not_false, bi_int, bi_intb, bi_abs, bi_lenl, bi_lent, bi_lenr, bi_tupl, b_add, b_sub, asgT, asgTs, setAll, List.set_cons_zero, List.set_cons_succ, ir_int, ir_str, ir_tup, ir_lst, ir_bl, ir_non, ir_dic, ir_ro, List.length_set, tn0, tn1, tn2, tn3, lim_ok, f8, g, isInt_run, h0, h1, Bool.and_self]
  rw [body_next (fn := f8) e]
  exact fin_d rfl rfl
end K10

set_option Elab.async false
set_option linter.all false
set_option maxRecDepth 100000
set_option maxHeartbeats 400000
namespace K10
open PySem En
abbrev Rw := Str × Int × Int
def rowD (r : Rw) : D := .tup [.str r.1, .int r.2.1, .int r.2.2]
structure RowG (r : Rw) : Prop where
  nm : r.1 ∈ NAMES
  n0 : 0 ≤ r.2.1
  n1 : r.2.1 ≤ 9999
  g0 : -9999 ≤ r.2.2
  g1 : r.2.2 ≤ 9999
  s0 : 0 ≤ r.2.1 + r.2.2
  s1 : r.2.1 + r.2.2 ≤ 9999
theorem at3_m (a b c : D) : atD [a, b, c] (-1) = some c := rfl
theorem row_run {F n : Nat} {st : Sto} {r : Rw} (h : RowG r) : callN T C F (n + 2) 6 [rowD r] st = .ok (.bl true, st) := by
  obtain ⟨x, nd, gn⟩ := r
  rw [call_eq (fn := f6) rfl, run0 rfl rfl]
  have g3 : C 3 = some (.int 9999) := rfl
  have g5 : C 5 = some (.int 3) := rfl
  have h1 : 0 ≤ nd := h.n0
  have h2 : nd ≤ 9999 := h.n1
  have h3 : -9999 ≤ gn := h.g0
  have h4 : gn ≤ 9999 := h.g1
  have h5 : 0 ≤ nd + gn := h.s0
  have h6 : nd + gn ≤ 9999 := h.s1
  have e : evSs (callN T C F (n + 1)) C F f6.body [some (rowD (x, nd, gn))] st = .ok (.ret (.bl true), [some (rowD (x, nd, gn))], st) := by
    simp (decide := true) only [runBody, List.map, List.length_cons, List.length_nil, List.replicate, List.cons_append, List.nil_append, evSs, x_lit, x_var, x_glob, x_bin, x_neg, x_not, x_cmp, x_chain, x_and, x_or, x_ite, x_tup, x_lst, x_lstM, x_idx, x_slc, x_rev, x_call, x_bi, x_copyM, x_append, x_extend, x_popAt, x_pop, x_frz, x_dnew, x_rng1, x_rng2, x_dget, y_asg, y_par, y_aug, y_ex, y_setix, y_ite, y_ret, y_retN, y_brk, y_cont, y_pass, y_never, y_frzV, evEs, evAnd, evOr, evT, evO, rb, List.getElem?_cons_zero, List.getElem?_cons_succ, sn_int, sn_str, sn_bl, sn_tup, sn_lst, sn_non, sn_dic, sn_ro, ix_l, ix_t, ix_r, ro_some, c_gt, c_ge, c_lt, c_le, decide_true, decide_false, ab, if_true, if_false, Bool.false_eq_true, Bool.not_true, Bool.not_false, bi_int, bi_intb, bi_abs, bi_lenl, bi_lent, bi_lenr, bi_tupl, b_add, b_sub, asgT, asgTs, setAll, List.set_cons_zero, List.set_cons_succ, ir_int, ir_str, ir_tup, ir_lst, ir_bl, ir_non, ir_dic, ir_ro, List.length_set, tn0, tn1, tn2, tn3, lim_ok, f6, rowD, g3, g5, isTup_run, at3_0, at3_1, at3_m, isName_run h.nm, isInt_run, h1, h2, h3, h4, h5, h6, Bool.and_self, Bool.or_self]
  rw [body_ret (fn := f6) e]
  exact fin_d rfl rfl
def Asc (ts : List Str) : Prop := ∀ (i : Nat) (x y : Str), ts[i]? = some x → ts[i + 1]? = some y → ltStr x y = true
theorem c_lts (x y : Str) : cop .lt (.str x) (.str y) = .ok (ltStr x y) := rfl
theorem asc_run {F n : Nat} {st : Sto} {ts : List Str} (ha : Asc ts) : callN T C F (n + 1) 4 [.lst (ts.map .str)] st = .ok (.bl true, st) := by
  rw [call_eq (fn := f4) rfl, run0 rfl rfl]
  have e : evSs (callN T C F n) C F f4.body [some (.lst (ts.map .str)), none, none] st = .ok (.ret (.bl true), [some (.lst (ts.map .str)), none, none], st) := by
    have hs : slc (.lst (ts.map D.str)) (some (.int 1)) none = .ok (.lst ((ts.map .str).drop 1)) := by
      simp only [slc, optI]
      rw [cut_drop1]
    have hi : evI (callN T C F n) C (.zip (.var 0) (.slc (.var 0) (some (.lit (.int 1))) none)) [some (.lst (ts.map .str)), none, none] st = .ok (zipD (ts.map .str) ((ts.map .str).drop 1), st) := by
      simp only [evI, x_var, x_slc, x_lit, evO, List.getElem?_cons_zero, rb, sn_lst, hs]
    have hc := ev_comp (Γ := callN T C F n) (C := C) (e := .cmp .lt (.var 1) (.var 2)) (t := .tup [.name 1, .name 2]) (own := [1, 2]) (f := fun _ => .bl true) hi fun x hx => by
      obtain ⟨i, a, b, h1, h2, rfl⟩ := mem_zip hx
      rw [List.getElem?_map] at h1
      rw [List.getElem?_drop, List.getElem?_map, Nat.add_comm] at h2
      obtain ⟨a, k1, rfl⟩ := Option.map_eq_some_iff.mp h1
      obtain ⟨b, k2, rfl⟩ := Option.map_eq_some_iff.mp h2
      refine ⟨[some (.lst (ts.map .str)), some (.str a), some (.str b)], ?_, ?_, rfl⟩
      · simp only [wipeD, List.set_cons_zero, List.set_cons_succ, asgT, asgTs]
      · simp (decide := true) only [runBody, List.map, List.length_cons, List.length_nil, List.replicate, List.cons_append, List.nil_append, evSs, x_lit, x_var, x_glob, x_bin, x_neg, x_not, x_cmp, x_chain, x_and, x_or, x_ite, x_tup, x_lst, x_lstM, x_idx, x_slc, x_rev, x_call, x_bi, x_copyM, x_append, x_extend, x_popAt, x_pop, x_frz, x_dnew, x_rng1, x_rng2, x_dget, y_asg, y_par, y_aug, y_ex, y_setix, y_ite, y_ret, y_retN, y_brk, y_cont, y_pass, y_never, y_frzV, evEs, evAnd, evOr, evT, evO, rb, List.getElem?_cons_zero, List.getElem?_cons_succ, sn_int, sn_str, sn_bl, sn_tup, sn_lst, sn_non, sn_dic, sn_ro, ix_l, ix_t, ix_r, ro_some, c_gt, c_ge, c_lt, c_le, decide_true, decide_false, ab, if_true, if_false, Bool.false_eq_true, Bool.not_true, Bool.not_false, bi_int, bi_intb, bi_abs, bi_lenl, bi_lent, bi_lenr, bi_tupl, b_add, b_sub, asgT, asgTs, setAll, List.set_cons_zero, List.set_cons_succ, ir_int, ir_str, ir_tup, ir_lst, ir_bl, ir_non, ir_dic, ir_ro, List.length_set, tn0, tn1, tn2, tn3, lim_ok, c_lts, ha i a b k1 k2]
    simp (decide := true) only [runBody, List.map, List.length_cons, List.length_nil, List.replicate, List.cons_append, List.nil_append, evSs, x_lit, x_var, x_glob, x_bin, x_neg, x_not, x_cmp, x_chain, x_and, x_or, x_ite, x_tup, x_lst, x_lstM, x_idx, x_slc, x_rev, x_call, x_bi, x_copyM, x_append, x_extend, x_popAt, x_pop, x_frz, x_dnew, x_rng1, x_rng2, x_dget, y_asg, y_par, y_aug, y_ex, y_setix, y_ite, y_ret, y_retN, y_brk, y_cont, y_pass, y_never, y_frzV, evEs, evAnd, evOr, evT, evO, rb, List.getElem?_cons_zero, List.getElem?_cons_succ, sn_int, sn_str, sn_bl, sn_tup, sn_lst, sn_non, sn_dic, sn_ro, ix_l, ix_t, ix_r, ro_some, c_gt, c_ge, c_lt, c_le, decide_true, decide_false, ab, if_true, if_false, Bool.false_eq_true, Bool.not_true, Bool.not_false, bi_int, bi_intb, bi_abs, bi_lenl, bi_lent, bi_lenr, bi_tupl, b_add, b_sub, asgT, asgTs, setAll, List.set_cons_zero, List.set_cons_succ, ir_int, ir_str, ir_tup, ir_lst, ir_bl, ir_non, ir_dic, ir_ro, List.length_set, tn0, tn1, tn2, tn3, lim_ok, f4, hc]
    rw [bi_all (fun _ => true)]
    simp
  rw [body_ret (fn := f4) e]
  exact fin_d rfl rfl
theorem trade_run {F n : Nat} {st : Sto} {rs : List Rw} (hg : ∀ r ∈ rs, RowG r) (ha : Asc (rs.map (·.1))) (hl : rs.length ≤ 16) : callN T C F (n + 3) 7 [.tup (rs.map rowD)] st = .ok (.non, st) := by
  rw [call_eq (fn := f7) rfl, run0 rfl rfl]
  have g2 : C 2 = some (.int 16) := rfl
  have e : evSs (callN T C F (n + 2)) C F f7.body [some (.tup (rs.map rowD)), none] st = .ok (.next, [some (.tup (rs.map rowD)), none], st) := by
    have hi : evI (callN T C F (n + 2)) C (.seq (.var 0)) [some (.tup (rs.map rowD)), none] st = .ok (rs.map rowD, st) := by
      simp only [evI, x_var, List.getElem?_cons_zero, rb, seqItems]
    have hc := ev_comp (Γ := callN T C F (n + 2)) (C := C) (e := .call 6 [.var 1]) (t := .name 1) (own := [1]) (f := fun _ => .bl true) hi fun x hx => by
      obtain ⟨r, hr, rfl⟩ := List.mem_map.mp hx
      refine ⟨[some (.tup (rs.map rowD)), some (rowD r)], ?_, ?_, rfl⟩
      · simp only [wipeD, List.set_cons_zero, List.set_cons_succ, asgT]
      · simp (decide := true) only [runBody, List.map, List.length_cons, List.length_nil, List.replicate, List.cons_append, List.nil_append, evSs, x_lit, x_var, x_glob, x_bin, x_neg, x_not, x_cmp, x_chain, x_and, x_or, x_ite, x_tup, x_lst, x_lstM, x_idx, x_slc, x_rev, x_call, x_bi, x_copyM, x_append, x_extend, x_popAt, x_pop, x_frz, x_dnew, x_rng1, x_rng2, x_dget, y_asg, y_par, y_aug, y_ex, y_setix, y_ite, y_ret, y_retN, y_brk, y_cont, y_pass, y_never, y_frzV, evEs, evAnd, evOr, evT, evO, rb, List.getElem?_cons_zero, List.getElem?_cons_succ, sn_int, sn_str, sn_bl, sn_tup, sn_lst, sn_non, sn_dic, sn_ro, ix_l, ix_t, ix_r, ro_some, c_gt, c_ge, c_lt, c_le, decide_true, decide_false, ab, if_true, if_false, Bool.false_eq_true, Bool.not_true, Bool.not_false, bi_int, bi_intb, bi_abs, bi_lenl, bi_lent, bi_lenr, bi_tupl, b_add, b_sub, asgT, asgTs, setAll, List.set_cons_zero, List.set_cons_succ, ir_int, ir_str, ir_tup, ir_lst, ir_bl, ir_non, ir_dic, ir_ro, List.length_set, tn0, tn1, tn2, tn3, lim_ok, row_run (hg r hr)]
    have hc2 := ev_comp (Γ := callN T C F (n + 2)) (C := C) (e := .idx (.var 1) (.lit (.int 0))) (t := .name 1) (own := [1]) (f := fun d => match d with | .tup (a :: _) => a | _ => .non) hi fun x hx => by
      obtain ⟨r, hr, rfl⟩ := List.mem_map.mp hx
      refine ⟨[some (.tup (rs.map rowD)), some (rowD r)], ?_, ?_, rfl⟩
      · simp only [wipeD, List.set_cons_zero, List.set_cons_succ, asgT]
      · simp (decide := true) only [runBody, List.map, List.length_cons, List.length_nil, List.replicate, List.cons_append, List.nil_append, evSs, x_lit, x_var, x_glob, x_bin, x_neg, x_not, x_cmp, x_chain, x_and, x_or, x_ite, x_tup, x_lst, x_lstM, x_idx, x_slc, x_rev, x_call, x_bi, x_copyM, x_append, x_extend, x_popAt, x_pop, x_frz, x_dnew, x_rng1, x_rng2, x_dget, y_asg, y_par, y_aug, y_ex, y_setix, y_ite, y_ret, y_retN, y_brk, y_cont, y_pass, y_never, y_frzV, evEs, evAnd, evOr, evT, evO, rb, List.getElem?_cons_zero, List.getElem?_cons_succ, sn_int, sn_str, sn_bl, sn_tup, sn_lst, sn_non, sn_dic, sn_ro, ix_l, ix_t, ix_r, ro_some, c_gt, c_ge, c_lt, c_le, decide_true, decide_false, ab, if_true, if_false, Bool.false_eq_true, Bool.not_true, Bool.not_false, bi_int, bi_intb, bi_abs, bi_lenl, bi_lent, bi_lenr, bi_tupl, b_add, b_sub, asgT, asgTs, setAll, List.set_cons_zero, List.set_cons_succ, ir_int, ir_str, ir_tup, ir_lst, ir_bl, ir_non, ir_dic, ir_ro, List.length_set, tn0, tn1, tn2, tn3, lim_ok, rowD, at3_0]
    rw [List.map_map] at hc hc2
    have em : rs.map ((fun d : D => match d with | .tup (a :: _) => a | _ => .non) ∘ rowD) = (rs.map (·.1)).map .str := by rw [List.map_map]; rfl
    rw [em] at hc2
    have l0 : (0 : Int) ≤ ((rs.map rowD).length : Int) := by omega
    have l1 : ((rs.map rowD).length : Int) ≤ 16 := by rw [List.length_map]; omega
    have ball : bi .all [.lst (rs.map ((fun _ => D.bl true) ∘ rowD))] = .ok (.bl true) := by
      have h := bi_all (fun _ : Rw => true) rs
      have ht : rs.all (fun _ => true) = true := List.all_eq_true.mpr fun _ _ => rfl
      rw [ht] at h
      exact h
    simp (decide := true) only [runBody, List.map, List.length_cons, List.length_nil, List.replicate, List.cons_append, List.nil_append, evSs, x_lit, x_var, x_glob, x_bin, x_neg, x_not, x_cmp, x_chain, x_and, x_or, x_ite, x_tup, x_lst, x_lstM, x_idx, x_slc, x_rev, x_call, x_bi, x_copyM, x_append, x_extend, x_popAt, x_pop, x_frz, x_dnew, x_rng1, x_rng2, x_dget, y_asg, y_par, y_aug, y_ex, y_setix, y_ite, y_ret, y_retN, y_brk, y_cont, y_pass, y_never, y_frzV, evEs, evAnd, evOr, evT, evO, rb, List.getElem?_cons_zero, List.getElem?_cons_succ, sn_int, sn_str, sn_bl, sn_tup, sn_lst, sn_non, sn_dic, sn_ro, ix_l, ix_t, ix_r, ro_some, c_gt, c_ge, c_lt, c_le, decide_true, decide_false, ab, if_true, if_false, Bool.false_eq_true, Bool.not_true, Bool.not_false, bi_int, bi_intb, bi_abs, bi_lenl, bi_lent, bi_lenr, bi_tupl, b_add, b_sub, asgT, asgTs, setAll, List.set_cons_zero, List.set_cons_succ, ir_int, ir_str, ir_tup, ir_lst, ir_bl, ir_non, ir_dic, ir_ro, List.length_set, tn0, tn1, tn2, tn3, lim_ok, f7, hc, hc2, g2, isTup_run, l0, l1, Bool.and_self, ball, asc_run ha]
  rw [body_next (fn := f7) e]
  exact fin_d rfl rfl
end K10

set_option Elab.async false
set_option linter.all false
set_option maxRecDepth 100000
set_option maxHeartbeats 400000
namespace K10
open PySem En
/-- the table's value of a task -/
def lookR (rs : List Rw) (t : Str) : Int × Int := ((rs.find? fun r => decide (r.1 = t)).map (·.2)).getD (0, 0)
def kvs (rs : List Rw) : List (L2.Key × D) := rs.map fun r => (.inr r.1, .tup [.int r.2.1, .int r.2.2])
theorem dput_new {l : List (L2.Key × D)} {k : L2.Key} {d : D} (h : ∀ p ∈ l, p.1 ≠ k) : dput l k d = l ++ [(k, d)] := by
  unfold dput
  rw [if_neg]
  simp only [List.any_eq_true, decide_eq_true_eq, not_exists, not_and]
  exact h
theorem dcomp_new {g : D → Sto → Res (Option (L2.Key × D) × Sto)} {st : Sto} : ∀ {rs : List Rw} {acc : List (L2.Key × D)}, (∀ r ∈ rs, g (rowD r) st = .ok (some (.inr r.1, .tup [.int r.2.1, .int r.2.2]), st)) → (rs.map (·.1)).Nodup → (∀ p ∈ acc, ∀ r ∈ rs, p.1 ≠ .inr r.1) →
    dcompGo g (rs.map rowD) acc st = .ok (acc ++ kvs rs, st)
  | [], acc, _, _, _ => by simp [dcompGo, kvs]
  | r :: rs, acc, h, nd, ha => by
    have nd' := List.nodup_cons.mp (show (r.1 :: rs.map (·.1)).Nodup from nd)
    simp only [List.map_cons, dcompGo, h r (List.mem_cons_self ..), rb]
    rw [dput_new fun p hp => ha p hp r (List.mem_cons_self ..), dcomp_new (fun x hx => h x (List.mem_cons_of_mem _ hx)) nd'.2 fun p hp x hx => ?_]
    · simp [kvs]
    · rcases List.mem_append.mp hp with hp | hp
      · exact ha p hp x (List.mem_cons_of_mem _ hx)
      · simp only [List.mem_singleton] at hp
        subst hp
        intro e
        have e' : r.1 = x.1 := Sum.inr.inj e
        exact nd'.1 (by rw [e']; exact List.mem_map_of_mem hx)
theorem dget_kvs : ∀ (rs : List Rw) (t : Str), ((dget (kvs rs) (.inr t)).getD (.tup [.int 0, .int 0])) = .tup [.int (lookR rs t).1, .int (lookR rs t).2]
  | [], t => rfl
  | r :: rs, t => by
    by_cases h : r.1 = t
    · simp [dget, kvs, lookR, h]
    · have ih := dget_kvs rs t
      simp only [dget, kvs, lookR, List.map_cons] at ih ⊢
      rw [List.find?_cons_of_neg (by simpa using fun e => h e), List.find?_cons_of_neg (by simpa using h)]
      exact ih
theorem table_run {F n : Nat} {st : Sto} {rs : List Rw} (nd : (rs.map (·.1)).Nodup) : callN T C F (n + 1) 10 [.tup (rs.map rowD)] st = .ok (.dic (kvs rs), st) := by
  rw [call_eq (fn := f10) rfl, run0 rfl rfl]
  have e : evSs (callN T C F n) C F f10.body [some (.tup (rs.map rowD)), none, none, none] st = .ok (.ret (.dic (kvs rs)), [some (.tup (rs.map rowD)), none, none, none], st) := by
    have hi : evI (callN T C F n) C (.seq (.var 0)) [some (.tup (rs.map rowD)), none, none, none] st = .ok (rs.map rowD, st) := by
      simp only [evI, x_var, List.getElem?_cons_zero, rb, seqItems]
    have hd : evE (callN T C F n) C (.dcomp (.tup [(.name 1), (.name 2), (.name 3)]) (.seq (.var 0)) none (.var 1) (.tup [(.var 2), (.var 3)]) [1, 2, 3]) [some (.tup (rs.map rowD)), none, none, none] st = .ok (.dic (kvs rs), st) := by
      rw [evE, hi, rb]
      dsimp only
      rw [dcomp_new (fun r hr => ?_) nd (fun p hp => by cases hp)]
      · rfl
      · simp (decide := true) only [runBody, List.map, List.length_cons, List.length_nil, List.replicate, List.cons_append, List.nil_append, evSs, x_lit, x_var, x_glob, x_bin, x_neg, x_not, x_cmp, x_chain, x_and, x_or, x_ite, x_tup, x_lst, x_lstM, x_idx, x_slc, x_rev, x_call, x_bi, x_copyM, x_append, x_extend, x_popAt, x_pop, x_frz, x_dnew, x_rng1, x_rng2, x_dget, y_asg, y_par, y_aug, y_ex, y_setix, y_ite, y_ret, y_retN, y_brk, y_cont, y_pass, y_never, y_frzV, evEs, evAnd, evOr, evT, evO, rb, List.getElem?_cons_zero, List.getElem?_cons_succ, sn_int, sn_str, sn_bl, sn_tup, sn_lst, sn_non, sn_dic, sn_ro, ix_l, ix_t, ix_r, ro_some, c_gt, c_ge, c_lt, c_le, decide_true, decide_false, ab, if_true, if_false, Bool.false_eq_true, Bool.not_true, Bool.not_false, bi_int, bi_intb, bi_abs, bi_lenl, bi_lent, bi_lenr, bi_tupl, b_add, b_sub, asgT, asgTs, setAll, List.set_cons_zero, List.set_cons_succ, ir_int, ir_str, ir_tup, ir_lst, ir_bl, ir_non, ir_dic, ir_ro, List.length_set, tn0, tn1, tn2, tn3, lim_ok, rowD, wipeD, noRefs, Bool.and_self, keyOf, lim_ok]
    simp (decide := true) only [runBody, List.map, List.length_cons, List.length_nil, List.replicate, List.cons_append, List.nil_append, evSs, x_lit, x_var, x_glob, x_bin, x_neg, x_not, x_cmp, x_chain, x_and, x_or, x_ite, x_tup, x_lst, x_lstM, x_idx, x_slc, x_rev, x_call, x_bi, x_copyM, x_append, x_extend, x_popAt, x_pop, x_frz, x_dnew, x_rng1, x_rng2, x_dget, y_asg, y_par, y_aug, y_ex, y_setix, y_ite, y_ret, y_retN, y_brk, y_cont, y_pass, y_never, y_frzV, evEs, evAnd, evOr, evT, evO, rb, List.getElem?_cons_zero, List.getElem?_cons_succ, sn_int, sn_str, sn_bl, sn_tup, sn_lst, sn_non, sn_dic, sn_ro, ix_l, ix_t, ix_r, ro_some, c_gt, c_ge, c_lt, c_le, decide_true, decide_false, ab, if_true, if_false, Bool.false_eq_true, Bool.not_true, Bool.not_false, bi_int, bi_intb, bi_abs, bi_lenl, bi_lent, bi_lenr, bi_tupl, b_add, b_sub, asgT, asgTs, setAll, List.set_cons_zero, List.set_cons_succ, ir_int, ir_str, ir_tup, ir_lst, ir_bl, ir_non, ir_dic, ir_ro, List.length_set, tn0, tn1, tn2, tn3, lim_ok, f10, hd]
  rw [body_ret (fn := f10) e]
  exact fin_d rfl rfl
/-- the steps of tasks: (need, gain) each -/
def stepD (p : Int × Int) : D := .tup [.int p.1, .int p.2]
theorem stepsOf_run {F n : Nat} {st : Sto} {rs : List Rw} {ts : List Str} : callN T C F (n + 1) 11 [.dic (kvs rs), .tup (ts.map .str)] st = .ok (.tup (ts.map fun t => stepD (lookR rs t)), st) := by
  rw [call_eq (fn := f11) rfl, run0 rfl rfl]
  have g6 : C 6 = some (.tup [.int 0, .int 0]) := rfl
  have e : evSs (callN T C F n) C F f11.body [some (.dic (kvs rs)), some (.tup (ts.map .str)), none] st = .ok (.ret (.tup (ts.map fun t => stepD (lookR rs t))), [some (.dic (kvs rs)), some (.tup (ts.map .str)), none], st) := by
    have hi : evI (callN T C F n) C (.seq (.var 1)) [some (.dic (kvs rs)), some (.tup (ts.map .str)), none] st = .ok (ts.map .str, st) := by
      simp only [evI, x_var, List.getElem?_cons_zero, List.getElem?_cons_succ, rb, seqItems]
    have hc := ev_comp (Γ := callN T C F n) (C := C) (e := .dget (.var 0) (.var 2) (some (.glob 6))) (t := .name 2) (own := [2]) (f := fun d => match d with | .str t => stepD (lookR rs t) | _ => .non) hi fun x hx => by
      obtain ⟨t, ht, rfl⟩ := List.mem_map.mp hx
      refine ⟨[some (.dic (kvs rs)), some (.tup (ts.map .str)), some (.str t)], ?_, ?_, rfl⟩
      · simp only [wipeD, List.set_cons_zero, List.set_cons_succ, asgT]
      · simp (decide := true) only [runBody, List.map, List.length_cons, List.length_nil, List.replicate, List.cons_append, List.nil_append, evSs, x_lit, x_var, x_glob, x_bin, x_neg, x_not, x_cmp, x_chain, x_and, x_or, x_ite, x_tup, x_lst, x_lstM, x_idx, x_slc, x_rev, x_call, x_bi, x_copyM, x_append, x_extend, x_popAt, x_pop, x_frz, x_dnew, x_rng1, x_rng2, x_dget, y_asg, y_par, y_aug, y_ex, y_setix, y_ite, y_ret, y_retN, y_brk, y_cont, y_pass, y_never, y_frzV, evEs, evAnd, evOr, evT, evO, rb, List.getElem?_cons_zero, List.getElem?_cons_succ, sn_int, sn_str, sn_bl, sn_tup, sn_lst, sn_non, sn_dic, sn_ro, ix_l, ix_t, ix_r, ro_some, c_gt, c_ge, c_lt, c_le, decide_true, decide_false, ab, if_true, if_false, Bool.false_eq_true, Bool.not_true, Bool.not_false, bi_int, bi_intb, bi_abs, bi_lenl, bi_lent, bi_lenr, bi_tupl, b_add, b_sub, asgT, asgTs, setAll, List.set_cons_zero, List.set_cons_succ, ir_int, ir_str, ir_tup, ir_lst, ir_bl, ir_non, ir_dic, ir_ro, List.length_set, tn0, tn1, tn2, tn3, lim_ok, asDic, keyOf, g6, Option.getD_some, dget_kvs]
        rfl
    rw [List.map_map] at hc
    have em : ts.map ((fun d : D => match d with | .str t => stepD (lookR rs t) | _ => .non) ∘ D.str) = ts.map fun t => stepD (lookR rs t) := rfl
    rw [em] at hc
    simp (decide := true) only [runBody, List.map, List.length_cons, List.length_nil, List.replicate, List.cons_append, List.nil_append, evSs, x_lit, x_var, x_glob, x_bin, x_neg, x_not, x_cmp, x_chain, x_and, x_or, x_ite, x_tup, x_lst, x_lstM, x_idx, x_slc, x_rev, x_call, x_bi, x_copyM, x_append, x_extend, x_popAt, x_pop, x_frz, x_dnew, x_rng1, x_rng2, x_dget, y_asg, y_par, y_aug, y_ex, y_setix, y_ite, y_ret, y_retN, y_brk, y_cont, y_pass, y_never, y_frzV, evEs, evAnd, evOr, evT, evO, rb, List.getElem?_cons_zero, List.getElem?_cons_succ, sn_int, sn_str, sn_bl, sn_tup, sn_lst, sn_non, sn_dic, sn_ro, ix_l, ix_t, ix_r, ro_some, c_gt, c_ge, c_lt, c_le, decide_true, decide_false, ab, if_true, if_false, Bool.false_eq_true, Bool.not_true, Bool.not_false, bi_int, bi_intb, bi_abs, bi_lenl, bi_lent, bi_lenr, bi_tupl, b_add, b_sub, asgT, asgTs, setAll, List.set_cons_zero, List.set_cons_succ, ir_int, ir_str, ir_tup, ir_lst, ir_bl, ir_non, ir_dic, ir_ro, List.length_set, tn0, tn1, tn2, tn3, lim_ok, f11, hc]
  rw [body_ret (fn := f11) e]
  exact fin_d rfl rfl
end K10

set_option Elab.async false
set_option linter.all false
set_option maxRecDepth 100000
set_option maxHeartbeats 400000
namespace K10
open PySem En
theorem fg_next {bind : D → En.Env → Option En.Env} {body : En.Env → Sto → Res (Fl × En.Env × Sto)} {x : D} {r : List D} {env env1 env2 : En.Env} {st st2 : Sto} (h1 : bind x env = some env1) (h2 : body env1 st = .ok (.next, env2, st2)) : forGo bind body (x :: r) env st = forGo bind body r env2 st2 := by
  simp only [forGo, h1, ro_some, rb, h2]
def mx (i j : Int) : Int := if j > i then j else i
theorem bi_max2 (i j : Int) : bi .max2 [.int i, .int j] = .ok (.int (mx i j)) := rfl
def leastGo : List (Int × Int) → Int → Int → Int
  | [], f, _ => f
  | p :: r, f, c => leastGo r (mx f (p.1 - c)) (c + p.2)
def leastBody : List CS := [.asg (.name 1) (.bi .max2 [(.var 1), (.bin .sub (.var 3) (.var 2))]), .aug 2 .add (.var 4)]
theorem least_loop {Γ : Fns} {F : Nat} {st : Sto} {d0 : D} : ∀ (ps : List (Int × Int)) (f c : Int) (a b : Option D), ∃ c' a' b', forGo (asgT (.tup [.name 3, .name 4])) (fun e s => evSs Γ C F leastBody e s) (ps.map stepD) [some d0, some (.int f), some (.int c), a, b] st =
    .ok (.next, [some d0, some (.int (leastGo ps f c)), some (.int c'), a', b'], st)
  | [], f, c, a, b => ⟨c, a, b, rfl⟩
  | p :: r, f, c, a, b => by
    obtain ⟨c', a', b', ih⟩ := least_loop (Γ := Γ) (F := F) (st := st) (d0 := d0) r (mx f (p.1 - c)) (c + p.2) (some (.int p.1)) (some (.int p.2))
    refine ⟨c', a', b', ?_⟩
    have e : evSs Γ C F leastBody [some d0, some (.int f), some (.int c), some (.int p.1), some (.int p.2)] st = .ok (.next, [some d0, some (.int (mx f (p.1 - c))), some (.int (c + p.2)), some (.int p.1), some (.int p.2)], st) := by
      simp (decide := true) only [runBody, List.map, List.length_cons, List.length_nil, List.replicate, List.cons_append, List.nil_append, evSs, x_lit, x_var, x_glob, x_bin, x_neg, x_not, x_cmp, x_chain, x_and, x_or, x_ite, x_tup, x_lst, x_lstM, x_idx, x_slc, x_rev, x_call, x_bi, x_copyM, x_append, x_extend, x_popAt, x_pop, x_frz, x_dnew, x_rng1, x_rng2, x_dget, y_asg, y_par, y_aug, y_ex, y_setix, y_ite, y_ret, y_retN, y_brk, y_cont, y_pass, y_never, y_frzV, evEs, evAnd, evOr, evT, evO, rb, List.getElem?_cons_zero, List.getElem?_cons_succ, sn_int, sn_str, sn_bl, sn_tup, sn_lst, sn_non, sn_dic, sn_ro, ix_l, ix_t, ix_r, ro_some, c_gt, c_ge, c_lt, c_le, decide_true, decide_false, ab, if_true, if_false, Bool.false_eq_true, Bool.not_true, Bool.not_false, bi_int, bi_intb, bi_abs, bi_lenl, bi_lent, bi_lenr, bi_tupl, b_add, b_sub, asgT, asgTs, setAll, List.set_cons_zero, List.set_cons_succ, ir_int, ir_str, ir_tup, ir_lst, ir_bl, ir_non, ir_dic, ir_ro, List.length_set, tn0, tn1, tn2, tn3, lim_ok, leastBody, bi_max2]
    rw [List.map_cons]
    exact (fg_next (env1 := [some d0, some (.int f), some (.int c), some (.int p.1), some (.int p.2)]) rfl e).trans ih
theorem least_run {F n : Nat} {st : Sto} (ps : List (Int × Int)) : callN T C F (n + 1) 13 [.tup (ps.map stepD)] st = .ok (.int (leastGo ps 0 0), st) := by
  rw [call_eq (fn := f13) rfl, run0 rfl rfl]
  obtain ⟨c', a', b', h⟩ := least_loop (Γ := callN T C F n) (F := F) (st := st) (d0 := .tup (ps.map stepD)) ps 0 0 none none
  have hi : evI (callN T C F n) C (.seq (.var 0)) [some (.tup (ps.map stepD)), some (.int 0), some (.int 0), none, none] st = .ok (ps.map stepD, st) := by
    simp only [evI, x_var, List.getElem?_cons_zero, rb, seqItems]
  have e1 : evS (callN T C F n) C F (.asg (.tup [(.name 1), (.name 2)]) (.tup [(.lit (.int 0)), (.lit (.int 0))])) [some (.tup (ps.map stepD)), none, none, none, none] st = .ok (.next, [some (.tup (ps.map stepD)), some (.int 0), some (.int 0), none, none], st) := by
    simp (decide := true) only [runBody, List.map, List.length_cons, List.length_nil, List.replicate, List.cons_append, List.nil_append, evSs, x_lit, x_var, x_glob, x_bin, x_neg, x_not, x_cmp, x_chain, x_and, x_or, x_ite, x_tup, x_lst, x_lstM, x_idx, x_slc, x_rev, x_call, x_bi, x_copyM, x_append, x_extend, x_popAt, x_pop, x_frz, x_dnew, x_rng1, x_rng2, x_dget, y_asg, y_par, y_aug, y_ex, y_setix, y_ite, y_ret, y_retN, y_brk, y_cont, y_pass, y_never, y_frzV, evEs, evAnd, evOr, evT, evO, rb, List.getElem?_cons_zero, List.getElem?_cons_succ, sn_int, sn_str, sn_bl, sn_tup, sn_lst, sn_non, sn_dic, sn_ro, ix_l, ix_t, ix_r, ro_some, c_gt, c_ge, c_lt, c_le, decide_true, decide_false, ab, if_true, if_false, Bool.false_eq_true, Bool.not_true, Bool.not_false, bi_int, bi_intb, bi_abs, bi_lenl, bi_lent, bi_lenr, bi_tupl, b_add, b_sub, asgT, asgTs, setAll, List.set_cons_zero, List.set_cons_succ, ir_int, ir_str, ir_tup, ir_lst, ir_bl, ir_non, ir_dic, ir_ro, List.length_set, tn0, tn1, tn2, tn3, lim_ok, noRefs, Bool.and_self]
  have e : evSs (callN T C F n) C F [.asg (.tup [(.name 1), (.name 2)]) (.tup [(.lit (.int 0)), (.lit (.int 0))]), .for_ (.tup [(.name 3), (.name 4)]) (.seq (.var 0)) leastBody, .ret (.var 1)] [some (.tup (ps.map stepD)), none, none, none, none] st =
      .ok (.ret (.int (leastGo ps 0 0)), [some (.tup (ps.map stepD)), some (.int (leastGo ps 0 0)), some (.int c'), a', b'], st) := by
    rw [ss_next e1, ss_next ((s_for hi).trans h)]
    simp (decide := true) only [runBody, List.map, List.length_cons, List.length_nil, List.replicate, List.cons_append, List.nil_append, evSs, x_lit, x_var, x_glob, x_bin, x_neg, x_not, x_cmp, x_chain, x_and, x_or, x_ite, x_tup, x_lst, x_lstM, x_idx, x_slc, x_rev, x_call, x_bi, x_copyM, x_append, x_extend, x_popAt, x_pop, x_frz, x_dnew, x_rng1, x_rng2, x_dget, y_asg, y_par, y_aug, y_ex, y_setix, y_ite, y_ret, y_retN, y_brk, y_cont, y_pass, y_never, y_frzV, evEs, evAnd, evOr, evT, evO, rb, List.getElem?_cons_zero, List.getElem?_cons_succ, sn_int, sn_str, sn_bl, sn_tup, sn_lst, sn_non, sn_dic, sn_ro, ix_l, ix_t, ix_r, ro_some, c_gt, c_ge, c_lt, c_le, decide_true, decide_false, ab, if_true, if_false, Bool.false_eq_true, Bool.not_true, Bool.not_false, bi_int, bi_intb, bi_abs, bi_lenl, bi_lent, bi_lenr, bi_tupl, b_add, b_sub, asgT, asgTs, setAll, List.set_cons_zero, List.set_cons_succ, ir_int, ir_str, ir_tup, ir_lst, ir_bl, ir_non, ir_dic, ir_ro, List.length_set, tn0, tn1, tn2, tn3, lim_ok]
  rw [body_ret (fn := f13) e]
  exact fin_d rfl rfl
theorem net_run {F n : Nat} {st : Sto} (ps : List (Int × Int)) : callN T C F (n + 1) 14 [.tup (ps.map stepD)] st = .ok (.int (ps.map (·.2)).sum, st) := by
  rw [call_eq (fn := f14) rfl, run0 rfl rfl]
  have e : evSs (callN T C F n) C F f14.body [some (.tup (ps.map stepD)), none, none] st = .ok (.ret (.int (ps.map (·.2)).sum), [some (.tup (ps.map stepD)), none, none], st) := by
    have hi : evI (callN T C F n) C (.seq (.var 0)) [some (.tup (ps.map stepD)), none, none] st = .ok (ps.map stepD, st) := by
      simp only [evI, x_var, List.getElem?_cons_zero, rb, seqItems]
    have hc := ev_comp (Γ := callN T C F n) (C := C) (e := .var 2) (t := .tup [.name 1, .name 2]) (own := [1, 2]) (f := fun d => match d with | .tup [_, b] => b | _ => .non) hi fun x hx => by
      obtain ⟨p, hp, rfl⟩ := List.mem_map.mp hx
      exact ⟨[some (.tup (ps.map stepD)), some (.int p.1), some (.int p.2)], rfl, rfl, rfl⟩
    rw [List.map_map] at hc
    have em : ps.map ((fun d : D => match d with | .tup [_, b] => b | _ => .non) ∘ stepD) = ps.map fun p => .int p.2 := rfl
    rw [em] at hc
    simp (decide := true) only [runBody, List.map, List.length_cons, List.length_nil, List.replicate, List.cons_append, List.nil_append, evSs, x_lit, x_var, x_glob, x_bin, x_neg, x_not, x_cmp, x_chain, x_and, x_or, x_ite, x_tup, x_lst, x_lstM, x_idx, x_slc, x_rev, x_call, x_bi, x_copyM, x_append, x_extend, x_popAt, x_pop, x_frz, x_dnew, x_rng1, x_rng2, x_dget, y_asg, y_par, y_aug, y_ex, y_setix, y_ite, y_ret, y_retN, y_brk, y_cont, y_pass, y_never, y_frzV, evEs, evAnd, evOr, evT, evO, rb, List.getElem?_cons_zero, List.getElem?_cons_succ, sn_int, sn_str, sn_bl, sn_tup, sn_lst, sn_non, sn_dic, sn_ro, ix_l, ix_t, ix_r, ro_some, c_gt, c_ge, c_lt, c_le, decide_true, decide_false, ab, if_true, if_false, Bool.false_eq_true, Bool.not_true, Bool.not_false, bi_int, bi_intb, bi_abs, bi_lenl, bi_lent, bi_lenr, bi_tupl, b_add, b_sub, asgT, asgTs, setAll, List.set_cons_zero, List.set_cons_succ, ir_int, ir_str, ir_tup, ir_lst, ir_bl, ir_non, ir_dic, ir_ro, List.length_set, tn0, tn1, tn2, tn3, lim_ok, f14, hc, bi_sum]
  rw [body_ret (fn := f14) e]
  exact fin_d rfl rfl
/-- least, net of the text -/
theorem leastT_run {F n : Nat} {st : Sto} {rs : List Rw} {ts : List Str} (hg : ∀ r ∈ rs, RowG r) (ha : Asc (rs.map (·.1))) (hl : rs.length ≤ 16) (nd : (rs.map (·.1)).Nodup) (hn : ∀ t ∈ ts, t ∈ NAMES) (nt : ts.Nodup) :
    callN T C F (n + 4) 16 [.tup (rs.map rowD), .tup (ts.map .str)] st = .ok (.int (leastGo (ts.map (lookR rs)) 0 0), st) := by
  rw [call_eq (fn := f16) rfl, run0 rfl rfl]
  have hm : (ts.map fun t => stepD (lookR rs t)) = (ts.map (lookR rs)).map stepD := by rw [List.map_map]; rfl
  have e : evSs (callN T C F (n + 3)) C F f16.body [some (.tup (rs.map rowD)), some (.tup (ts.map .str))] st = .ok (.ret (.int (leastGo (ts.map (lookR rs)) 0 0)), [some (.tup (rs.map rowD)), some (.tup (ts.map .str))], st) := by
    simp (decide := true) only [runBody, List.map, List.length_cons, List.length_nil, List.replicate, List.cons_append, List.nil_append, evSs, x_lit, x_var, x_glob, x_bin, x_neg, x_not, x_cmp, x_chain, x_and, x_or, x_ite, x_tup, x_lst, x_lstM, x_idx, x_slc, x_rev, x_call, x_bi, x_copyM, x_append, x_extend, x_popAt, x_pop, x_frz, x_dnew, x_rng1, x_rng2, x_dget, y_asg, y_par, y_aug, y_ex, y_setix, y_ite, y_ret, y_retN, y_brk, y_cont, y_pass, y_never, y_frzV, evEs, evAnd, evOr, evT, evO, rb, List.getElem?_cons_zero, List.getElem?_cons_succ, sn_int, sn_str, sn_bl, sn_tup, sn_lst, sn_non, sn_dic, sn_ro, ix_l, ix_t, ix_r, ro_some, c_gt, c_ge, c_lt, c_le, decide_true, decide_false, ab, if_true, if_false, Bool.false_eq_true, Bool.not_true, Bool.not_false, bi_int, bi_intb, bi_abs, bi_lenl, bi_lent, bi_lenr, bi_tupl, b_add, b_sub, asgT, asgTs, setAll, List.set_cons_zero, List.set_cons_succ, ir_int, ir_str, ir_tup, ir_lst, ir_bl, ir_non, ir_dic, ir_ro, List.length_set, tn0, tn1, tn2, tn3, lim_ok, f16, trade_run hg ha hl, tasks_run hn nt, table_run nd, stepsOf_run, hm, least_run]
  rw [body_ret (fn := f16) e]
  exact fin_d rfl rfl
theorem netT_run {F n : Nat} {st : Sto} {rs : List Rw} {ts : List Str} (hg : ∀ r ∈ rs, RowG r) (ha : Asc (rs.map (·.1))) (hl : rs.length ≤ 16) (nd : (rs.map (·.1)).Nodup) (hn : ∀ t ∈ ts, t ∈ NAMES) (nt : ts.Nodup) :
    callN T C F (n + 4) 17 [.tup (rs.map rowD), .tup (ts.map .str)] st = .ok (.int ((ts.map (lookR rs)).map (·.2)).sum, st) := by
  rw [call_eq (fn := f17) rfl, run0 rfl rfl]
  have hm : (ts.map fun t => stepD (lookR rs t)) = (ts.map (lookR rs)).map stepD := by rw [List.map_map]; rfl
  have e : evSs (callN T C F (n + 3)) C F f17.body [some (.tup (rs.map rowD)), some (.tup (ts.map .str))] st = .ok (.ret (.int ((ts.map (lookR rs)).map (·.2)).sum), [some (.tup (rs.map rowD)), some (.tup (ts.map .str))], st) := by
    simp (decide := true) only [runBody, List.map, List.length_cons, List.length_nil, List.replicate, List.cons_append, List.nil_append, evSs, x_lit, x_var, x_glob, x_bin, x_neg, x_not, x_cmp, x_chain, x_and, x_or, x_ite, x_tup, x_lst, x_lstM, x_idx, x_slc, x_rev, x_call, x_bi, x_copyM, x_append, x_extend, x_popAt, x_pop, x_frz, x_dnew, x_rng1, x_rng2, x_dget, y_asg, y_par, y_aug, y_ex, y_setix, y_ite, y_ret, y_retN, y_brk, y_cont, y_pass, y_never, y_frzV, evEs, evAnd, evOr, evT, evO, rb, List.getElem?_cons_zero, List.getElem?_cons_succ, sn_int, sn_str, sn_bl, sn_tup, sn_lst, sn_non, sn_dic, sn_ro, ix_l, ix_t, ix_r, ro_some, c_gt, c_ge, c_lt, c_le, decide_true, decide_false, ab, if_true, if_false, Bool.false_eq_true, Bool.not_true, Bool.not_false, bi_int, bi_intb, bi_abs, bi_lenl, bi_lent, bi_lenr, bi_tupl, b_add, b_sub, asgT, asgTs, setAll, List.set_cons_zero, List.set_cons_succ, ir_int, ir_str, ir_tup, ir_lst, ir_bl, ir_non, ir_dic, ir_ro, List.length_set, tn0, tn1, tn2, tn3, lim_ok, f17, trade_run hg ha hl, tasks_run hn nt, table_run nd, stepsOf_run, hm, net_run]
  rw [body_ret (fn := f17) e]
  exact fin_d rfl rfl
end K10

set_option Elab.async false
set_option linter.all false
set_option maxRecDepth 100000
set_option maxHeartbeats 400000
namespace K10
open PySem En
/-- told_back's rows -/
def backR (r : Rw) : Rw := (r.1, r.2.1 + r.2.2, -r.2.2)
theorem back_run {F n : Nat} {st : Sto} {rs : List Rw} (hg : ∀ r ∈ rs, RowG r) (ha : Asc (rs.map (·.1))) (hl : rs.length ≤ 16) : callN T C F (n + 4) 18 [.tup (rs.map rowD)] st = .ok (.tup ((rs.map backR).map rowD), st) := by
  rw [call_eq (fn := f18) rfl, run0 rfl rfl]
  have e : evSs (callN T C F (n + 3)) C F f18.body [some (.tup (rs.map rowD)), none, none, none] st = .ok (.ret (.tup ((rs.map backR).map rowD)), [some (.tup (rs.map rowD)), none, none, none], st) := by
    have hi : evI (callN T C F (n + 3)) C (.seq (.var 0)) [some (.tup (rs.map rowD)), none, none, none] st = .ok (rs.map rowD, st) := by
      simp only [evI, x_var, List.getElem?_cons_zero, rb, seqItems]
    have hc := ev_comp (Γ := callN T C F (n + 3)) (C := C) (e := .tup [(.var 1), (.bin .add (.var 2) (.var 3)), (.neg (.var 3))]) (t := .tup [.name 1, .name 2, .name 3]) (own := [1, 2, 3]) (f := fun d => match d with | .tup [.str x, .int a, .int b] => rowD (backR (x, a, b)) | _ => .non) hi fun x hx => by
      obtain ⟨r, hr, rfl⟩ := List.mem_map.mp hx
      refine ⟨[some (.tup (rs.map rowD)), some (.str r.1), some (.int r.2.1), some (.int r.2.2)], rfl, ?_, rfl⟩
      simp (decide := true) only [runBody, List.map, List.length_cons, List.length_nil, List.replicate, List.cons_append, List.nil_append, evSs, x_lit, x_var, x_glob, x_bin, x_neg, x_not, x_cmp, x_chain, x_and, x_or, x_ite, x_tup, x_lst, x_lstM, x_idx, x_slc, x_rev, x_call, x_bi, x_copyM, x_append, x_extend, x_popAt, x_pop, x_frz, x_dnew, x_rng1, x_rng2, x_dget, y_asg, y_par, y_aug, y_ex, y_setix, y_ite, y_ret, y_retN, y_brk, y_cont, y_pass, y_never, y_frzV, evEs, evAnd, evOr, evT, evO, rb, List.getElem?_cons_zero, List.getElem?_cons_succ, sn_int, sn_str, sn_bl, sn_tup, sn_lst, sn_non, sn_dic, sn_ro, ix_l, ix_t, ix_r, ro_some, c_gt, c_ge, c_lt, c_le, decide_true, decide_false, ab, if_true, if_false, Bool.false_eq_true, Bool.not_true, Bool.not_false, bi_int, bi_intb, bi_abs, bi_lenl, bi_lent, bi_lenr, bi_tupl, b_add, b_sub, asgT, asgTs, setAll, List.set_cons_zero, List.set_cons_succ, ir_int, ir_str, ir_tup, ir_lst, ir_bl, ir_non, ir_dic, ir_ro, List.length_set, tn0, tn1, tn2, tn3, lim_ok, rowD, backR, noRefs, Bool.and_self]
    rw [List.map_map] at hc
    have em : rs.map ((fun d : D => match d with | .tup [.str x, .int a, .int b] => rowD (backR (x, a, b)) | _ => .non) ∘ rowD) = (rs.map backR).map rowD := by rw [List.map_map]; rfl
    rw [em] at hc
    simp (decide := true) only [runBody, List.map, List.length_cons, List.length_nil, List.replicate, List.cons_append, List.nil_append, evSs, x_lit, x_var, x_glob, x_bin, x_neg, x_not, x_cmp, x_chain, x_and, x_or, x_ite, x_tup, x_lst, x_lstM, x_idx, x_slc, x_rev, x_call, x_bi, x_copyM, x_append, x_extend, x_popAt, x_pop, x_frz, x_dnew, x_rng1, x_rng2, x_dget, y_asg, y_par, y_aug, y_ex, y_setix, y_ite, y_ret, y_retN, y_brk, y_cont, y_pass, y_never, y_frzV, evEs, evAnd, evOr, evT, evO, rb, List.getElem?_cons_zero, List.getElem?_cons_succ, sn_int, sn_str, sn_bl, sn_tup, sn_lst, sn_non, sn_dic, sn_ro, ix_l, ix_t, ix_r, ro_some, c_gt, c_ge, c_lt, c_le, decide_true, decide_false, ab, if_true, if_false, Bool.false_eq_true, Bool.not_true, Bool.not_false, bi_int, bi_intb, bi_abs, bi_lenl, bi_lent, bi_lenr, bi_tupl, b_add, b_sub, asgT, asgTs, setAll, List.set_cons_zero, List.set_cons_succ, ir_int, ir_str, ir_tup, ir_lst, ir_bl, ir_non, ir_dic, ir_ro, List.length_set, tn0, tn1, tn2, tn3, lim_ok, f18, hc, trade_run hg ha hl]
  rw [body_ret (fn := f18) e]
  exact fin_d rfl rfl
end K10

set_option Elab.async false
set_option linter.all false
set_option maxRecDepth 100000
set_option maxHeartbeats 400000
namespace K10
open PySem En
/-- the levels from a stock -/
def levGo : List (Int × Int) → Int → List Int
  | [], v => [v]
  | p :: r, v => if v < p.1 then [v] else v :: levGo r (v + p.2)
def levBody : List CS := [.ite (.cmp .lt (.idx (.var 2) (.neg (.lit (.int 1)))) (.var 3)) [.brk] [], .ex (.append (.var 2) (.bin .add (.idx (.var 2) (.neg (.lit (.int 1)))) (.var 4)))]
theorem at_last {ds : List D} {d : D} : atD (ds ++ [d]) (-1) = some d := L2.atI_last ds d
theorem fg_brk {bind : D → En.Env → Option En.Env} {body : En.Env → Sto → Res (Fl × En.Env × Sto)} {x : D} {r : List D} {env env1 env2 : En.Env} {st st2 : Sto} (h1 : bind x env = some env1) (h2 : body env1 st = .ok (.brk, env2, st2)) : forGo bind body (x :: r) env st = .ok (.next, env2, st2) := by
  simp only [forGo, h1, ro_some, rb, h2]
theorem lev_loop {Γ : Fns} {F j : Nat} {d0 d1 : D} : ∀ (ps : List (Int × Int)) (pre : List Int) (v : Int) (a b : Option D) (st : Sto), st[j]? = some (.lst ((pre ++ [v]).map .int)) → pre.length + ps.length < 1000000 →
    ∃ a' b', forGo (asgT (.tup [.name 3, .name 4])) (fun e s => evSs Γ C F levBody e s) (ps.map stepD) [some d0, some d1, some (.mref j), a, b] st =
      .ok (.next, [some d0, some d1, some (.mref j), a', b'], st.set j (.lst ((pre ++ levGo ps v).map .int)))
  | [], pre, v, a, b, st, h, hl => ⟨a, b, by
      have hj := st_lt h
      have : st.set j (.lst ((pre ++ levGo [] v).map .int)) = st := by
        apply List.ext_getElem?
        intro k
        by_cases e : k = j
        · subst e; rw [List.getElem?_set_self hj, h]; rfl
        · rw [List.getElem?_set_ne (Ne.symm e)]
      rw [this]; rfl⟩
  | p :: r, pre, v, a, b, st, h, hl => by
    have hsn : snap st (.mref j) = .lst (pre.map .int ++ [.int v]) := by rw [sn_ml h]; simp
    by_cases hv : v < p.1
    · refine ⟨some (.int p.1), some (.int p.2), ?_⟩
      have e : evSs Γ C F levBody [some d0, some d1, some (.mref j), some (.int p.1), some (.int p.2)] st = .ok (.brk, [some d0, some d1, some (.mref j), some (.int p.1), some (.int p.2)], st) := by
        simp (decide := true) only [runBody, List.map, List.length_cons, List.length_nil, List.replicate, List.cons_append, List.nil_append, evSs, x_lit, x_var, x_glob, x_bin, x_neg, x_not, x_cmp, x_chain, x_and, x_or, x_ite, x_tup, x_lst, x_lstM, x_idx, x_slc, x_rev, x_call, x_bi, x_copyM, x_append, x_extend, x_popAt, x_pop, x_frz, x_dnew, x_rng1, x_rng2, x_dget, y_asg, y_par, y_aug, y_ex, y_setix, y_ite, y_ret, y_retN, y_brk, y_cont, y_pass, y_never, y_frzV, evEs, evAnd, evOr, evT, evO, rb, List.getElem?_cons_zero, List.getElem?_cons_succ, sn_int, sn_str, sn_bl, sn_tup, sn_lst, sn_non, sn_dic, sn_ro, ix_l, ix_t, ix_r, ro_some, c_gt, c_ge, c_lt, c_le, decide_true, decide_false, ab, if_true, if_false, Bool.false_eq_true, Bool.not_true, Bool.not_false, bi_int, bi_intb, bi_abs, bi_lenl, bi_lent, bi_lenr, bi_tupl, b_add, b_sub, asgT, asgTs, setAll, List.set_cons_zero, List.set_cons_succ, ir_int, ir_str, ir_tup, ir_lst, ir_bl, ir_non, ir_dic, ir_ro, List.length_set, tn0, tn1, tn2, tn3, lim_ok, levBody, hsn, at_last, hv]
      have hst : st.set j (.lst ((pre ++ levGo (p :: r) v).map .int)) = st := by
        rw [show levGo (p :: r) v = [v] from if_pos hv]
        apply List.ext_getElem?
        intro k
        by_cases e : k = j
        · subst e; rw [List.getElem?_set_self (st_lt h), h]
        · rw [List.getElem?_set_ne (Ne.symm e)]
      rw [hst, List.map_cons]
      exact fg_brk (env1 := [some d0, some d1, some (.mref j), some (.int p.1), some (.int p.2)]) rfl e
    · have hlim : decide (LIM ≤ (pre.map D.int ++ [D.int v]).length) = false := by simp only [decide_eq_false_iff_not, List.length_append, List.length_map, List.length_cons, List.length_nil]; rw [LIM_val]; simp only [List.length_cons] at hl; omega
      have h' : st[j]? = some (.lst (pre.map D.int ++ [D.int v])) := by rw [h]; simp
      have e : evSs Γ C F levBody [some d0, some d1, some (.mref j), some (.int p.1), some (.int p.2)] st = .ok (.next, [some d0, some d1, some (.mref j), some (.int p.1), some (.int p.2)], st.set j (.lst (pre.map D.int ++ [D.int v] ++ [.int (v + p.2)]))) := by
        simp (decide := true) only [runBody, List.map, List.length_cons, List.length_nil, List.replicate, List.cons_append, List.nil_append, evSs, x_lit, x_var, x_glob, x_bin, x_neg, x_not, x_cmp, x_chain, x_and, x_or, x_ite, x_tup, x_lst, x_lstM, x_idx, x_slc, x_rev, x_call, x_bi, x_copyM, x_append, x_extend, x_popAt, x_pop, x_frz, x_dnew, x_rng1, x_rng2, x_dget, y_asg, y_par, y_aug, y_ex, y_setix, y_ite, y_ret, y_retN, y_brk, y_cont, y_pass, y_never, y_frzV, evEs, evAnd, evOr, evT, evO, rb, List.getElem?_cons_zero, List.getElem?_cons_succ, sn_int, sn_str, sn_bl, sn_tup, sn_lst, sn_non, sn_dic, sn_ro, ix_l, ix_t, ix_r, ro_some, c_gt, c_ge, c_lt, c_le, decide_true, decide_false, ab, if_true, if_false, Bool.false_eq_true, Bool.not_true, Bool.not_false, bi_int, bi_intb, bi_abs, bi_lenl, bi_lent, bi_lenr, bi_tupl, b_add, b_sub, asgT, asgTs, setAll, List.set_cons_zero, List.set_cons_succ, ir_int, ir_str, ir_tup, ir_lst, ir_bl, ir_non, ir_dic, ir_ro, List.length_set, tn0, tn1, tn2, tn3, lim_ok, levBody, hsn, at_last, hv, gl_at h', hlim, Bool.or_self]
      obtain ⟨a', b', ih⟩ := lev_loop (Γ := Γ) (F := F) (d0 := d0) (d1 := d1) r (pre ++ [v]) (v + p.2) (some (.int p.1)) (some (.int p.2)) (st.set j (.lst (pre.map D.int ++ [D.int v] ++ [.int (v + p.2)]))) (by rw [List.getElem?_set_self (st_lt h)]; simp) (by simp only [List.length_append, List.length_cons, List.length_nil] at hl ⊢; omega)
      refine ⟨a', b', ?_⟩
      rw [List.map_cons]
      refine (fg_next (env1 := [some d0, some d1, some (.mref j), some (.int p.1), some (.int p.2)]) rfl e).trans (ih.trans ?_)
      rw [List.set_set, show levGo (p :: r) v = v :: levGo r (v + p.2) from if_neg hv]
      simp
theorem levBy_run {F n : Nat} {st : Sto} (ps : List (Int × Int)) (v : Int) (hl : ps.length < 1000) : callN T C F (n + 1) 12 [.tup (ps.map stepD), .int v] st = .ok (.tup ((levGo ps v).map .int), st) := by
  rw [call_eq (fn := f12) rfl, run0 rfl rfl]
  obtain ⟨a', b', h⟩ := lev_loop (Γ := callN T C F n) (F := F) (j := st.length) (d0 := .tup (ps.map stepD)) (d1 := .int v) ps [] v none none (st ++ [.lst [.int v]]) (by simp) (by simp; omega)
  have hset : (st ++ [O.lst [.int v]]).set st.length (.lst (([] ++ levGo ps v).map .int)) = st ++ [.lst ((levGo ps v).map .int)] := by simp
  rw [hset] at h
  have hi : evI (callN T C F n) C (.seq (.var 0)) [some (.tup (ps.map stepD)), some (.int v), some (.mref st.length), none, none] (st ++ [.lst [.int v]]) = .ok (ps.map stepD, st ++ [.lst [.int v]]) := by
    simp only [evI, x_var, List.getElem?_cons_zero, rb, seqItems]
  have e1 : evS (callN T C F n) C F (.asg (.name 2) (.lstM [(.var 1)])) [some (.tup (ps.map stepD)), some (.int v), none, none, none] st = .ok (.next, [some (.tup (ps.map stepD)), some (.int v), some (.mref st.length), none, none], st ++ [.lst [.int v]]) := by
    simp (decide := true) only [runBody, List.map, List.length_cons, List.length_nil, List.replicate, List.cons_append, List.nil_append, evSs, x_lit, x_var, x_glob, x_bin, x_neg, x_not, x_cmp, x_chain, x_and, x_or, x_ite, x_tup, x_lst, x_lstM, x_idx, x_slc, x_rev, x_call, x_bi, x_copyM, x_append, x_extend, x_popAt, x_pop, x_frz, x_dnew, x_rng1, x_rng2, x_dget, y_asg, y_par, y_aug, y_ex, y_setix, y_ite, y_ret, y_retN, y_brk, y_cont, y_pass, y_never, y_frzV, evEs, evAnd, evOr, evT, evO, rb, List.getElem?_cons_zero, List.getElem?_cons_succ, sn_int, sn_str, sn_bl, sn_tup, sn_lst, sn_non, sn_dic, sn_ro, ix_l, ix_t, ix_r, ro_some, c_gt, c_ge, c_lt, c_le, decide_true, decide_false, ab, if_true, if_false, Bool.false_eq_true, Bool.not_true, Bool.not_false, bi_int, bi_intb, bi_abs, bi_lenl, bi_lent, bi_lenr, bi_tupl, b_add, b_sub, asgT, asgTs, setAll, List.set_cons_zero, List.set_cons_succ, ir_int, ir_str, ir_tup, ir_lst, ir_bl, ir_non, ir_dic, ir_ro, List.length_set, tn0, tn1, tn2, tn3, lim_ok, noRefs, Bool.and_self]
  have hs2 : snap (st ++ [O.lst ((levGo ps v).map .int)]) (.mref st.length) = .lst ((levGo ps v).map .int) := sn_ml (by simp)
  have e : evSs (callN T C F n) C F [.asg (.name 2) (.lstM [(.var 1)]), .for_ (.tup [(.name 3), (.name 4)]) (.seq (.var 0)) levBody, .ret (.bi .tuple [(.var 2)])] [some (.tup (ps.map stepD)), some (.int v), none, none, none] st =
      .ok (.ret (.tup ((levGo ps v).map .int)), [some (.tup (ps.map stepD)), some (.int v), some (.mref st.length), a', b'], st ++ [.lst ((levGo ps v).map .int)]) := by
    rw [ss_next e1, ss_next ((s_for hi).trans h)]
    simp (decide := true) only [runBody, List.map, List.length_cons, List.length_nil, List.replicate, List.cons_append, List.nil_append, evSs, x_lit, x_var, x_glob, x_bin, x_neg, x_not, x_cmp, x_chain, x_and, x_or, x_ite, x_tup, x_lst, x_lstM, x_idx, x_slc, x_rev, x_call, x_bi, x_copyM, x_append, x_extend, x_popAt, x_pop, x_frz, x_dnew, x_rng1, x_rng2, x_dget, y_asg, y_par, y_aug, y_ex, y_setix, y_ite, y_ret, y_retN, y_brk, y_cont, y_pass, y_never, y_frzV, evEs, evAnd, evOr, evT, evO, rb, List.getElem?_cons_zero, List.getElem?_cons_succ, sn_int, sn_str, sn_bl, sn_tup, sn_lst, sn_non, sn_dic, sn_ro, ix_l, ix_t, ix_r, ro_some, c_gt, c_ge, c_lt, c_le, decide_true, decide_false, ab, if_true, if_false, Bool.false_eq_true, Bool.not_true, Bool.not_false, bi_int, bi_intb, bi_abs, bi_lenl, bi_lent, bi_lenr, bi_tupl, b_add, b_sub, asgT, asgTs, setAll, List.set_cons_zero, List.set_cons_succ, ir_int, ir_str, ir_tup, ir_lst, ir_bl, ir_non, ir_dic, ir_ro, List.length_set, tn0, tn1, tn2, tn3, lim_ok, hs2]
  rw [body_ret (fn := f12) e]
  show En.finish false st.length (.tup _) _ = _
  simp [En.finish]
end K10

set_option Elab.async false
set_option linter.all false
set_option maxRecDepth 100000
set_option maxHeartbeats 400000
namespace K10
open PySem En
theorem levelsT_run {F n : Nat} {st : Sto} {rs : List Rw} {ts : List Str} {v : Int} (hg : ∀ r ∈ rs, RowG r) (ha : Asc (rs.map (·.1))) (hl : rs.length ≤ 16) (nd : (rs.map (·.1)).Nodup) (hn : ∀ t ∈ ts, t ∈ NAMES) (nt : ts.Nodup) (ht : ts.length < 1000) (v0 : 0 ≤ v) (v1 : v ≤ 99999) :
    callN T C F (n + 4) 15 [.tup (rs.map rowD), .int v, .tup (ts.map .str)] st = .ok (.tup ((levGo (ts.map (lookR rs)) v).map .int), st) := by
  rw [call_eq (fn := f15) rfl, run0 rfl rfl]
  have hm : (ts.map fun t => stepD (lookR rs t)) = (ts.map (lookR rs)).map stepD := by rw [List.map_map]; rfl
  have e : evSs (callN T C F (n + 3)) C F f15.body [some (.tup (rs.map rowD)), some (.int v), some (.tup (ts.map .str))] st = .ok (.ret (.tup ((levGo (ts.map (lookR rs)) v).map .int)), [some (.tup (rs.map rowD)), some (.int v), some (.tup (ts.map .str))], st) := by
    simp (decide := true) only [runBody, List.map, List.length_cons, List.length_nil, List.replicate, List.cons_append, List.nil_append, evSs, x_lit, x_var, x_glob, x_bin, x_neg, x_not, x_cmp, x_chain, x_and, x_or, x_ite, x_tup, x_lst, x_lstM, x_idx, x_slc, x_rev, x_call, x_bi, x_copyM, x_append, x_extend, x_popAt, x_pop, x_frz, x_dnew, x_rng1, x_rng2, x_dget, y_asg, y_par, y_aug, y_ex, y_setix, y_ite, y_ret, y_retN, y_brk, y_cont, y_pass, y_never, y_frzV, evEs, evAnd, evOr, evT, evO, rb, List.getElem?_cons_zero, List.getElem?_cons_succ, sn_int, sn_str, sn_bl, sn_tup, sn_lst, sn_non, sn_dic, sn_ro, ix_l, ix_t, ix_r, ro_some, c_gt, c_ge, c_lt, c_le, decide_true, decide_false, ab, if_true, if_false, Bool.false_eq_true, Bool.not_true, Bool.not_false, bi_int, bi_intb, bi_abs, bi_lenl, bi_lent, bi_lenr, bi_tupl, b_add, b_sub, asgT, asgTs, setAll, List.set_cons_zero, List.set_cons_succ, ir_int, ir_str, ir_tup, ir_lst, ir_bl, ir_non, ir_dic, ir_ro, List.length_set, tn0, tn1, tn2, tn3, lim_ok, f15, trade_run hg ha hl, stock_run v0 v1, tasks_run hn nt, table_run nd, stepsOf_run, hm, levBy_run _ _ (show (ts.map (lookR rs)).length < 1000 by rw [List.length_map]; exact ht)]
  rw [body_ret (fn := f15) e]
  exact fin_d rfl rfl
end K10

set_option Elab.async false
set_option linter.all false
set_option maxRecDepth 100000
set_option maxHeartbeats 400000
namespace K10
open PySem En
theorem as_dic (k : List (L2.Key × D)) : asDic (.dic k) = .ok k := rfl
theorem key_str (x : Str) : keyOf (.str x) = some (.inr x) := rfl
def lBody : List CS := [.asg (.tup [(.name 5), (.name 6)]) (.dget (.var 0) (.var 2) (some (.tup [(.lit (.int 0)), (.lit (.int 0))]))), .par [3, 4] [(.bi .max2 [(.var 3), (.bin .sub (.var 5) (.var 4))]), (.bin .add (.var 4) (.var 6))]]
theorem look_ev {Γ : Fns} {env : En.Env} {st : Sto} {rs : List Rw} {o k : CE} {x : Str} (h1 : evE Γ C o env st = .ok (.dic (kvs rs), st)) (h2 : evE Γ C k env st = .ok (.str x, st)) : evE Γ C (.dget o k (some (.tup [(.lit (.int 0)), (.lit (.int 0))]))) env st = .ok (.tup [.int (lookR rs x).1, .int (lookR rs x).2], st) := by
  have h3 : evE Γ C (.tup [(.lit (.int 0)), (.lit (.int 0))]) env st = .ok (.tup [.int 0, .int 0], st) := by
    simp (decide := true) only [runBody, List.map, List.length_cons, List.length_nil, List.replicate, List.cons_append, List.nil_append, evSs, x_lit, x_var, x_glob, x_bin, x_neg, x_not, x_cmp, x_chain, x_and, x_or, x_ite, x_tup, x_lst, x_lstM, x_idx, x_slc, x_rev, x_call, x_bi, x_copyM, x_append, x_extend, x_popAt, x_pop, x_frz, x_dnew, x_rng1, x_rng2, x_dget, y_asg, y_par, y_aug, y_ex, y_setix, y_ite, y_ret, y_retN, y_brk, y_cont, y_pass, y_never, y_frzV, evEs, evAnd, evOr, evT, evO, rb, List.getElem?_cons_zero, List.getElem?_cons_succ, sn_int, sn_str, sn_bl, sn_tup, sn_lst, sn_non, sn_dic, sn_ro, ix_l, ix_t, ix_r, ro_some, c_gt, c_ge, c_lt, c_le, decide_true, decide_false, ab, if_true, if_false, Bool.false_eq_true, Bool.not_true, Bool.not_false, bi_int, bi_intb, bi_abs, bi_lenl, bi_lent, bi_lenr, bi_tupl, b_add, b_sub, a_name, a_tup, as_nil, as_cons, setAll, List.set_cons_zero, List.set_cons_succ, ir_int, ir_str, ir_tup, ir_lst, ir_bl, ir_non, ir_dic, ir_ro, List.length_set, tn0, tn1, tn2, tn3, lim_ok, noRefs, Bool.and_self]
  rw [ev_dget h1 h2 h3, dget_kvs]
theorem l_step {Γ : Fns} {F : Nat} {st : Sto} {rs : List Rw} {d1 : D} (x : Str) (f c : Int) (a b : Option D) : evSs Γ C F lBody [some (.dic (kvs rs)), some d1, some (.str x), some (.int f), some (.int c), a, b] st = .ok (.next, [some (.dic (kvs rs)), some d1, some (.str x), some (.int (mx f ((lookR rs x).1 - c))), some (.int (c + (lookR rs x).2)), some (.int (lookR rs x).1), some (.int (lookR rs x).2)], st) := by
  have hd := look_ev (Γ := Γ) (st := st) (rs := rs) (o := .var 0) (k := .var 2) (x := x) (env := [some (.dic (kvs rs)), some d1, some (.str x), some (.int f), some (.int c), a, b]) (by rw [x_var]; rfl) (by rw [x_var]; rfl)
  simp (decide := true) only [runBody, List.map, List.length_cons, List.length_nil, List.replicate, List.cons_append, List.nil_append, evSs, x_lit, x_var, x_glob, x_bin, x_neg, x_not, x_cmp, x_chain, x_and, x_or, x_ite, x_tup, x_lst, x_lstM, x_idx, x_slc, x_rev, x_call, x_bi, x_copyM, x_append, x_extend, x_popAt, x_pop, x_frz, x_dnew, x_rng1, x_rng2, x_dget, y_asg, y_par, y_aug, y_ex, y_setix, y_ite, y_ret, y_retN, y_brk, y_cont, y_pass, y_never, y_frzV, evEs, evAnd, evOr, evT, evO, rb, List.getElem?_cons_zero, List.getElem?_cons_succ, sn_int, sn_str, sn_bl, sn_tup, sn_lst, sn_non, sn_dic, sn_ro, ix_l, ix_t, ix_r, ro_some, c_gt, c_ge, c_lt, c_le, decide_true, decide_false, ab, if_true, if_false, Bool.false_eq_true, Bool.not_true, Bool.not_false, bi_int, bi_intb, bi_abs, bi_lenl, bi_lent, bi_lenr, bi_tupl, b_add, b_sub, a_name, a_tup, as_nil, as_cons, setAll, List.set_cons_zero, List.set_cons_succ, ir_int, ir_str, ir_tup, ir_lst, ir_bl, ir_non, ir_dic, ir_ro, List.length_set, tn0, tn1, tn2, tn3, lim_ok, lBody, bi_max2, ↓hd]
theorem l_loop {Γ : Fns} {F : Nat} {st : Sto} {rs : List Rw} {d1 : D} : ∀ (ts : List Str) (f c : Int) (t a b : Option D), ∃ c' t' a' b', forGo (asgT (.name 2)) (fun e s => evSs Γ C F lBody e s) (ts.map .str) [some (.dic (kvs rs)), some d1, t, some (.int f), some (.int c), a, b] st =
    .ok (.next, [some (.dic (kvs rs)), some d1, t', some (.int (leastGo (ts.map (lookR rs)) f c)), some (.int c'), a', b'], st)
  | [], f, c, t, a, b => ⟨c, t, a, b, rfl⟩
  | x :: r, f, c, t, a, b => by
    obtain ⟨c', t', a', b', ih⟩ := l_loop (Γ := Γ) (F := F) (st := st) (rs := rs) (d1 := d1) r (mx f ((lookR rs x).1 - c)) (c + (lookR rs x).2) (some (.str x)) (some (.int (lookR rs x).1)) (some (.int (lookR rs x).2))
    refine ⟨c', t', a', b', ?_⟩
    have e := l_step (Γ := Γ) (F := F) (st := st) (rs := rs) (d1 := d1) x f c a b
    rw [List.map_cons]
    exact (fg_next (env1 := [some (.dic (kvs rs)), some d1, some (.str x), some (.int f), some (.int c), a, b]) rfl e).trans ih
theorem lawLeast_run {F n : Nat} {st : Sto} {rs : List Rw} {ts : List Str} : callN T C F (n + 1) 28 [.dic (kvs rs), .tup (ts.map .str)] st = .ok (.int (leastGo (ts.map (lookR rs)) 0 0), st) := by
  rw [call_eq (fn := f28) rfl, run0 rfl rfl]
  obtain ⟨c', t', a', b', h⟩ := l_loop (Γ := callN T C F n) (F := F) (st := st) (rs := rs) (d1 := .tup (ts.map .str)) ts 0 0 none none none
  have hi : evI (callN T C F n) C (.seq (.var 1)) [some (.dic (kvs rs)), some (.tup (ts.map .str)), none, some (.int 0), some (.int 0), none, none] st = .ok (ts.map .str, st) := by
    simp only [evI, x_var, List.getElem?_cons_zero, List.getElem?_cons_succ, rb, seqItems]
  have e1 : evS (callN T C F n) C F (.asg (.tup [(.name 3), (.name 4)]) (.tup [(.lit (.int 0)), (.lit (.int 0))])) [some (.dic (kvs rs)), some (.tup (ts.map .str)), none, none, none, none, none] st = .ok (.next, [some (.dic (kvs rs)), some (.tup (ts.map .str)), none, some (.int 0), some (.int 0), none, none], st) := by
    simp (decide := true) only [runBody, List.map, List.length_cons, List.length_nil, List.replicate, List.cons_append, List.nil_append, evSs, x_lit, x_var, x_glob, x_bin, x_neg, x_not, x_cmp, x_chain, x_and, x_or, x_ite, x_tup, x_lst, x_lstM, x_idx, x_slc, x_rev, x_call, x_bi, x_copyM, x_append, x_extend, x_popAt, x_pop, x_frz, x_dnew, x_rng1, x_rng2, x_dget, y_asg, y_par, y_aug, y_ex, y_setix, y_ite, y_ret, y_retN, y_brk, y_cont, y_pass, y_never, y_frzV, evEs, evAnd, evOr, evT, evO, rb, List.getElem?_cons_zero, List.getElem?_cons_succ, sn_int, sn_str, sn_bl, sn_tup, sn_lst, sn_non, sn_dic, sn_ro, ix_l, ix_t, ix_r, ro_some, c_gt, c_ge, c_lt, c_le, decide_true, decide_false, ab, if_true, if_false, Bool.false_eq_true, Bool.not_true, Bool.not_false, bi_int, bi_intb, bi_abs, bi_lenl, bi_lent, bi_lenr, bi_tupl, b_add, b_sub, a_name, a_tup, as_nil, as_cons, setAll, List.set_cons_zero, List.set_cons_succ, ir_int, ir_str, ir_tup, ir_lst, ir_bl, ir_non, ir_dic, ir_ro, List.length_set, tn0, tn1, tn2, tn3, lim_ok, noRefs, Bool.and_self]
  have e : evSs (callN T C F n) C F [.asg (.tup [(.name 3), (.name 4)]) (.tup [(.lit (.int 0)), (.lit (.int 0))]), .for_ (.name 2) (.seq (.var 1)) lBody, .ret (.var 3)] [some (.dic (kvs rs)), some (.tup (ts.map .str)), none, none, none, none, none] st =
      .ok (.ret (.int (leastGo (ts.map (lookR rs)) 0 0)), [some (.dic (kvs rs)), some (.tup (ts.map .str)), t', some (.int (leastGo (ts.map (lookR rs)) 0 0)), some (.int c'), a', b'], st) := by
    rw [ss_next e1, ss_next ((s_for hi).trans h)]
    simp (decide := true) only [runBody, List.map, List.length_cons, List.length_nil, List.replicate, List.cons_append, List.nil_append, evSs, x_lit, x_var, x_glob, x_bin, x_neg, x_not, x_cmp, x_chain, x_and, x_or, x_ite, x_tup, x_lst, x_lstM, x_idx, x_slc, x_rev, x_call, x_bi, x_copyM, x_append, x_extend, x_popAt, x_pop, x_frz, x_dnew, x_rng1, x_rng2, x_dget, y_asg, y_par, y_aug, y_ex, y_setix, y_ite, y_ret, y_retN, y_brk, y_cont, y_pass, y_never, y_frzV, evEs, evAnd, evOr, evT, evO, rb, List.getElem?_cons_zero, List.getElem?_cons_succ, sn_int, sn_str, sn_bl, sn_tup, sn_lst, sn_non, sn_dic, sn_ro, ix_l, ix_t, ix_r, ro_some, c_gt, c_ge, c_lt, c_le, decide_true, decide_false, ab, if_true, if_false, Bool.false_eq_true, Bool.not_true, Bool.not_false, bi_int, bi_intb, bi_abs, bi_lenl, bi_lent, bi_lenr, bi_tupl, b_add, b_sub, a_name, a_tup, as_nil, as_cons, setAll, List.set_cons_zero, List.set_cons_succ, ir_int, ir_str, ir_tup, ir_lst, ir_bl, ir_non, ir_dic, ir_ro, List.length_set, tn0, tn1, tn2, tn3, lim_ok]
  rw [body_ret (fn := f28) e]
  exact fin_d rfl rfl
end K10

set_option Elab.async false
set_option linter.all false
set_option maxRecDepth 100000
set_option maxHeartbeats 400000
namespace K10
open PySem En
def llBody : List CS := [.asg (.tup [(.name 5), (.name 6)]) (.dget (.var 0) (.var 4) (some (.tup [(.lit (.int 0)), (.lit (.int 0))]))), .ite (.and [(.cmp .gt (.bi .len [(.var 3)]) (.lit (.int 0))), (.cmp .lt (.idx (.var 3) (.neg (.lit (.int 1)))) (.var 5))]) [.ret (.bi .tuple [(.var 3)])] [], .ex (.append (.var 3) (.bin .add (.idx (.var 3) (.neg (.lit (.int 1)))) (.var 6)))]
theorem set_same {st : Sto} {j : Nat} {o : O} (h : st[j]? = some o) : st.set j o = st := by
  apply List.ext_getElem?
  intro k
  by_cases e : k = j
  · subst e; rw [List.getElem?_set_self (st_lt h), h]
  · rw [List.getElem?_set_ne (Ne.symm e)]
theorem fg_ret {bind : D → En.Env → Option En.Env} {body : En.Env → Sto → Res (Fl × En.Env × Sto)} {x d : D} {r : List D} {env env1 env2 : En.Env} {st st2 : Sto} (h1 : bind x env = some env1) (h2 : body env1 st = .ok (.ret d, env2, st2)) : forGo bind body (x :: r) env st = .ok (.ret d, env2, st2) := by
  simp only [forGo, h1, ro_some, rb, h2]
theorem ll_loop {Γ : Fns} {F j : Nat} {rs : List Rw} {d1 d2 : D} : ∀ (ts : List Str) (pre : List Int) (v : Int) (t a b : Option D) (st : Sto), st[j]? = some (.lst ((pre ++ [v]).map .int)) → pre.length + ts.length < 1000000 →
    ∃ fl t' a' b', forGo (asgT (.name 4)) (fun e s => evSs Γ C F llBody e s) (ts.map .str) [some (.dic (kvs rs)), some d1, some d2, some (.mref j), t, a, b] st =
      .ok (fl, [some (.dic (kvs rs)), some d1, some d2, some (.mref j), t', a', b'], st.set j (.lst ((pre ++ levGo (ts.map (lookR rs)) v).map .int))) ∧ (fl = .next ∨ fl = .ret (.tup ((pre ++ levGo (ts.map (lookR rs)) v).map .int)))
  | [], pre, v, t, a, b, st, h, hl => ⟨.next, t, a, b, by rw [show levGo (List.map (lookR rs) []) v = [v] from rfl, set_same h]; rfl, .inl rfl⟩
  | x :: r, pre, v, t, a, b, st, h, hl => by
    have hsn : snap st (.mref j) = .lst (pre.map .int ++ [.int v]) := by rw [sn_ml h]; simp
    have hlen : decide ((0:Int) < ((pre.map D.int ++ [D.int v]).length : Int)) = true := by simp only [decide_eq_true_eq, List.length_append, List.length_map, List.length_cons, List.length_nil]; omega
    have hd := look_ev (Γ := Γ) (st := st) (rs := rs) (o := .var 0) (k := .var 4) (x := x) (env := [some (.dic (kvs rs)), some d1, some d2, some (.mref j), some (.str x), a, b]) (by rw [x_var]; rfl) (by rw [x_var]; rfl)
    generalize hp : lookR rs x = p at hd
    by_cases hv : v < p.1
    · have hg : levGo (List.map (lookR rs) (x :: r)) v = [v] := by rw [List.map_cons, hp]; exact if_pos hv
      refine ⟨.ret (.tup ((pre ++ [v]).map .int)), some (.str x), some (.int p.1), some (.int p.2), ?_, .inr (by rw [hg])⟩
      have e : evSs Γ C F llBody [some (.dic (kvs rs)), some d1, some d2, some (.mref j), some (.str x), a, b] st = .ok (.ret (.tup (pre.map .int ++ [.int v])), [some (.dic (kvs rs)), some d1, some d2, some (.mref j), some (.str x), some (.int p.1), some (.int p.2)], st) := by
        simp (decide := true) only [runBody, List.map, List.length_cons, List.length_nil, List.replicate, List.cons_append, List.nil_append, evSs, x_lit, x_var, x_glob, x_bin, x_neg, x_not, x_cmp, x_chain, x_and, x_or, x_ite, x_tup, x_lst, x_lstM, x_idx, x_slc, x_rev, x_call, x_bi, x_copyM, x_append, x_extend, x_popAt, x_pop, x_frz, x_dnew, x_rng1, x_rng2, x_dget, y_asg, y_par, y_aug, y_ex, y_setix, y_ite, y_ret, y_retN, y_brk, y_cont, y_pass, y_never, y_frzV, evEs, evAnd, evOr, evT, evO, rb, List.getElem?_cons_zero, List.getElem?_cons_succ, sn_int, sn_str, sn_bl, sn_tup, sn_lst, sn_non, sn_dic, sn_ro, ix_l, ix_t, ix_r, ro_some, c_gt, c_ge, c_lt, c_le, decide_true, decide_false, ab, if_true, if_false, Bool.false_eq_true, Bool.not_true, Bool.not_false, bi_int, bi_intb, bi_abs, bi_lenl, bi_lent, bi_lenr, bi_tupl, b_add, b_sub, a_name, a_tup, as_nil, as_cons, setAll, List.set_cons_zero, List.set_cons_succ, ir_int, ir_str, ir_tup, ir_lst, ir_bl, ir_non, ir_dic, ir_ro, List.length_set, tn0, tn1, tn2, tn3, lim_ok, llBody, hsn, at_last, hv, ↓hd, hlen, Bool.and_self]
      rw [hg, set_same h, List.map_cons]
      rw [show (pre ++ [v]).map D.int = pre.map D.int ++ [D.int v] by simp]
      exact fg_ret (env1 := [some (.dic (kvs rs)), some d1, some d2, some (.mref j), some (.str x), a, b]) rfl e
    · have hg : levGo (List.map (lookR rs) (x :: r)) v = v :: levGo (r.map (lookR rs)) (v + p.2) := by rw [List.map_cons, hp]; exact if_neg hv
      have hlim : decide (LIM ≤ (pre.map D.int ++ [D.int v]).length) = false := by simp only [decide_eq_false_iff_not, List.length_append, List.length_map, List.length_cons, List.length_nil]; rw [LIM_val]; simp only [List.length_cons] at hl; omega
      have h' : st[j]? = some (.lst (pre.map D.int ++ [D.int v])) := by rw [h]; simp
      have e : evSs Γ C F llBody [some (.dic (kvs rs)), some d1, some d2, some (.mref j), some (.str x), a, b] st = .ok (.next, [some (.dic (kvs rs)), some d1, some d2, some (.mref j), some (.str x), some (.int p.1), some (.int p.2)], st.set j (.lst (pre.map D.int ++ [D.int v] ++ [.int (v + p.2)]))) := by
        simp (decide := true) only [runBody, List.map, List.length_cons, List.length_nil, List.replicate, List.cons_append, List.nil_append, evSs, x_lit, x_var, x_glob, x_bin, x_neg, x_not, x_cmp, x_chain, x_and, x_or, x_ite, x_tup, x_lst, x_lstM, x_idx, x_slc, x_rev, x_call, x_bi, x_copyM, x_append, x_extend, x_popAt, x_pop, x_frz, x_dnew, x_rng1, x_rng2, x_dget, y_asg, y_par, y_aug, y_ex, y_setix, y_ite, y_ret, y_retN, y_brk, y_cont, y_pass, y_never, y_frzV, evEs, evAnd, evOr, evT, evO, rb, List.getElem?_cons_zero, List.getElem?_cons_succ, sn_int, sn_str, sn_bl, sn_tup, sn_lst, sn_non, sn_dic, sn_ro, ix_l, ix_t, ix_r, ro_some, c_gt, c_ge, c_lt, c_le, decide_true, decide_false, ab, if_true, if_false, Bool.false_eq_true, Bool.not_true, Bool.not_false, bi_int, bi_intb, bi_abs, bi_lenl, bi_lent, bi_lenr, bi_tupl, b_add, b_sub, a_name, a_tup, as_nil, as_cons, setAll, List.set_cons_zero, List.set_cons_succ, ir_int, ir_str, ir_tup, ir_lst, ir_bl, ir_non, ir_dic, ir_ro, List.length_set, tn0, tn1, tn2, tn3, lim_ok, llBody, hsn, at_last, hv, ↓hd, hlen, Bool.and_self, gl_at h', hlim, Bool.or_self]
      obtain ⟨fl, t', a', b', ih, hfl⟩ := ll_loop (Γ := Γ) (F := F) (d1 := d1) (d2 := d2) (rs := rs) r (pre ++ [v]) (v + p.2) (some (.str x)) (some (.int p.1)) (some (.int p.2)) (st.set j (.lst (pre.map D.int ++ [D.int v] ++ [.int (v + p.2)]))) (by rw [List.getElem?_set_self (st_lt h)]; simp) (by simp only [List.length_append, List.length_cons, List.length_nil] at hl ⊢; omega)
      refine ⟨fl, t', a', b', ?_, ?_⟩
      · rw [List.map_cons]
        refine (fg_next (env1 := [some (.dic (kvs rs)), some d1, some d2, some (.mref j), some (.str x), a, b]) rfl e).trans (ih.trans ?_)
        rw [List.set_set, hg]
        simp
      · rw [hg]; simpa using hfl
theorem lawLev_run {F n : Nat} {st : Sto} {rs : List Rw} {ts : List Str} {v : Int} (hl : ts.length < 1000) : callN T C F (n + 1) 27 [.dic (kvs rs), .int v, .tup (ts.map .str)] st = .ok (.tup ((levGo (ts.map (lookR rs)) v).map .int), st) := by
  rw [call_eq (fn := f27) rfl, run0 rfl rfl]
  obtain ⟨fl, t', a', b', h, hfl⟩ := ll_loop (Γ := callN T C F n) (F := F) (j := st.length) (rs := rs) (d1 := .int v) (d2 := .tup (ts.map .str)) ts [] v none none none (st ++ [.lst [.int v]]) (by simp) (by simp; omega)
  have hset : (st ++ [O.lst [.int v]]).set st.length (.lst (([] ++ levGo (ts.map (lookR rs)) v).map .int)) = st ++ [.lst ((levGo (ts.map (lookR rs)) v).map .int)] := by simp
  rw [hset] at h
  have hi : evI (callN T C F n) C (.seq (.var 2)) [some (.dic (kvs rs)), some (.int v), some (.tup (ts.map .str)), some (.mref st.length), none, none, none] (st ++ [.lst [.int v]]) = .ok (ts.map .str, st ++ [.lst [.int v]]) := by
    simp only [evI, x_var, List.getElem?_cons_zero, List.getElem?_cons_succ, rb, seqItems]
  have e1 : evS (callN T C F n) C F (.asg (.name 3) (.lstM [(.var 1)])) [some (.dic (kvs rs)), some (.int v), some (.tup (ts.map .str)), none, none, none, none] st = .ok (.next, [some (.dic (kvs rs)), some (.int v), some (.tup (ts.map .str)), some (.mref st.length), none, none, none], st ++ [.lst [.int v]]) := by
    simp (decide := true) only [runBody, List.map, List.length_cons, List.length_nil, List.replicate, List.cons_append, List.nil_append, evSs, x_lit, x_var, x_glob, x_bin, x_neg, x_not, x_cmp, x_chain, x_and, x_or, x_ite, x_tup, x_lst, x_lstM, x_idx, x_slc, x_rev, x_call, x_bi, x_copyM, x_append, x_extend, x_popAt, x_pop, x_frz, x_dnew, x_rng1, x_rng2, x_dget, y_asg, y_par, y_aug, y_ex, y_setix, y_ite, y_ret, y_retN, y_brk, y_cont, y_pass, y_never, y_frzV, evEs, evAnd, evOr, evT, evO, rb, List.getElem?_cons_zero, List.getElem?_cons_succ, sn_int, sn_str, sn_bl, sn_tup, sn_lst, sn_non, sn_dic, sn_ro, ix_l, ix_t, ix_r, ro_some, c_gt, c_ge, c_lt, c_le, decide_true, decide_false, ab, if_true, if_false, Bool.false_eq_true, Bool.not_true, Bool.not_false, bi_int, bi_intb, bi_abs, bi_lenl, bi_lent, bi_lenr, bi_tupl, b_add, b_sub, a_name, a_tup, as_nil, as_cons, setAll, List.set_cons_zero, List.set_cons_succ, ir_int, ir_str, ir_tup, ir_lst, ir_bl, ir_non, ir_dic, ir_ro, List.length_set, tn0, tn1, tn2, tn3, lim_ok, noRefs, Bool.and_self]
  have hs2 : snap (st ++ [O.lst ((levGo (ts.map (lookR rs)) v).map .int)]) (.mref st.length) = .lst ((levGo (ts.map (lookR rs)) v).map .int) := sn_ml (by simp)
  have e : evSs (callN T C F n) C F [.asg (.name 3) (.lstM [(.var 1)]), .for_ (.name 4) (.seq (.var 2)) llBody, .ret (.bi .tuple [(.var 3)])] [some (.dic (kvs rs)), some (.int v), some (.tup (ts.map .str)), none, none, none, none] st =
      .ok (.ret (.tup ((levGo (ts.map (lookR rs)) v).map .int)), [some (.dic (kvs rs)), some (.int v), some (.tup (ts.map .str)), some (.mref st.length), t', a', b'], st ++ [.lst ((levGo (ts.map (lookR rs)) v).map .int)]) := by
    rw [ss_next e1]
    rcases hfl with rfl | rfl
    · rw [ss_next ((s_for hi).trans h)]
      simp (decide := true) only [runBody, List.map, List.length_cons, List.length_nil, List.replicate, List.cons_append, List.nil_append, evSs, x_lit, x_var, x_glob, x_bin, x_neg, x_not, x_cmp, x_chain, x_and, x_or, x_ite, x_tup, x_lst, x_lstM, x_idx, x_slc, x_rev, x_call, x_bi, x_copyM, x_append, x_extend, x_popAt, x_pop, x_frz, x_dnew, x_rng1, x_rng2, x_dget, y_asg, y_par, y_aug, y_ex, y_setix, y_ite, y_ret, y_retN, y_brk, y_cont, y_pass, y_never, y_frzV, evEs, evAnd, evOr, evT, evO, rb, List.getElem?_cons_zero, List.getElem?_cons_succ, sn_int, sn_str, sn_bl, sn_tup, sn_lst, sn_non, sn_dic, sn_ro, ix_l, ix_t, ix_r, ro_some, c_gt, c_ge, c_lt, c_le, decide_true, decide_false, ab, if_true, if_false, Bool.false_eq_true, Bool.not_true, Bool.not_false, bi_int, bi_intb, bi_abs, bi_lenl, bi_lent, bi_lenr, bi_tupl, b_add, b_sub, a_name, a_tup, as_nil, as_cons, setAll, List.set_cons_zero, List.set_cons_succ, ir_int, ir_str, ir_tup, ir_lst, ir_bl, ir_non, ir_dic, ir_ro, List.length_set, tn0, tn1, tn2, tn3, lim_ok, hs2]
    · rw [ss_ret ((s_for hi).trans h)]
      rfl
  rw [body_ret (fn := f27) e]
  show En.finish false st.length (.tup _) _ = _
  simp [En.finish]
end K10

set_option Elab.async false
set_option linter.all false
set_option maxRecDepth 100000
set_option maxHeartbeats 400000
namespace K10
open PySem En
/-- an item of a trade's dict -/
def itD (r : Rw) : D := .tup [.str r.1, .tup [.int r.2.1, .int r.2.2]]
theorem items_kvs (rs : List Rw) : itemsKv (.dic (kvs rs)) = .ok (rs.map itD) := by
  simp only [itemsKv, kvs, List.map_map]
  rfl
theorem pairs_it : ∀ rs : List Rw, pairsD (rs.map itD) = some (kvs rs)
  | [] => rfl
  | r :: rs => by
    have ih := pairs_it rs
    simp only [List.map_cons, itD, pairsD, keyOf] at ih ⊢
    simp only [ih, kvs, List.map_cons]
theorem merge_new : ∀ {rs : List Rw} {acc : List (L2.Key × D)}, (rs.map (·.1)).Nodup → (∀ p ∈ acc, ∀ r ∈ rs, p.1 ≠ .inr r.1) → dmerge acc (kvs rs) = acc ++ kvs rs
  | [], acc, _, _ => by simp [dmerge, kvs]
  | r :: rs, acc, nd, ha => by
    have nd' := List.nodup_cons.mp (show (r.1 :: rs.map (·.1)).Nodup from nd)
    have e : dmerge acc (kvs (r :: rs)) = dmerge (dput acc (.inr r.1) (.tup [.int r.2.1, .int r.2.2])) (kvs rs) := rfl
    rw [e, dput_new fun p hp => ha p hp r (List.mem_cons_self ..), merge_new nd'.2 fun p hp x hx => ?_]
    · simp [kvs]
    · rcases List.mem_append.mp hp with hp | hp
      · exact ha p hp x (List.mem_cons_of_mem _ hx)
      · simp only [List.mem_singleton] at hp
        subst hp
        intro e
        have e' : r.1 = x.1 := Sum.inr.inj e
        exact nd'.1 (by rw [e']; exact List.mem_map_of_mem hx)
theorem dict_it {rs : List Rw} (nd : (rs.map (·.1)).Nodup) : bi .dict [.lst (rs.map itD)] = .ok (.dic (kvs rs)) := by
  simp only [bi, pairs_it, ro_some, rb]
  rw [merge_new nd (fun p hp => by cases hp)]
  rfl
theorem back_names (rs : List Rw) : (rs.map backR).map (·.1) = rs.map (·.1) := by rw [List.map_map]; rfl
theorem lawBack_run {F n : Nat} {st : Sto} {rs : List Rw} (nd : (rs.map (·.1)).Nodup) : callN T C F (n + 1) 29 [.dic (kvs rs)] st = .ok (.dic (kvs (rs.map backR)), st) := by
  rw [call_eq (fn := f29) rfl, run0 rfl rfl]
  have e : evSs (callN T C F n) C F f29.body [some (.dic (kvs rs)), none, none, none] st = .ok (.ret (.dic (kvs (rs.map backR))), [some (.dic (kvs rs)), none, none, none], st) := by
    have hi : evI (callN T C F n) C (.items (.var 0)) [some (.dic (kvs rs)), none, none, none] st = .ok (rs.map itD, st) := by
      simp only [evI, x_var, List.getElem?_cons_zero, rb, items_kvs]
    have hc := ev_comp (Γ := callN T C F n) (C := C) (e := .tup [(.var 1), (.tup [(.bin .add (.var 2) (.var 3)), (.neg (.var 3))])]) (t := .tup [(.name 1), (.tup [(.name 2), (.name 3)])]) (own := [1, 2, 3]) (f := fun d => match d with | .tup [.str x, .tup [.int a, .int b]] => itD (backR (x, a, b)) | _ => .non) hi fun x hx => by
      obtain ⟨r, hr, rfl⟩ := List.mem_map.mp hx
      refine ⟨[some (.dic (kvs rs)), some (.str r.1), some (.int r.2.1), some (.int r.2.2)], rfl, ?_, rfl⟩
      simp (decide := true) only [runBody, List.map, List.length_cons, List.length_nil, List.replicate, List.cons_append, List.nil_append, evSs, x_lit, x_var, x_glob, x_bin, x_neg, x_not, x_cmp, x_chain, x_and, x_or, x_ite, x_tup, x_lst, x_lstM, x_idx, x_slc, x_rev, x_call, x_bi, x_copyM, x_append, x_extend, x_popAt, x_pop, x_frz, x_dnew, x_rng1, x_rng2, x_dget, y_asg, y_par, y_aug, y_ex, y_setix, y_ite, y_ret, y_retN, y_brk, y_cont, y_pass, y_never, y_frzV, evEs, evAnd, evOr, evT, evO, rb, List.getElem?_cons_zero, List.getElem?_cons_succ, sn_int, sn_str, sn_bl, sn_tup, sn_lst, sn_non, sn_dic, sn_ro, ix_l, ix_t, ix_r, ro_some, c_gt, c_ge, c_lt, c_le, decide_true, decide_false, ab, if_true, if_false, Bool.false_eq_true, Bool.not_true, Bool.not_false, bi_int, bi_intb, bi_abs, bi_lenl, bi_lent, bi_lenr, bi_tupl, b_add, b_sub, a_name, a_tup, as_nil, as_cons, setAll, List.set_cons_zero, List.set_cons_succ, ir_int, ir_str, ir_tup, ir_lst, ir_bl, ir_non, ir_dic, ir_ro, List.length_set, tn0, tn1, tn2, tn3, lim_ok, itD, backR, noRefs, Bool.and_self]
    rw [List.map_map] at hc
    have em : rs.map ((fun d : D => match d with | .tup [.str x, .tup [.int a, .int b]] => itD (backR (x, a, b)) | _ => .non) ∘ itD) = (rs.map backR).map itD := by rw [List.map_map]; rfl
    rw [em] at hc
    simp (decide := true) only [runBody, List.map, List.length_cons, List.length_nil, List.replicate, List.cons_append, List.nil_append, evSs, x_lit, x_var, x_glob, x_bin, x_neg, x_not, x_cmp, x_chain, x_and, x_or, x_ite, x_tup, x_lst, x_lstM, x_idx, x_slc, x_rev, x_call, x_bi, x_copyM, x_append, x_extend, x_popAt, x_pop, x_frz, x_dnew, x_rng1, x_rng2, x_dget, y_asg, y_par, y_aug, y_ex, y_setix, y_ite, y_ret, y_retN, y_brk, y_cont, y_pass, y_never, y_frzV, evEs, evAnd, evOr, evT, evO, rb, List.getElem?_cons_zero, List.getElem?_cons_succ, sn_int, sn_str, sn_bl, sn_tup, sn_lst, sn_non, sn_dic, sn_ro, ix_l, ix_t, ix_r, ro_some, c_gt, c_ge, c_lt, c_le, decide_true, decide_false, ab, if_true, if_false, Bool.false_eq_true, Bool.not_true, Bool.not_false, bi_int, bi_intb, bi_abs, bi_lenl, bi_lent, bi_lenr, bi_tupl, b_add, b_sub, a_name, a_tup, as_nil, as_cons, setAll, List.set_cons_zero, List.set_cons_succ, ir_int, ir_str, ir_tup, ir_lst, ir_bl, ir_non, ir_dic, ir_ro, List.length_set, tn0, tn1, tn2, tn3, lim_ok, f29, hc, dict_it (rs := rs.map backR) (by rw [back_names]; exact nd)]
  rw [body_ret (fn := f29) (ds := [.dic (kvs rs)]) e]
  exact fin_d rfl rfl
theorem lim_small {n : Nat} (h : n < 1000) : n ≤ LIM := by rw [LIM_val]; omega
/-- the trade that is told -/
def told (rs : List Rw) : List Rw := (sortS (rs.map (·.1))).map fun t => (t, lookR rs t)
theorem strKeys_kvs : ∀ rs : List Rw, strKeys (kvs rs) = some (rs.map (·.1))
  | [] => rfl
  | r :: rs => by
    have ih := strKeys_kvs rs
    show (strKeys (kvs rs)).map (r.1 :: ·) = _
    rw [ih]; rfl
theorem dget_mem : ∀ {rs : List Rw} {t : Str}, t ∈ rs.map (·.1) → dget (kvs rs) (.inr t) = some (.tup [.int (lookR rs t).1, .int (lookR rs t).2])
  | [], t, h => by cases h
  | r :: rs, t, h => by
    by_cases e : r.1 = t
    · simp [dget, kvs, lookR, e]
    · have h' : t ∈ rs.map (·.1) := by
        rcases List.mem_cons.mp (show t ∈ r.1 :: rs.map (·.1) from h) with q | q
        · exact absurd q.symm e
        · exact q
      have ih := dget_mem h'
      simp only [dget, kvs, lookR, List.map_cons] at ih ⊢
      rw [List.find?_cons_of_neg (by simpa using fun e' => e e'), List.find?_cons_of_neg (by simpa using e)]
      exact ih
theorem told_run {F n : Nat} {st : Sto} {rs : List Rw} (hl : rs.length < 64) : callN T C F (n + 1) 26 [.dic (kvs rs)] st = .ok (.tup ((told rs).map rowD), st) := by
  rw [call_eq (fn := f26) rfl, run0 rfl rfl]
  have e : evSs (callN T C F n) C F f26.body [some (.dic (kvs rs)), none] st = .ok (.ret (.tup ((told rs).map rowD)), [some (.dic (kvs rs)), none], st) := by
    have hs : bi .sorted [.dic (kvs rs)] = .ok (.lst ((sortS (rs.map (·.1))).map .str)) := by
      simp only [bi, strKeys_kvs, ro_some, rb, List.length_map]
      rw [if_pos hl]
    have hi : evI (callN T C F n) C (.seq (.bi .sorted [.var 0])) [some (.dic (kvs rs)), none] st = .ok ((sortS (rs.map (·.1))).map .str, st) := by
      simp only [evI, x_bi, evEs, x_var, List.getElem?_cons_zero, rb, List.map, sn_dic, hs, seqItems]
    have hc := ev_comp (Γ := callN T C F n) (C := C) (e := .bin .add (.tup [(.var 1)]) (.idx (.var 0) (.var 1))) (t := .name 1) (own := [1]) (f := fun d => match d with | .str t => rowD (t, lookR rs t) | _ => .non) hi fun x hx => by
      obtain ⟨t, ht, rfl⟩ := List.mem_map.mp hx
      have ht' : t ∈ rs.map (·.1) := (sortS_perm _).mem_iff.mp ht
      refine ⟨[some (.dic (kvs rs)), some (.str t)], rfl, ?_, rfl⟩
      have hx : idx (.dic (kvs rs)) (.str t) = .ok (.tup [.int (lookR rs t).1, .int (lookR rs t).2]) := by
        simp only [idx, keyOf, dget_mem ht', ro_some]
      have hb : bop .add (.tup [.str t]) (.tup [.int (lookR rs t).1, .int (lookR rs t).2]) = .ok (rowD (t, lookR rs t)) := by
        simp only [bop, List.length_cons, List.length_nil]
        exact if_pos (lim_small (by omega))
      simp (decide := true) only [runBody, List.map, List.length_cons, List.length_nil, List.replicate, List.cons_append, List.nil_append, evSs, x_lit, x_var, x_glob, x_bin, x_neg, x_not, x_cmp, x_chain, x_and, x_or, x_ite, x_tup, x_lst, x_lstM, x_idx, x_slc, x_rev, x_call, x_bi, x_copyM, x_append, x_extend, x_popAt, x_pop, x_frz, x_dnew, x_rng1, x_rng2, x_dget, y_asg, y_par, y_aug, y_ex, y_setix, y_ite, y_ret, y_retN, y_brk, y_cont, y_pass, y_never, y_frzV, evEs, evAnd, evOr, evT, evO, rb, List.getElem?_cons_zero, List.getElem?_cons_succ, sn_int, sn_str, sn_bl, sn_tup, sn_lst, sn_non, sn_dic, sn_ro, ix_l, ix_t, ix_r, ro_some, c_gt, c_ge, c_lt, c_le, decide_true, decide_false, ab, if_true, if_false, Bool.false_eq_true, Bool.not_true, Bool.not_false, bi_int, bi_intb, bi_abs, bi_lenl, bi_lent, bi_lenr, bi_tupl, b_add, b_sub, a_name, a_tup, as_nil, as_cons, setAll, List.set_cons_zero, List.set_cons_succ, ir_int, ir_str, ir_tup, ir_lst, ir_bl, ir_non, ir_dic, ir_ro, List.length_set, tn0, tn1, tn2, tn3, lim_ok, hx, hb, noRefs, Bool.and_self]
    rw [List.map_map] at hc
    have em : (sortS (rs.map (·.1))).map ((fun d : D => match d with | .str t => rowD (t, lookR rs t) | _ => .non) ∘ D.str) = (told rs).map rowD := by rw [told, List.map_map]; rfl
    rw [em] at hc
    simp (decide := true) only [runBody, List.map, List.length_cons, List.length_nil, List.replicate, List.cons_append, List.nil_append, evSs, x_lit, x_var, x_glob, x_bin, x_neg, x_not, x_cmp, x_chain, x_and, x_or, x_ite, x_tup, x_lst, x_lstM, x_idx, x_slc, x_rev, x_call, x_bi, x_copyM, x_append, x_extend, x_popAt, x_pop, x_frz, x_dnew, x_rng1, x_rng2, x_dget, y_asg, y_par, y_aug, y_ex, y_setix, y_ite, y_ret, y_retN, y_brk, y_cont, y_pass, y_never, y_frzV, evEs, evAnd, evOr, evT, evO, rb, List.getElem?_cons_zero, List.getElem?_cons_succ, sn_int, sn_str, sn_bl, sn_tup, sn_lst, sn_non, sn_dic, sn_ro, ix_l, ix_t, ix_r, ro_some, c_gt, c_ge, c_lt, c_le, decide_true, decide_false, ab, if_true, if_false, Bool.false_eq_true, Bool.not_true, Bool.not_false, bi_int, bi_intb, bi_abs, bi_lenl, bi_lent, bi_lenr, bi_tupl, b_add, b_sub, a_name, a_tup, as_nil, as_cons, setAll, List.set_cons_zero, List.set_cons_succ, ir_int, ir_str, ir_tup, ir_lst, ir_bl, ir_non, ir_dic, ir_ro, List.length_set, tn0, tn1, tn2, tn3, lim_ok, f26, hc]
  rw [body_ret (fn := f26) (ds := [.dic (kvs rs)]) e]
  exact fin_d rfl rfl
theorem told_names (rs : List Rw) : (told rs).map (·.1) = sortS (rs.map (·.1)) := by
  rw [told, List.map_map]
  exact (List.map_id _)
theorem told_nodup {rs : List Rw} (nd : (rs.map (·.1)).Nodup) : ((told rs).map (·.1)).Nodup := by
  rw [told_names]; exact (sortS_perm _).nodup_iff.mpr nd
theorem told_len (rs : List Rw) : (told rs).length = rs.length := by
  rw [told, List.length_map, (sortS_perm _).length_eq, List.length_map]
theorem told_asc {rs : List Rw} (nd : (rs.map (·.1)).Nodup) : Asc ((told rs).map (·.1)) := by
  intro i x y hx hy
  have nd' := told_nodup nd
  rw [told_names] at hx hy nd'
  have hs := sortS_sorted (rs.map (·.1))
  rw [ltStr_iff]
  obtain ⟨h1, e1⟩ := List.getElem?_eq_some_iff.mp hx
  obtain ⟨h2, e2⟩ := List.getElem?_eq_some_iff.mp hy
  have hle : leStr x y := by rw [← e1, ← e2]; exact List.pairwise_iff_getElem.mp hs i (i + 1) h1 h2 (by omega)
  have hne : x ≠ y := by rw [← e1, ← e2]; exact List.pairwise_iff_getElem.mp nd' i (i + 1) h1 h2 (by omega)
  by_cases h : x.cps.toList < y.cps.toList
  · exact h
  · exact absurd (leStr_antisymm hle h) hne
theorem look_none {rs : List Rw} {t : Str} (h : t ∉ rs.map (·.1)) : lookR rs t = (0, 0) := by
  unfold lookR
  rw [List.find?_eq_none.mpr]
  · rfl
  · intro r hr
    simp only [decide_eq_true_eq]
    intro e
    exact h (by rw [← e]; exact List.mem_map_of_mem hr)
theorem look_mem : ∀ {rs : List Rw} {t : Str}, t ∈ rs.map (·.1) → (t, lookR rs t) ∈ rs
  | [], t, h => by cases h
  | r :: rs, t, h => by
    by_cases e : r.1 = t
    · have : lookR (r :: rs) t = r.2 := by simp [lookR, e]
      rw [this, ← e]
      exact List.mem_cons_self ..
    · have h' : t ∈ rs.map (·.1) := by
        rcases List.mem_cons.mp (show t ∈ r.1 :: rs.map (·.1) from h) with q | q
        · exact absurd q.symm e
        · exact q
      have : lookR (r :: rs) t = lookR rs t := by
        unfold lookR
        rw [List.find?_cons_of_neg (by simpa using e)]
      rw [this]
      exact List.mem_cons_of_mem _ (look_mem h')
theorem look_row {rs : List Rw} {r : Rw} (nd : (rs.map (·.1)).Nodup) (h : r ∈ rs) : lookR rs r.1 = r.2 := by
  induction rs with
  | nil => cases h
  | cons q rs ih =>
    have nd' := List.nodup_cons.mp (show (q.1 :: rs.map (·.1)).Nodup from nd)
    rcases List.mem_cons.mp h with e | h
    · subst e; simp [lookR]
    · have hne : q.1 ≠ r.1 := fun e => nd'.1 (by rw [e]; exact List.mem_map_of_mem h)
      have : lookR (q :: rs) r.1 = lookR rs r.1 := by
        unfold lookR
        rw [List.find?_cons_of_neg (by simpa using hne)]
      rw [this]
      exact ih nd'.2 h
theorem told_look {rs : List Rw} (nd : (rs.map (·.1)).Nodup) (t : Str) : lookR (told rs) t = lookR rs t := by
  by_cases h : t ∈ rs.map (·.1)
  · have h' : t ∈ (told rs).map (·.1) := by rw [told_names]; exact (sortS_perm _).mem_iff.mpr h
    have hm := look_mem h'
    obtain ⟨t', ht', e⟩ := List.mem_map.mp hm
    have e1 : t' = t := congrArg (·.1) e
    have e2 : lookR rs t' = lookR (told rs) t := congrArg (·.2) e
    rw [← e2, e1]
  · have h' : t ∉ (told rs).map (·.1) := by rw [told_names]; exact fun q => h ((sortS_perm _).mem_iff.mp q)
    rw [look_none h, look_none h']
theorem told_rows {rs : List Rw} {P : Rw → Prop} (h : ∀ r ∈ rs, P r) : ∀ r ∈ told rs, P r := by
  intro r hr
  obtain ⟨t, ht, rfl⟩ := List.mem_map.mp hr
  exact h _ (look_mem ((sortS_perm _).mem_iff.mp ht))
theorem back_look {rs : List Rw} (t : Str) : lookR (rs.map backR) t = ((lookR rs t).1 + (lookR rs t).2, -(lookR rs t).2) := by
  induction rs with
  | nil => rfl
  | cons r rs ih =>
    by_cases e : r.1 = t
    · simp [lookR, backR, e]
    · have e1 : lookR (r :: rs) t = lookR rs t := by
        unfold lookR
        rw [List.find?_cons_of_neg (by simpa using e)]
      have e2 : lookR ((r :: rs).map backR) t = lookR (rs.map backR) t := by
        unfold lookR
        rw [List.map_cons, List.find?_cons_of_neg (by rw [decide_eq_true_eq]; exact e)]
      rw [e1, e2, ih]
theorem told_back (rs : List Rw) : told (rs.map backR) = (told rs).map backR := by
  unfold told
  rw [back_names, List.map_map]
  apply List.map_congr_left
  intro t _
  rw [back_look]
  rfl
end K10

set_option Elab.async false
set_option linter.all false
set_option maxRecDepth 100000
set_option maxHeartbeats 400000
namespace K10
open PySem En
def W300 : Int := (10 ^ 60) ^ 5
def W18 : Int := 10 ^ 18
theorem W300_eq : W300 = 10 ^ 300 := by decide +kernel
theorem W300_pos : 0 < W300 := by decide +kernel
theorem W300_lt : W300 < 2 ^ 997 := by decide +kernel
theorem ev_300 {Γ : Fns} {env : En.Env} {st : Sto} : evE Γ C (.bin .pow (.bin .pow (.lit (.int 10)) (.lit (.int 60))) (.lit (.int 5))) env st = .ok (.int W300, st) := by
  have h1 : bop .pow (.int 10) (.int 60) = .ok (.int (10 ^ 60)) := b_pow (i := 10) (j := 60) ⟨by decide, by decide +kernel⟩
  have h2 : bop .pow (.int (10 ^ 60)) (.int 5) = .ok (.int W300) := b_pow (i := 10 ^ 60) (j := 5) ⟨by decide, by decide +kernel⟩
  exact ev_bin (ev_bin (x_lit _ _ _) (x_lit _ _ _) h1) (x_lit _ _ _) h2
theorem ev_18 {Γ : Fns} {env : En.Env} {st : Sto} : evE Γ C (.bin .pow (.lit (.int 10)) (.lit (.int 18))) env st = .ok (.int W18, st) := by
  have h1 : bop .pow (.int 10) (.int 18) = .ok (.int W18) := b_pow (i := 10) (j := 18) ⟨by decide, by decide +kernel⟩
  exact ev_bin (x_lit _ _ _) (x_lit _ _ _) h1
theorem log_sm {a : Int} {n : Nat} (h0 : 0 ≤ a) (h : a < 2 ^ n) {b : Int} {m : Nat} (g0 : 0 ≤ b) (g : b < 2 ^ m) (hn : n + m < 1000000) : a.natAbs.log2 + b.natAbs.log2 < 1000000 := by
  have := log2_le h0 h
  have := log2_le g0 g
  omega
theorem pot_run {F n : Nat} {st : Sto} {zs : List Int} {p : Nat} (hp : p < 64) :
    ∃ o s, callN T C F (n + 1) 19 [.ro (zs.map .int), .int p] st = .ok (.mref st.length, st ++ [.lst [.int o, .int s, .int 0]]) ∧ 0 ≤ o ∧ o < 10 ^ 300 ∧ 0 ≤ s ∧ s < 2 ^ 61 := by
  rw [call_eq (fn := f19) rfl, run0 rfl rfl]
  generalize hΓ : callN T C F n = Γ
  obtain ⟨cell, e1⟩ : ∃ cell : Int, evS Γ C F (.asg (.name 2) (.ite (.cmp .lt (.var 1) (.bi .len [(.var 0)])) (.idx (.var 0) (.var 1)) (.bin .add (.bin .mul (.lit (.int 243)) (.var 1)) (.lit (.int 97))))) [some (.ro (zs.map .int)), some (.int p), none, none, none] st = .ok (.next, [some (.ro (zs.map .int)), some (.int p), some (.int cell), none, none], st) := by
    by_cases h : p < zs.length
    · have h1 : decide ((p : Int) < ((zs.map D.int).length : Int)) = true := by rw [decide_eq_true_eq, List.length_map]; omega
      have h2 : atD (zs.map D.int) (p : Int) = some (.int zs[p]) := by
        have := at_nat (ds := zs.map D.int) (r := (p : Int)) (by omega) (by rw [List.length_map]; omega)
        rw [this]
        simp
      exact ⟨zs[p], by simp (decide := true) only [runBody, List.map, List.length_cons, List.length_nil, List.replicate, List.cons_append, List.nil_append, evSs, x_lit, x_var, x_glob, x_bin, x_neg, x_not, x_cmp, x_chain, x_and, x_or, x_ite, x_tup, x_lst, x_lstM, x_idx, x_slc, x_rev, x_call, x_bi, x_copyM, x_append, x_extend, x_popAt, x_pop, x_frz, x_dnew, x_rng1, x_rng2, x_dget, y_asg, y_par, y_aug, y_ex, y_setix, y_ite, y_ret, y_retN, y_brk, y_cont, y_pass, y_never, y_frzV, evEs, evAnd, evOr, evT, evO, rb, List.getElem?_cons_zero, List.getElem?_cons_succ, sn_int, sn_str, sn_bl, sn_tup, sn_lst, sn_non, sn_dic, sn_ro, ix_l, ix_t, ix_r, ro_some, c_gt, c_ge, c_lt, c_le, decide_true, decide_false, ab, if_true, if_false, Bool.false_eq_true, Bool.not_true, Bool.not_false, bi_int, bi_intb, bi_abs, bi_lenl, bi_lent, bi_lenr, bi_tupl, b_add, b_sub, a_name, a_tup, as_nil, as_cons, setAll, List.set_cons_zero, List.set_cons_succ, ir_int, ir_str, ir_tup, ir_lst, ir_bl, ir_non, ir_dic, ir_ro, List.length_set, tn0, tn1, tn2, tn3, lim_ok, h1, h2]⟩
    · have h1 : decide ((p : Int) < ((zs.map D.int).length : Int)) = false := by rw [decide_eq_false_iff_not, List.length_map]; omega
      have h2 := b_mul (i := 243) (j := (p : Int)) (log_sm (n := 8) (m := 6) (by omega) (by omega) (by omega) (by omega) (by omega))
      exact ⟨243 * p + 97, by simp (decide := true) only [runBody, List.map, List.length_cons, List.length_nil, List.replicate, List.cons_append, List.nil_append, evSs, x_lit, x_var, x_glob, x_bin, x_neg, x_not, x_cmp, x_chain, x_and, x_or, x_ite, x_tup, x_lst, x_lstM, x_idx, x_slc, x_rev, x_call, x_bi, x_copyM, x_append, x_extend, x_popAt, x_pop, x_frz, x_dnew, x_rng1, x_rng2, x_dget, y_asg, y_par, y_aug, y_ex, y_setix, y_ite, y_ret, y_retN, y_brk, y_cont, y_pass, y_never, y_frzV, evEs, evAnd, evOr, evT, evO, rb, List.getElem?_cons_zero, List.getElem?_cons_succ, sn_int, sn_str, sn_bl, sn_tup, sn_lst, sn_non, sn_dic, sn_ro, ix_l, ix_t, ix_r, ro_some, c_gt, c_ge, c_lt, c_le, decide_true, decide_false, ab, if_true, if_false, Bool.false_eq_true, Bool.not_true, Bool.not_false, bi_int, bi_intb, bi_abs, bi_lenl, bi_lent, bi_lenr, bi_tupl, b_add, b_sub, a_name, a_tup, as_nil, as_cons, setAll, List.set_cons_zero, List.set_cons_succ, ir_int, ir_str, ir_tup, ir_lst, ir_bl, ir_non, ir_dic, ir_ro, List.length_set, tn0, tn1, tn2, tn3, lim_ok, h1, h2]⟩
  generalize hx : (if cell < 0 then -cell else cell) = x
  have x0 : 0 ≤ x := by rw [← hx]; split <;> omega
  have r0 : 0 ≤ x % W300 := Int.emod_nonneg _ (by have := W300_pos; omega)
  have r1 : x % W300 < W300 := Int.emod_lt_of_pos _ W300_pos
  generalize hr : x % W300 = r at *
  generalize hb : (if decide (W18 ≤ x) = true then (1 : Int) else 0) = b
  have b01 : b = 0 ∨ b = 1 := by rw [← hb]; split <;> simp
  have m1 : bop .mod (.int x) (.int W300) = .ok (.int r) := by rw [b_mod W300_pos, hr]
  have m2 := b_mul (i := r) (j := b) (log_sm (n := 997) (m := 1) r0 (Int.lt_trans r1 W300_lt) (by omega) (by omega) (by omega))
  have e2 : evS Γ C F (.asg (.name 3) (.bin .mul (.bin .mod (.bi .int [(.bi .abs [(.var 2)])]) (.bin .pow (.bin .pow (.lit (.int 10)) (.lit (.int 60))) (.lit (.int 5)))) (.bi .int [(.cmp .ge (.bi .abs [(.var 2)]) (.bin .pow (.lit (.int 10)) (.lit (.int 18))))]))) [some (.ro (zs.map .int)), some (.int p), some (.int cell), none, none] st = .ok (.next, [some (.ro (zs.map .int)), some (.int p), some (.int cell), some (.int (r * b)), none], st) := by
    simp (decide := true) only [runBody, List.map, List.length_cons, List.length_nil, List.replicate, List.cons_append, List.nil_append, evSs, x_lit, x_var, x_glob, x_bin, x_neg, x_not, x_cmp, x_chain, x_and, x_or, x_ite, x_tup, x_lst, x_lstM, x_idx, x_slc, x_rev, x_call, x_bi, x_copyM, x_append, x_extend, x_popAt, x_pop, x_frz, x_dnew, x_rng1, x_rng2, x_dget, y_asg, y_par, y_aug, y_ex, y_setix, y_ite, y_ret, y_retN, y_brk, y_cont, y_pass, y_never, y_frzV, evEs, evAnd, evOr, evT, evO, rb, List.getElem?_cons_zero, List.getElem?_cons_succ, sn_int, sn_str, sn_bl, sn_tup, sn_lst, sn_non, sn_dic, sn_ro, ix_l, ix_t, ix_r, ro_some, c_gt, c_ge, c_lt, c_le, decide_true, decide_false, ab, if_true, if_false, Bool.false_eq_true, Bool.not_true, Bool.not_false, bi_int, bi_intb, bi_abs, bi_lenl, bi_lent, bi_lenr, bi_tupl, b_add, b_sub, a_name, a_tup, as_nil, as_cons, setAll, List.set_cons_zero, List.set_cons_succ, ir_int, ir_str, ir_tup, ir_lst, ir_bl, ir_non, ir_dic, ir_ro, List.length_set, tn0, tn1, tn2, tn3, lim_ok, ↓ev_300, ↓ev_18, hx, m1, hb, m2]
  have c0 : 0 ≤ cell % 2305843009213693951 := Int.emod_nonneg _ (by omega)
  have c1 : cell % 2305843009213693951 < 2305843009213693951 := Int.emod_lt_of_pos _ (by omega)
  have m3 : bop .mod (.int cell) (.int 2305843009213693951) = .ok (.int (cell % 2305843009213693951)) := b_mod (by omega)
  generalize hc : cell % 2305843009213693951 = c at *
  have m4 := b_mul (i := c) (j := 75329) (log_sm (n := 61) (m := 17) c0 (by omega) (by omega) (by omega) (by omega))
  have m5 := b_mul (i := 7877) (j := (p : Int)) (log_sm (n := 13) (m := 6) (by omega) (by omega) (by omega) (by omega) (by omega))
  have m6 := b_mul (i := 7877 * (p : Int)) (j := (p : Int)) (log_sm (n := 30) (m := 6) (by omega) (by omega) (by omega) (by omega) (by omega))
  generalize hs : c * 75329 + 7877 * (p : Int) * (p : Int) + 183 = s
  have m7 : bop .mod (.int s) (.int 2305843009213693921) = .ok (.int (s % 2305843009213693921)) := b_mod (by omega)
  have e3 : evS Γ C F (.asg (.name 4) (.bin .mod (.bi .int [(.var 2)]) (.lit (.int 2305843009213693951)))) [some (.ro (zs.map .int)), some (.int p), some (.int cell), some (.int (r * b)), none] st = .ok (.next, [some (.ro (zs.map .int)), some (.int p), some (.int cell), some (.int (r * b)), some (.int c)], st) := by
    simp (decide := true) only [runBody, List.map, List.length_cons, List.length_nil, List.replicate, List.cons_append, List.nil_append, evSs, x_lit, x_var, x_glob, x_bin, x_neg, x_not, x_cmp, x_chain, x_and, x_or, x_ite, x_tup, x_lst, x_lstM, x_idx, x_slc, x_rev, x_call, x_bi, x_copyM, x_append, x_extend, x_popAt, x_pop, x_frz, x_dnew, x_rng1, x_rng2, x_dget, y_asg, y_par, y_aug, y_ex, y_setix, y_ite, y_ret, y_retN, y_brk, y_cont, y_pass, y_never, y_frzV, evEs, evAnd, evOr, evT, evO, rb, List.getElem?_cons_zero, List.getElem?_cons_succ, sn_int, sn_str, sn_bl, sn_tup, sn_lst, sn_non, sn_dic, sn_ro, ix_l, ix_t, ix_r, ro_some, c_gt, c_ge, c_lt, c_le, decide_true, decide_false, ab, if_true, if_false, Bool.false_eq_true, Bool.not_true, Bool.not_false, bi_int, bi_intb, bi_abs, bi_lenl, bi_lent, bi_lenr, bi_tupl, b_add, b_sub, a_name, a_tup, as_nil, as_cons, setAll, List.set_cons_zero, List.set_cons_succ, ir_int, ir_str, ir_tup, ir_lst, ir_bl, ir_non, ir_dic, ir_ro, List.length_set, tn0, tn1, tn2, tn3, lim_ok, m3]
  have e4 : evS Γ C F (.ret (.lstM [(.var 3), (.bin .mod (.bi .int [(.bin .add (.bin .add (.bin .mul (.var 4) (.lit (.int 75329))) (.bin .mul (.bin .mul (.lit (.int 7877)) (.var 1)) (.var 1))) (.lit (.int 183)))]) (.lit (.int 2305843009213693921))), (.lit (.int 0))])) [some (.ro (zs.map .int)), some (.int p), some (.int cell), some (.int (r * b)), some (.int c)] st = .ok (.ret (.mref st.length), [some (.ro (zs.map .int)), some (.int p), some (.int cell), some (.int (r * b)), some (.int c)], st ++ [.lst [.int (r * b), .int (s % 2305843009213693921), .int 0]]) := by
    simp (decide := true) only [runBody, List.map, List.length_cons, List.length_nil, List.replicate, List.cons_append, List.nil_append, evSs, x_lit, x_var, x_glob, x_bin, x_neg, x_not, x_cmp, x_chain, x_and, x_or, x_ite, x_tup, x_lst, x_lstM, x_idx, x_slc, x_rev, x_call, x_bi, x_copyM, x_append, x_extend, x_popAt, x_pop, x_frz, x_dnew, x_rng1, x_rng2, x_dget, y_asg, y_par, y_aug, y_ex, y_setix, y_ite, y_ret, y_retN, y_brk, y_cont, y_pass, y_never, y_frzV, evEs, evAnd, evOr, evT, evO, rb, List.getElem?_cons_zero, List.getElem?_cons_succ, sn_int, sn_str, sn_bl, sn_tup, sn_lst, sn_non, sn_dic, sn_ro, ix_l, ix_t, ix_r, ro_some, c_gt, c_ge, c_lt, c_le, decide_true, decide_false, ab, if_true, if_false, Bool.false_eq_true, Bool.not_true, Bool.not_false, bi_int, bi_intb, bi_abs, bi_lenl, bi_lent, bi_lenr, bi_tupl, b_add, b_sub, a_name, a_tup, as_nil, as_cons, setAll, List.set_cons_zero, List.set_cons_succ, ir_int, ir_str, ir_tup, ir_lst, ir_bl, ir_non, ir_dic, ir_ro, List.length_set, tn0, tn1, tn2, tn3, lim_ok, m4, m5, m6, hs, m7, noRefs, Bool.and_self]
  refine ⟨r * b, s % 2305843009213693921, ?_, ?_, ?_, Int.emod_nonneg _ (by omega), ?_⟩
  · rw [body_ret (fn := f19) (ds := [.ro (zs.map .int), .int p]) (d := .mref st.length) (st1 := st ++ [.lst [.int (r * b), .int (s % 2305843009213693921), .int 0]]) (env1 := [some (.ro (zs.map .int)), some (.int p), some (.int cell), some (.int (r * b)), some (.int c)])]
    · show En.finish true st.length (.mref st.length) _ = _
      simp [En.finish]
    · show evSs Γ C F f19.body [some (.ro (zs.map .int)), some (.int p), none, none, none] st = _
      unfold f19
      rw [ss_next e1, ss_next e2, ss_next e3, ss_ret e4]
  · rcases b01 with h | h <;> rw [h] <;> omega
  · have := W300_eq
    rcases b01 with h | h
    · rw [h, Int.mul_zero]; decide +kernel
    · rw [h, Int.mul_one, ← W300_eq]; exact r1
  · have := Int.emod_lt_of_pos s (b := 2305843009213693921) (by omega)
    omega
theorem ev_rng1 {Γ : Fns} {C : Nat → Option D} {t : Bool} {e : CE} {env : En.Env} {st st1 : Sto} {m : Nat} (h : evE Γ C e env st = .ok (.int m, st1)) (hm : m < 2000000) : evE Γ C (.rng1 t e) env st = .ok (rngT t (rngD 0 m), st1) := by
  rw [x_rng1, h, rb]
  exact (if_pos (small_rng hm)).trans (by rw [Int.toNat_natCast])
theorem cells_run {F n : Nat} {st : Sto} {zs : List Int} : ∃ m : Nat, m ≤ 4 ∧ callN T C F (n + 1) 23 [.ro (zs.map .int), .int 4] st = .ok (.lst (rngD 0 m), st) := by
  rw [call_eq (fn := f23) rfl, run0 rfl rfl]
  have hm : ∃ m : Nat, m ≤ 4 ∧ evE (callN T C F n) C (.bi .max2 [(.lit (.int 1)), (.bi .min2 [(.var 1), (.bi .len [(.var 0)])])]) [some (.ro (zs.map .int)), some (.int 4)] st = .ok (.int m, st) := by
    have hb : ∀ i j : Int, bi .min2 [.int i, .int j] = .ok (.int (if j < i then j else i)) := fun _ _ => rfl
    refine ⟨if zs.length = 0 then 1 else if zs.length < 4 then zs.length else 4, by split <;> (try split) <;> omega, ?_⟩
    simp (decide := true) only [runBody, List.map, List.length_cons, List.length_nil, List.replicate, List.cons_append, List.nil_append, evSs, x_lit, x_var, x_glob, x_bin, x_neg, x_not, x_cmp, x_chain, x_and, x_or, x_ite, x_tup, x_lst, x_lstM, x_idx, x_slc, x_rev, x_call, x_bi, x_copyM, x_append, x_extend, x_popAt, x_pop, x_frz, x_dnew, x_rng1, x_rng2, x_dget, y_asg, y_par, y_aug, y_ex, y_setix, y_ite, y_ret, y_retN, y_brk, y_cont, y_pass, y_never, y_frzV, evEs, evAnd, evOr, evT, evO, rb, List.getElem?_cons_zero, List.getElem?_cons_succ, sn_int, sn_str, sn_bl, sn_tup, sn_lst, sn_non, sn_dic, sn_ro, ix_l, ix_t, ix_r, ro_some, c_gt, c_ge, c_lt, c_le, decide_true, decide_false, ab, if_true, if_false, Bool.false_eq_true, Bool.not_true, Bool.not_false, bi_int, bi_intb, bi_abs, bi_lenl, bi_lent, bi_lenr, bi_tupl, b_add, b_sub, a_name, a_tup, as_nil, as_cons, setAll, List.set_cons_zero, List.set_cons_succ, ir_int, ir_str, ir_tup, ir_lst, ir_bl, ir_non, ir_dic, ir_ro, List.length_set, tn0, tn1, tn2, tn3, lim_ok, bi_max2, hb, List.length_map, mx]
    congr 3
    split <;> (try split) <;> (try split) <;> (try split) <;> omega
  obtain ⟨m, h4, h⟩ := hm
  refine ⟨m, h4, ?_⟩
  have e : evSs (callN T C F n) C F f23.body [some (.ro (zs.map .int)), some (.int 4)] st = .ok (.ret (.lst (rngD 0 m)), [some (.ro (zs.map .int)), some (.int 4)], st) := by
    have hr := ev_rng1 (t := false) h (by omega)
    unfold f23
    refine ss_ret ?_
    rw [y_ret, hr]
    rfl
  rw [body_ret (fn := f23) (ds := [.ro (zs.map .int), .int 4]) e]
  exact fin_d rfl rfl
theorem names_eq : NAMES.map D.str = [.str "a", .str "b", .str "c", .str "d", .str "task", .str "may", .str "few", .str "do", .str "go", .str "x", .str "zzzzzzzz", .str "same", .str "bench", .str "stock"] ++ [.str "plan", .str "m"] := rfl
theorem lawNames_run {F n : Nat} {st : Sto} {i : Nat} {o s c : Int} {k : Nat} (p : Pot st i o s c k) (hk : k + 16 < 2 ^ 30) :
    ∃ (ts : List Str) (o' c' : Int), callN T C F (n + 3) 24 [.mref i, .int 16] st = .ok (.lst (ts.map .str), st.set i (.lst [.int o', .int s, .int c'])) ∧ ts.Perm NAMES ∧ Pot (st.set i (.lst [.int o', .int s, .int c'])) i o' s c' (k + 16) := by
  rw [call_eq (fn := f24) rfl, run0 rfl rfl]
  obtain ⟨out, rest, o', c', e, hl, pm, p'⟩ := some_run (F := F) (n := n) (m := 16) (ds := NAMES.map D.str) p hk (by decide) (by decide) (fun d hd => by obtain ⟨t, _, rfl⟩ := List.mem_map.mp hd; rfl)
  have hrest : rest = [] := by
    have := pm.length_eq
    simp only [List.length_append, hl, List.length_map] at this
    have h16 : NAMES.length = 16 := rfl
    rw [h16] at this
    exact List.eq_nil_of_length_eq_zero (by omega)
  subst hrest
  rw [List.append_nil] at pm
  obtain ⟨ts, hts, hpm⟩ : ∃ ts : List Str, out = ts.map D.str ∧ ts.Perm NAMES := by
    have hall : ∀ d ∈ out, ∃ t, d = D.str t := fun d hd => by
      obtain ⟨t, _, rfl⟩ := List.mem_map.mp (pm.mem_iff.mp hd)
      exact ⟨t, rfl⟩
    refine ⟨out.map fun d => match d with | .str t => t | _ => "", ?_, ?_⟩
    · rw [List.map_map]
      conv => lhs; rw [← List.map_id out]
      apply List.map_congr_left
      intro d hd
      obtain ⟨t, rfl⟩ := hall d hd
      rfl
    · have := pm.map fun d : D => match d with | .str t => t | _ => ("" : Str)
      rw [List.map_map] at this
      exact this.trans (List.Perm.of_eq (List.map_id _))
  subst hts
  refine ⟨ts, o', c', ?_, hpm, p'⟩
  have hb : bop .add (.lst [.str "a", .str "b", .str "c", .str "d", .str "task", .str "may", .str "few", .str "do", .str "go", .str "x", .str "zzzzzzzz", .str "same", .str "bench", .str "stock"]) (.lst [.str "plan", .str "m"]) = .ok (.lst (NAMES.map D.str)) := rfl
  have ee : evSs (callN T C F (n + 2)) C F f24.body [some (.mref i), some (.int 16), none] st = .ok (.ret (.lst (ts.map .str)), [some (.mref i), some (.int 16), some (.lst [.str "a", .str "b", .str "c", .str "d", .str "task", .str "may", .str "few", .str "do", .str "go", .str "x", .str "zzzzzzzz", .str "same", .str "bench", .str "stock"])], st.set i (.lst [.int o', .int s, .int c'])) := by
    simp (decide := true) only [runBody, List.map, List.length_cons, List.length_nil, List.replicate, List.cons_append, List.nil_append, evSs, x_lit, x_var, x_glob, x_bin, x_neg, x_not, x_cmp, x_chain, x_and, x_or, x_ite, x_tup, x_lst, x_lstM, x_idx, x_slc, x_rev, x_call, x_bi, x_copyM, x_append, x_extend, x_popAt, x_pop, x_frz, x_dnew, x_rng1, x_rng2, x_dget, y_asg, y_par, y_aug, y_ex, y_setix, y_ite, y_ret, y_retN, y_brk, y_cont, y_pass, y_never, y_frzV, evEs, evAnd, evOr, evT, evO, rb, List.getElem?_cons_zero, List.getElem?_cons_succ, sn_int, sn_str, sn_bl, sn_tup, sn_lst, sn_non, sn_dic, sn_ro, ix_l, ix_t, ix_r, ro_some, c_gt, c_ge, c_lt, c_le, decide_true, decide_false, ab, if_true, if_false, Bool.false_eq_true, Bool.not_true, Bool.not_false, bi_int, bi_intb, bi_abs, bi_lenl, bi_lent, bi_lenr, bi_tupl, b_add, b_sub, a_name, a_tup, as_nil, as_cons, setAll, List.set_cons_zero, List.set_cons_succ, ir_int, ir_str, ir_tup, ir_lst, ir_bl, ir_non, ir_dic, ir_ro, List.length_set, tn0, tn1, tn2, tn3, lim_ok, f24, noRefs, Bool.and_self, hb]
    rw [show (16 : Int) = ((16 : Nat) : Int) from rfl, e]
    rfl
  rw [body_ret (fn := f24) (ds := [.mref i, .int 16]) ee]
  exact fin_d rfl (by simp)
end K10

set_option Elab.async false
set_option linter.all false
set_option maxRecDepth 100000
set_option maxHeartbeats 400000
namespace K10
open PySem En
def PotX (st : Sto) (i k : Nat) : Prop := ∃ o s c, Pot st i o s c k
structure Adv (i : Nat) (st st' : Sto) : Prop where
  len : st'.length = st.length
  oth : ∀ m, m ≠ i → st'[m]? = st[m]?
theorem Adv.trans {i : Nat} {a b c : Sto} (h : Adv i a b) (g : Adv i b c) : Adv i a c := ⟨g.len.trans h.len, fun m hm => (g.oth m hm).trans (h.oth m hm)⟩
theorem adv_set {i : Nat} {st : Sto} {o : O} : Adv i st (st.set i o) := ⟨List.length_set .., fun m hm => List.getElem?_set_ne (Ne.symm hm)⟩
theorem PotX.up {st : Sto} {i k k' : Nat} (h : PotX st i k) (hk : k ≤ k') : PotX st i k' := by
  obtain ⟨o, s, c, p⟩ := h
  exact ⟨o, s, c, p.at_, p.o0, p.o1, p.s0, p.s1, p.c0, by have := p.c1; omega⟩
theorem PotX.of_at {st st' : Sto} {i k : Nat} (h : PotX st i k) (e : st'[i]? = st[i]?) : PotX st' i k := by
  obtain ⟨o, s, c, p⟩ := h
  exact ⟨o, s, c, e.trans p.at_, p.o0, p.o1, p.s0, p.s1, p.c0, p.c1⟩
theorem PotX.lt {st : Sto} {i k : Nat} (h : PotX st i k) : i < st.length := by
  obtain ⟨o, s, c, p⟩ := h
  exact st_lt p.at_
theorem take_x {F n : Nat} {st : Sto} {i k : Nat} {u : Int} (p : PotX st i k) (hk : k < 2 ^ 30) (u0 : 0 < u) (u1 : u < 2 ^ 20) :
    ∃ r st', callN T C F (n + 1) 20 [.mref i, .int u] st = .ok (.int r, st') ∧ 0 ≤ r ∧ r < u ∧ PotX st' i (k + 1) ∧ Adv i st st' := by
  obtain ⟨o, s, c, p⟩ := p
  obtain ⟨r, o', c', e, r0, r1, a0, a1, b0, b1⟩ := take_run (F := F) (n := n) p hk u0 u1
  exact ⟨r, _, e, r0, r1, ⟨o', s, c', set_at p.at_, a0, a1, p.s0, p.s1, b0, b1⟩, adv_set⟩
theorem of_x {F n : Nat} {st : Sto} {i k : Nat} {ds : List D} (p : PotX st i k) (hk : k < 2 ^ 30) (h0 : ds ≠ []) (h1 : ds.length < 2 ^ 20) (href : ∀ d ∈ ds, d.isRef = false) :
    ∃ d st', callN T C F (n + 2) 21 [.mref i, .lst ds] st = .ok (d, st') ∧ d ∈ ds ∧ PotX st' i (k + 1) ∧ Adv i st st' := by
  obtain ⟨o, s, c, p⟩ := p
  obtain ⟨d, st', o', c', e, hd, est, p'⟩ := of_run (F := F) (n := n) p hk h0 h1 href
  exact ⟨d, st', e, hd, ⟨o', s, c', p'⟩, est ▸ adv_set⟩
theorem some_x {F n : Nat} {st : Sto} {i k m : Nat} {ds : List D} (p : PotX st i k) (hk : k + m < 2 ^ 30) (hm : m ≤ ds.length) (h1 : ds.length < 2 ^ 20) (href : ∀ d ∈ ds, d.isRef = false) :
    ∃ out rest st', callN T C F (n + 2) 22 [.mref i, .lst ds, .int m] st = .ok (.lst out, st') ∧ out.length = m ∧ (out ++ rest).Perm ds ∧ PotX st' i (k + m) ∧ Adv i st st' := by
  obtain ⟨o, s, c, p⟩ := p
  obtain ⟨out, rest, o', c', e, hl, pm, p'⟩ := some_run (F := F) (n := n) p hk hm h1 href
  exact ⟨out, rest, _, e, hl, pm, ⟨o', s, c', p'⟩, adv_set⟩
theorem names_x {F n : Nat} {st : Sto} {i k : Nat} (p : PotX st i k) (hk : k + 16 < 2 ^ 30) :
    ∃ (ts : List Str) (st' : Sto), callN T C F (n + 3) 24 [.mref i, .int 16] st = .ok (.lst (ts.map .str), st') ∧ ts.Perm NAMES ∧ PotX st' i (k + 16) ∧ Adv i st st' := by
  obtain ⟨o, s, c, p⟩ := p
  obtain ⟨ts, o', c', e, pm, p'⟩ := lawNames_run (F := F) (n := n) p hk
  exact ⟨ts, _, e, pm, ⟨o', s, c', p'⟩, adv_set⟩
/-- a drawn row of a trade -/
structure TrG (g : Int) (r : Rw) : Prop where
  n0 : 0 ≤ r.2.1
  n1 : r.2.1 ≤ g
  g0 : -r.2.1 ≤ r.2.2
  g1 : r.2.2 ≤ g
def trBody : List CS := [.ite (.cmp .gt (.call 20 [(.var 0), (.lit (.int 6))]) (.lit (.int 0))) [.asg (.name 5) (.call 21 [(.var 0), (.lst [(.lit (.int 0)), (.lit (.int 1)), (.lit (.int 2)), (.call 20 [(.var 0), (.bin .add (.var 2) (.lit (.int 1)))])])]), .asg (.name 6) (.lst [(.neg (.var 5)), (.lit (.int 0)), (.lit (.int 1)), (.lit (.int 2)), (.call 20 [(.var 0), (.bin .add (.var 2) (.lit (.int 1)))]), (.bin .sub (.call 20 [(.var 0), (.bin .add (.var 5) (.lit (.int 1)))]) (.var 5))]), .setix (.var 3) (.var 4) (.tup [(.var 5), (.call 21 [(.var 0), (.var 6)])])] []]
theorem kvs_app (a b : List Rw) : kvs (a ++ b) = kvs a ++ kvs b := by simp [kvs]
theorem kvs_len (a : List Rw) : (kvs a).length = a.length := by simp [kvs]
theorem tr_step {F n i j k : Nat} {d1 : D} {g : Int} {x : Str} {a b : Option D} {st : Sto} {rs : List Rw} (hij : i ≠ j) (p : PotX st i k) (hk : k + 8 < 2 ^ 30) (hg3 : 3 ≤ g) (hg : g ≤ 9999) (hj : st[j]? = some (.dic (kvs rs))) (hx : ∀ r ∈ rs, r.1 ≠ x) (hl : rs.length < 1000) :
    ∃ st' rs' a' b', evSs (callN T C F (n + 2)) C F trBody [some (.mref i), some d1, some (.int g), some (.mref j), some (.str x), a, b] st = .ok (.next, [some (.mref i), some d1, some (.int g), some (.mref j), some (.str x), a', b'], st') ∧
      PotX st' i (k + 8) ∧ st'[j]? = some (.dic (kvs (rs ++ rs'))) ∧ (rs' = [] ∨ ∃ r, rs' = [r] ∧ r.1 = x ∧ TrG g r) ∧ st'.length = st.length ∧ ∀ m, m ≠ i → m ≠ j → st'[m]? = st[m]? := by
  obtain ⟨r1, st1, e1, a1, b1, p1, v1⟩ := take_x (F := F) (n := n + 1) (u := 6) p (by omega) (by omega) (by omega)
  by_cases h : 0 < r1
  · obtain ⟨r2, st2, e2, a2, b2, p2, v2⟩ := take_x (F := F) (n := n + 1) (u := g + 1) p1 (by omega) (by omega) (by omega)
    obtain ⟨d3, st3, e3, m3, p3, v3⟩ := of_x (F := F) (n := n) (ds := [.int 0, .int 1, .int 2, .int r2]) p2 (by omega) (by simp) (by simp) (by intro d hd; simp only [List.mem_cons, List.not_mem_nil, or_false] at hd; rcases hd with rfl | rfl | rfl | rfl <;> rfl)
    obtain ⟨nd, rfl, n0, n1⟩ : ∃ nd : Int, d3 = .int nd ∧ 0 ≤ nd ∧ nd ≤ g := by
      simp only [List.mem_cons, List.not_mem_nil, or_false] at m3
      rcases m3 with rfl | rfl | rfl | rfl <;> exact ⟨_, rfl, by omega, by omega⟩
    obtain ⟨r4, st4, e4, a4, b4, p4, v4⟩ := take_x (F := F) (n := n + 1) (u := g + 1) p3 (by omega) (by omega) (by omega)
    obtain ⟨r5, st5, e5, a5, b5, p5, v5⟩ := take_x (F := F) (n := n + 1) (u := nd + 1) p4 (by omega) (by omega) (by omega)
    obtain ⟨d6, st6, e6, m6, p6, v6⟩ := of_x (F := F) (n := n) (ds := [.int (-nd), .int 0, .int 1, .int 2, .int r4, .int (r5 - nd)]) p5 (by omega) (by simp) (by simp) (by intro d hd; simp only [List.mem_cons, List.not_mem_nil, or_false] at hd; rcases hd with rfl | rfl | rfl | rfl | rfl | rfl <;> rfl)
    obtain ⟨gn, rfl, g0, g1⟩ : ∃ gn : Int, d6 = .int gn ∧ -nd ≤ gn ∧ gn ≤ g := by
      simp only [List.mem_cons, List.not_mem_nil, or_false] at m6
      rcases m6 with rfl | rfl | rfl | rfl | rfl | rfl <;> exact ⟨_, rfl, by omega, by omega⟩
    have v := ((((v1.trans v2).trans v3).trans v4).trans v5).trans v6
    have hj6 : st6[j]? = some (.dic (kvs rs)) := (v.oth j (Ne.symm hij)).trans hj
    have hput : dput (kvs rs) (.inr x) (.tup [.int nd, .int gn]) = kvs (rs ++ [(x, nd, gn)]) := by
      rw [kvs_app, dput_new]
      · rfl
      · intro q hq
        obtain ⟨r, hr, rfl⟩ := List.mem_map.mp hq
        intro e
        exact hx r hr (Sum.inr.inj e)
    have hlim : ((kvs rs).length < LIM) = True := eq_true (by rw [kvs_len, LIM_val]; omega)
    have hgt : decide (0 < r1) = true := decide_eq_true h
    refine ⟨st6.set j (.dic (kvs (rs ++ [(x, nd, gn)]))), [(x, nd, gn)], some (.int nd), some (.lst [.int (-nd), .int 0, .int 1, .int 2, .int r4, .int (r5 - nd)]), ?_, ?_, List.getElem?_set_self (st_lt hj6), .inr ⟨_, rfl, rfl, n0, n1, g0, g1⟩, ?_, fun m h1 h2 => ?_⟩
    · simp (decide := true) only [runBody, List.map, List.length_cons, List.length_nil, List.replicate, List.cons_append, List.nil_append, evSs, x_lit, x_var, x_glob, x_bin, x_neg, x_not, x_cmp, x_chain, x_and, x_or, x_ite, x_tup, x_lst, x_lstM, x_idx, x_slc, x_rev, x_call, x_bi, x_copyM, x_append, x_extend, x_popAt, x_pop, x_frz, x_dnew, x_rng1, x_rng2, x_dget, y_asg, y_par, y_aug, y_ex, y_setix, y_ite, y_ret, y_retN, y_brk, y_cont, y_pass, y_never, y_frzV, evEs, evAnd, evOr, evT, evO, rb, List.getElem?_cons_zero, List.getElem?_cons_succ, sn_int, sn_str, sn_bl, sn_tup, sn_lst, sn_non, sn_dic, sn_ro, ix_l, ix_t, ix_r, ro_some, c_gt, c_ge, c_lt, c_le, decide_true, decide_false, ab, if_true, if_false, Bool.false_eq_true, Bool.not_true, Bool.not_false, bi_int, bi_intb, bi_abs, bi_lenl, bi_lent, bi_lenr, bi_tupl, b_add, b_sub, a_name, a_tup, as_nil, as_cons, setAll, List.set_cons_zero, List.set_cons_succ, ir_int, ir_str, ir_tup, ir_lst, ir_bl, ir_non, ir_dic, ir_ro, List.length_set, tn0, tn1, tn2, tn3, lim_ok, trBody, e1, hgt, e2, e3, e4, e5, e6, noRefs, Bool.and_self, hj6, key_str, hlim, hput]
    · exact (p6.up (by omega)).of_at (List.getElem?_set_ne (Ne.symm hij))
    · rw [List.length_set]; exact v.len
    · rw [List.getElem?_set_ne (Ne.symm h2)]; exact v.oth m h1
  · have hgt : decide (0 < r1) = false := decide_eq_false h
    refine ⟨st1, [], a, b, ?_, p1.up (by omega), ?_, .inl rfl, v1.len, fun m h1 _ => v1.oth m h1⟩
    · simp (decide := true) only [runBody, List.map, List.length_cons, List.length_nil, List.replicate, List.cons_append, List.nil_append, evSs, x_lit, x_var, x_glob, x_bin, x_neg, x_not, x_cmp, x_chain, x_and, x_or, x_ite, x_tup, x_lst, x_lstM, x_idx, x_slc, x_rev, x_call, x_bi, x_copyM, x_append, x_extend, x_popAt, x_pop, x_frz, x_dnew, x_rng1, x_rng2, x_dget, y_asg, y_par, y_aug, y_ex, y_setix, y_ite, y_ret, y_retN, y_brk, y_cont, y_pass, y_never, y_frzV, evEs, evAnd, evOr, evT, evO, rb, List.getElem?_cons_zero, List.getElem?_cons_succ, sn_int, sn_str, sn_bl, sn_tup, sn_lst, sn_non, sn_dic, sn_ro, ix_l, ix_t, ix_r, ro_some, c_gt, c_ge, c_lt, c_le, decide_true, decide_false, ab, if_true, if_false, Bool.false_eq_true, Bool.not_true, Bool.not_false, bi_int, bi_intb, bi_abs, bi_lenl, bi_lent, bi_lenr, bi_tupl, b_add, b_sub, a_name, a_tup, as_nil, as_cons, setAll, List.set_cons_zero, List.set_cons_succ, ir_int, ir_str, ir_tup, ir_lst, ir_bl, ir_non, ir_dic, ir_ro, List.length_set, tn0, tn1, tn2, tn3, lim_ok, trBody, e1, hgt]
    · rw [List.append_nil]; exact (v1.oth j (Ne.symm hij)).trans hj
theorem tr_loop {F n i j : Nat} {d1 : D} {g : Int} (hij : i ≠ j) (hg3 : 3 ≤ g) (hg : g ≤ 9999) : ∀ (ts : List Str) (st : Sto) (k : Nat) (rs : List Rw) (t a b : Option D), PotX st i k → k + 8 * ts.length < 2 ^ 30 → st[j]? = some (.dic (kvs rs)) → (∀ r ∈ rs, r.1 ∉ ts) → ts.Nodup → rs.length + ts.length < 1000 →
    ∃ st' rs' t' a' b', forGo (asgT (.name 4)) (fun e s => evSs (callN T C F (n + 2)) C F trBody e s) (ts.map .str) [some (.mref i), some d1, some (.int g), some (.mref j), t, a, b] st = .ok (.next, [some (.mref i), some d1, some (.int g), some (.mref j), t', a', b'], st') ∧
      PotX st' i (k + 8 * ts.length) ∧ st'[j]? = some (.dic (kvs (rs ++ rs'))) ∧ (rs'.map (·.1)).Sublist ts ∧ (∀ r ∈ rs', TrG g r) ∧ st'.length = st.length ∧ ∀ m, m ≠ i → m ≠ j → st'[m]? = st[m]?
  | [], st, k, rs, t, a, b, p, hk, hj, hd, nd, hl => ⟨st, [], t, a, b, rfl, p.up (by omega), by rw [List.append_nil]; exact hj, List.Sublist.refl _, fun _ h => (nomatch h), rfl, fun _ _ _ => rfl⟩
  | x :: ts, st, k, rs, t, a, b, p, hk, hj, hd, nd, hl => by
    simp only [List.length_cons] at hk hl
    have nd' := List.nodup_cons.mp nd
    obtain ⟨st1, rs1, a1, b1, e1, p1, hj1, h1, l1, o1⟩ := tr_step (F := F) (n := n) (d1 := d1) (x := x) (a := a) (b := b) hij p (by omega) hg3 hg hj (fun r hr e => hd r hr (e ▸ List.mem_cons_self ..)) (by omega)
    have hlen1 : rs1.length ≤ 1 := by rcases h1 with rfl | ⟨r, rfl, _⟩ <;> simp
    obtain ⟨st', rs', t', a', b', e2, p2, hj2, sub, hr, l2, o2⟩ := tr_loop (F := F) (n := n) (d1 := d1) hij hg3 hg ts st1 (k + 8) (rs ++ rs1) (some (.str x)) a1 b1 p1 (by omega) hj1 (by
      intro r hr
      rcases List.mem_append.mp hr with hr | hr
      · exact fun q => hd r hr (List.mem_cons_of_mem _ q)
      · rcases h1 with rfl | ⟨q, rfl, rfl, _⟩
        · cases hr
        · rw [List.mem_singleton.mp hr]; exact nd'.1) nd'.2 (by rw [List.length_append]; omega)
    refine ⟨st', rs1 ++ rs', t', a', b', ?_, p2.up (by simp only [List.length_cons]; omega), by rw [hj2, List.append_assoc], ?_, ?_, l2.trans l1, fun m m1 m2 => (o2 m m1 m2).trans (o1 m m1 m2)⟩
    · rw [List.map_cons]
      exact (fg_next (env1 := [some (.mref i), some d1, some (.int g), some (.mref j), some (.str x), a, b]) rfl e1).trans e2
    · rcases h1 with rfl | ⟨q, rfl, rfl, _⟩
      · exact sub.cons x
      · exact sub.cons₂ _
    · intro r hr'
      rcases List.mem_append.mp hr' with hr' | hr'
      · rcases h1 with rfl | ⟨q, rfl, rfl, hq⟩
        · cases hr'
        · rw [List.mem_singleton.mp hr']; exact hq
      · exact hr r hr'
theorem lawTrade_x {F n : Nat} {st : Sto} {i k : Nat} {ts : List Str} {g : Int} (p : PotX st i k) (hk : k + 8 * ts.length < 2 ^ 30) (nd : ts.Nodup) (hl : ts.length < 1000) (hg3 : 3 ≤ g) (hg : g ≤ 9999) :
    ∃ (rs : List Rw) (st' : Sto), callN T C F (n + 3) 25 [.mref i, .lst (ts.map .str), .int g] st = .ok (.dic (kvs rs), st') ∧ (rs.map (·.1)).Sublist ts ∧ (∀ r ∈ rs, TrG g r) ∧ PotX st' i (k + 8 * ts.length) ∧ Adv i st st' := by
  rw [call_eq (fn := f25) rfl, run0 rfl rfl]
  have hi := p.lt
  obtain ⟨st', rs, t', a', b', e, p', hj, sub, hr, l, o⟩ := tr_loop (F := F) (n := n) (d1 := .lst (ts.map .str)) (i := i) (j := st.length) (by omega) hg3 hg ts (st ++ [.dic []]) k [] none none none (p.of_at (List.getElem?_append_left hi)) hk (by simp [kvs]) (fun r h => nomatch h) nd (by simpa using hl)
  rw [List.nil_append] at hj
  have hi' : evI (callN T C F (n + 2)) C (.seq (.var 1)) [some (.mref i), some (.lst (ts.map .str)), some (.int g), some (.mref st.length), none, none, none] (st ++ [.dic []]) = .ok (ts.map .str, st ++ [.dic []]) := by
    simp only [evI, x_var, List.getElem?_cons_zero, List.getElem?_cons_succ, rb, seqItems]
  have e1 : evS (callN T C F (n + 2)) C F (.asg (.name 3) .dnew) [some (.mref i), some (.lst (ts.map .str)), some (.int g), none, none, none, none] st = .ok (.next, [some (.mref i), some (.lst (ts.map .str)), some (.int g), some (.mref st.length), none, none, none], st ++ [.dic []]) := by
    simp (decide := true) only [runBody, List.map, List.length_cons, List.length_nil, List.replicate, List.cons_append, List.nil_append, evSs, x_lit, x_var, x_glob, x_bin, x_neg, x_not, x_cmp, x_chain, x_and, x_or, x_ite, x_tup, x_lst, x_lstM, x_idx, x_slc, x_rev, x_call, x_bi, x_copyM, x_append, x_extend, x_popAt, x_pop, x_frz, x_dnew, x_rng1, x_rng2, x_dget, y_asg, y_par, y_aug, y_ex, y_setix, y_ite, y_ret, y_retN, y_brk, y_cont, y_pass, y_never, y_frzV, evEs, evAnd, evOr, evT, evO, rb, List.getElem?_cons_zero, List.getElem?_cons_succ, sn_int, sn_str, sn_bl, sn_tup, sn_lst, sn_non, sn_dic, sn_ro, ix_l, ix_t, ix_r, ro_some, c_gt, c_ge, c_lt, c_le, decide_true, decide_false, ab, if_true, if_false, Bool.false_eq_true, Bool.not_true, Bool.not_false, bi_int, bi_intb, bi_abs, bi_lenl, bi_lent, bi_lenr, bi_tupl, b_add, b_sub, a_name, a_tup, as_nil, as_cons, setAll, List.set_cons_zero, List.set_cons_succ, ir_int, ir_str, ir_tup, ir_lst, ir_bl, ir_non, ir_dic, ir_ro, List.length_set, tn0, tn1, tn2, tn3, lim_ok]
  have ee : evSs (callN T C F (n + 2)) C F f25.body [some (.mref i), some (.lst (ts.map .str)), some (.int g), none, none, none, none] st = .ok (.ret (.mref st.length), [some (.mref i), some (.lst (ts.map .str)), some (.int g), some (.mref st.length), t', a', b'], st') := by
    show evSs _ _ _ [.asg (.name 3) .dnew, .for_ (.name 4) (.seq (.var 1)) trBody, .ret (.var 3)] _ _ = _
    rw [ss_next e1, ss_next ((s_for hi').trans e)]
    simp (decide := true) only [runBody, List.map, List.length_cons, List.length_nil, List.replicate, List.cons_append, List.nil_append, evSs, x_lit, x_var, x_glob, x_bin, x_neg, x_not, x_cmp, x_chain, x_and, x_or, x_ite, x_tup, x_lst, x_lstM, x_idx, x_slc, x_rev, x_call, x_bi, x_copyM, x_append, x_extend, x_popAt, x_pop, x_frz, x_dnew, x_rng1, x_rng2, x_dget, y_asg, y_par, y_aug, y_ex, y_setix, y_ite, y_ret, y_retN, y_brk, y_cont, y_pass, y_never, y_frzV, evEs, evAnd, evOr, evT, evO, rb, List.getElem?_cons_zero, List.getElem?_cons_succ, sn_int, sn_str, sn_bl, sn_tup, sn_lst, sn_non, sn_dic, sn_ro, ix_l, ix_t, ix_r, ro_some, c_gt, c_ge, c_lt, c_le, decide_true, decide_false, ab, if_true, if_false, Bool.false_eq_true, Bool.not_true, Bool.not_false, bi_int, bi_intb, bi_abs, bi_lenl, bi_lent, bi_lenr, bi_tupl, b_add, b_sub, a_name, a_tup, as_nil, as_cons, setAll, List.set_cons_zero, List.set_cons_succ, ir_int, ir_str, ir_tup, ir_lst, ir_bl, ir_non, ir_dic, ir_ro, List.length_set, tn0, tn1, tn2, tn3, lim_ok]
  refine ⟨rs, st'.take st.length, ?_, sub, hr, ?_, ?_⟩
  · rw [body_ret (fn := f25) (ds := [.mref i, .lst (ts.map .str), .int g]) ee]
    show En.finish false st.length (.mref st.length) st' = _
    simp only [En.finish, hj]
    rw [if_neg (by omega)]
    rfl
  · refine p'.of_at ?_
    rw [List.getElem?_take, if_pos hi]
  · refine ⟨by rw [List.length_take, l]; simp, fun m hm => ?_⟩
    rw [List.getElem?_take]
    split
    · rename_i hml
      rw [o m hm (by omega), List.getElem?_append_left hml]
    · rename_i hml
      rw [List.getElem?_eq_none (by omega)]
end K10

set_option Elab.async false
set_option linter.all false
set_option maxRecDepth 100000
set_option maxHeartbeats 400000
namespace K10
open PySem En
def okAt : List (Int × Int) → Int → Prop
  | [], _ => True
  | p :: r, v => p.1 ≤ v ∧ okAt r (v + p.2)
theorem mx_le {f g v : Int} : mx f g ≤ v ↔ f ≤ v ∧ g ≤ v := by unfold mx; split <;> omega
theorem least_le : ∀ (ps : List (Int × Int)) (f c v : Int), leastGo ps f c ≤ v ↔ f ≤ v ∧ okAt ps (v + c)
  | [], f, c, v => by simp [leastGo, okAt]
  | p :: r, f, c, v => by
    have ih := least_le r (mx f (p.1 - c)) (c + p.2) v
    rw [show leastGo (p :: r) f c = leastGo r (mx f (p.1 - c)) (c + p.2) from rfl, ih, mx_le]
    simp only [okAt]
    rw [show v + (c + p.2) = v + c + p.2 by omega]
    constructor
    · rintro ⟨⟨h1, h2⟩, h3⟩; exact ⟨h1, by omega, h3⟩
    · rintro ⟨h1, h2, h3⟩; exact ⟨⟨h1, by omega⟩, h3⟩
theorem lev_pos (ps : List (Int × Int)) (v : Int) : 0 < (levGo ps v).length := by
  cases ps with
  | nil => simp [levGo]
  | cons p r => simp only [levGo]; split <;> simp
theorem lev_len : ∀ (ps : List (Int × Int)) (v : Int), (levGo ps v).length = ps.length + 1 ↔ okAt ps v
  | [], v => by simp [levGo, okAt]
  | p :: r, v => by
    have ih := lev_len r (v + p.2)
    by_cases h : v < p.1
    · rw [show levGo (p :: r) v = [v] from if_pos h]
      simp only [okAt, List.length_cons, List.length_nil]
      constructor
      · intro e; omega
      · intro e; omega
    · rw [show levGo (p :: r) v = v :: levGo r (v + p.2) from if_neg h]
      simp only [okAt, List.length_cons]
      constructor
      · intro e; exact ⟨by omega, ih.mp (by omega)⟩
      · intro e; have := ih.mpr e.2; omega
theorem lev_le : ∀ (ps : List (Int × Int)) (v : Int), (levGo ps v).length ≤ ps.length + 1
  | [], v => by simp [levGo]
  | p :: r, v => by
    have ih := lev_le r (v + p.2)
    simp only [levGo]
    split
    · simp
    · simp only [List.length_cons]; omega
def bk (p : Int × Int) : Int × Int := (p.1 + p.2, -p.2)
def net (ps : List (Int × Int)) : Int := (ps.map (·.2)).sum
theorem net_cons (p : Int × Int) (r : List (Int × Int)) : net (p :: r) = p.2 + net r := by simp [net]
theorem net_app (a b : List (Int × Int)) : net (a ++ b) = net a + net b := by simp [net]
theorem ok_app : ∀ (a b : List (Int × Int)) (v : Int), okAt (a ++ b) v ↔ okAt a v ∧ okAt b (v + net a)
  | [], b, v => by simp [okAt, net]
  | p :: r, b, v => by
    have ih := ok_app r b (v + p.2)
    simp only [List.cons_append, okAt, ih, net_cons]
    rw [show v + p.2 + net r = v + (p.2 + net r) by omega, and_assoc]
theorem ok_back : ∀ (ps : List (Int × Int)) (v : Int), okAt (ps.reverse.map bk) (v + net ps) ↔ okAt ps v
  | [], v => by simp [okAt]
  | p :: r, v => by
    have ih := ok_back r (v + p.2)
    have hn : ∀ l : List (Int × Int), net (l.reverse.map bk) = -net l := by
      intro l
      induction l with
      | nil => rfl
      | cons q l ih => rw [List.reverse_cons, List.map_append, net_app, ih, net_cons]; simp [net, bk]; omega
    rw [List.reverse_cons, List.map_append, ok_app, hn, net_cons]
    rw [show v + (p.2 + net r) = v + p.2 + net r by omega, ih]
    simp only [List.map_cons, List.map_nil, okAt, bk, and_true]
    rw [show v + p.2 + net r + -net r = v + p.2 by omega]
    constructor
    · rintro ⟨h1, h2⟩; exact ⟨by omega, h1⟩
    · rintro ⟨h1, h2⟩; exact ⟨h2, by omega⟩
theorem net_back (ps : List (Int × Int)) : net (ps.map bk) = -net ps := by
  induction ps with
  | nil => rfl
  | cons p r ih => rw [List.map_cons, net_cons, net_cons, ih]; simp [bk]; omega
structure StG (p : Int × Int) : Prop where
  n0 : 0 ≤ p.1
  n1 : p.1 ≤ 9999
  g0 : -9999 ≤ p.2
  g1 : p.2 ≤ 9999
  s0 : 0 ≤ p.1 + p.2
theorem ok_nonneg {ps : List (Int × Int)} (h : ∀ p ∈ ps, StG p) {v : Int} (ho : okAt ps v) (hne : ps ≠ []) : 0 ≤ v ∧ 0 ≤ v + net ps := by
  refine ⟨?_, ?_⟩
  · cases ps with
    | nil => exact absurd rfl hne
    | cons p r => have := (h p (List.mem_cons_self ..)).n0; have := ho.1; omega
  · have hb := (ok_back ps v).mpr ho
    have hr : ps.reverse ≠ [] := by simpa using hne
    cases hq : ps.reverse with
    | nil => exact absurd hq hr
    | cons q r =>
      rw [hq] at hb
      have hm : q ∈ ps := by rw [← List.mem_reverse, hq]; exact List.mem_cons_self ..
      have := (h q hm).s0
      have := hb.1
      simp only [bk] at this
      omega
theorem least_back {ps : List (Int × Int)} (h : ∀ p ∈ ps, StG p) : leastGo (ps.reverse.map bk) 0 0 = leastGo ps 0 0 + net ps := by
  have key : ∀ w, leastGo (ps.reverse.map bk) 0 0 ≤ w ↔ leastGo ps 0 0 + net ps ≤ w := by
    intro w
    rw [least_le, Int.add_zero]
    have e : leastGo ps 0 0 + net ps ≤ w ↔ leastGo ps 0 0 ≤ w - net ps := by omega
    rw [e, least_le, Int.add_zero]
    have hb := ok_back ps (w - net ps)
    rw [show w - net ps + net ps = w by omega] at hb
    rw [hb]
    by_cases hne : ps = []
    · subst hne; simp [net]
    · constructor
      · rintro ⟨_, h2⟩; exact ⟨(ok_nonneg h h2 hne).1, h2⟩
      · rintro ⟨_, h2⟩; have := (ok_nonneg h h2 hne).2; exact ⟨by omega, h2⟩
  have h1 := (key (leastGo ps 0 0 + net ps)).mpr (Int.le_refl _)
  have h2 := (key (leastGo (ps.reverse.map bk) 0 0)).mp (Int.le_refl _)
  omega
theorem ok_big : ∀ {ps : List (Int × Int)} {v : Int}, (∀ p ∈ ps, StG p) → 9999 * (ps.length : Int) ≤ v → okAt ps v
  | [], _, _, _ => trivial
  | p :: r, v, h, hv => by
    have hp := h p (List.mem_cons_self ..)
    have := hp.n1
    have := hp.g0
    simp only [List.length_cons] at hv
    exact ⟨by omega, ok_big (fun q hq => h q (List.mem_cons_of_mem _ hq)) (by omega)⟩
theorem least_bounds {ps : List (Int × Int)} (h : ∀ p ∈ ps, StG p) : 0 ≤ leastGo ps 0 0 ∧ leastGo ps 0 0 ≤ 9999 * (ps.length : Int) := by
  refine ⟨((least_le ps 0 0 _).mp (Int.le_refl _)).1, (least_le ps 0 0 _).mpr ⟨by omega, ?_⟩⟩
  rw [Int.add_zero]
  exact ok_big h (Int.le_refl _)
theorem net_bounds : ∀ {ps : List (Int × Int)}, (∀ p ∈ ps, StG p) → -(9999 * (ps.length : Int)) ≤ net ps ∧ net ps ≤ 9999 * (ps.length : Int)
  | [], _ => by simp [net]
  | p :: r, h => by
    have ih := net_bounds (ps := r) fun q hq => h q (List.mem_cons_of_mem _ hq)
    have hp := h p (List.mem_cons_self ..)
    have := hp.g0
    have := hp.g1
    rw [net_cons]
    simp only [List.length_cons]
    omega
theorem lev_bounds : ∀ {ps : List (Int × Int)} {v : Int}, (∀ p ∈ ps, StG p) → ∀ x ∈ levGo ps v, v - 9999 * (ps.length : Int) ≤ x ∧ x ≤ v + 9999 * (ps.length : Int)
  | [], v, _, x, hx => by simp only [levGo, List.mem_singleton] at hx; subst hx; simp
  | p :: r, v, h, x, hx => by
    have hp := h p (List.mem_cons_self ..)
    have := hp.g0
    have := hp.g1
    simp only [List.length_cons]
    by_cases hv : v < p.1
    · rw [show levGo (p :: r) v = [v] from if_pos hv, List.mem_singleton] at hx
      omega
    · rw [show levGo (p :: r) v = v :: levGo r (v + p.2) from if_neg hv] at hx
      rcases List.mem_cons.mp hx with e | hx
      · omega
      · have := lev_bounds (fun q hq => h q (List.mem_cons_of_mem _ hq)) x hx
        omega
theorem strs_perm {out rest : List D} {ns : List Str} (h : (out ++ rest).Perm (ns.map D.str)) : ∃ ts us : List Str, out = ts.map D.str ∧ rest = us.map D.str ∧ (ts ++ us).Perm ns := by
  have hall : ∀ d ∈ out ++ rest, ∃ t, d = D.str t := fun d hd => by
    obtain ⟨t, _, rfl⟩ := List.mem_map.mp (h.mem_iff.mp hd)
    exact ⟨t, rfl⟩
  have key : ∀ l : List D, (∀ d ∈ l, ∃ t, d = D.str t) → l = (l.map fun d => match d with | .str t => t | _ => ("" : Str)).map D.str := by
    intro l hl
    rw [List.map_map]
    conv => lhs; rw [← List.map_id l]
    apply List.map_congr_left
    intro d hd
    obtain ⟨t, rfl⟩ := hl d hd
    rfl
  refine ⟨_, _, key out fun d hd => hall d (List.mem_append_left _ hd), key rest fun d hd => hall d (List.mem_append_right _ hd), ?_⟩
  have := h.map fun d : D => match d with | .str t => t | _ => ("" : Str)
  rw [List.map_map, List.map_append] at this
  exact this.trans (List.Perm.of_eq (List.map_id _))
end K10

set_option Elab.async false
set_option linter.all false
set_option maxRecDepth 100000
set_option maxHeartbeats 400000
namespace K10
open PySem En
theorem rp_name {x : Str} (h : x ∈ NAMES) : Rp 0 20 (.str x) := by
  have hall : ∀ x ∈ NAMES, PyData.strOk x = true ∧ (reprText x).length ≤ 20 ∧ PyData.strOk (reprText x) = true := by decide +kernel
  obtain ⟨h1, h2, h3⟩ := hall x h
  exact rp_str h1 h2 h3
theorem rp_row {r : Rw} (h : RowG r) : Rp 1 100 (rowD r) := by
  refine (rp_tup (k := 0) (m := 20) (n := 3) (fun d hd => ?_) (by simp)).up (by omega) (by omega)
  simp only [List.mem_cons, List.not_mem_nil, or_false] at hd
  rcases hd with rfl | rfl | rfl
  · exact rp_name h.nm
  · exact (rp_int (k := 6) (by omega) (by have := h.n0; have := h.n1; omega) (by omega)).up (by omega) (by omega)
  · exact (rp_int (k := 6) (by omega) (by have := h.g0; have := h.g1; omega) (by omega)).up (by omega) (by omega)
theorem rp_rows {rs : List Rw} (h : ∀ r ∈ rs, RowG r) (hl : rs.length ≤ 16) : Rp 2 2000 (.tup (rs.map rowD)) := by
  refine (rp_tup (k := 1) (m := 100) (n := 16) (fun d hd => ?_) (by simpa using hl)).up (by omega) (by omega)
  obtain ⟨r, hr, rfl⟩ := List.mem_map.mp hd
  exact rp_row (h r hr)
theorem rp_ints {xs : List Int} (h : ∀ x ∈ xs, -1000000 < x ∧ x < 1000000) (hl : xs.length ≤ 20) : Rp 1 300 (.tup (xs.map .int)) := by
  refine (rp_tup (k := 0) (m := 7) (n := 20) (fun d hd => ?_) (by simpa using hl)).up (by omega) (by omega)
  obtain ⟨x, hx, rfl⟩ := List.mem_map.mp hd
  have := h x hx
  exact (rp_int (k := 6) (by omega) (by omega) (by omega)).up (by omega) (by omega)
theorem back_ok {r : Rw} (h : RowG r) : RowG (backR r) :=
  ⟨h.nm, h.s0, h.s1, by have := h.g1; simp only [backR]; omega, by have := h.g0; simp only [backR]; omega, by have := h.n0; simp only [backR]; omega, by have := h.n1; simp only [backR]; omega⟩
theorem back_back (r : Rw) : backR (backR r) = r := by
  obtain ⟨x, a, b⟩ := r
  simp only [backR]
  rw [show a + b + -b = a by omega, Int.neg_neg]
theorem st_of {rs : List Rw} (h : ∀ r ∈ rs, RowG r) (t : Str) : StG (lookR rs t) := by
  by_cases ht : t ∈ rs.map (·.1)
  · have := h _ (look_mem ht)
    exact ⟨this.n0, this.n1, this.g0, this.g1, this.s0⟩
  · rw [look_none ht]; exact ⟨by omega, by omega, by omega, by omega, by omega⟩
def rBody : List CS := [.ite (.cmp .gt (.var 5) (.lit (.int 99999))) [.cont] [], .asg (.name 8) (.call 15 [(.var 3), (.var 5), (.var 4)]), .ite (.or [(.cmp .ne (.bi .repr [(.var 8)]) (.bi .repr [(.call 27 [(.var 2), (.var 5), (.var 4)])])), (.cmp .ne (.cmp .eq (.bi .len [(.var 8)]) (.bin .add (.bi .len [(.var 4)]) (.lit (.int 1)))) (.cmp .ge (.var 5) (.var 6)))]) [.ret (.lit (.bl false))] []]
theorem c_eqi (i j : Int) : cop .eq (.int i) (.int j) = .ok (decide (i = j)) := by
  have h1 : SeqAt.shaped (D.int i).py = true := (flat_int i).shaped (by omega)
  have h2 : SeqAt.shaped (D.int j).py = true := (flat_int j).shaped (by omega)
  simp only [cop, h1, h2, Bool.and_self, if_true]
  congr 1
theorem c_neb (i j : Bool) : cop .ne (.bl i) (.bl j) = .ok (decide (i ≠ j)) := by cases i <;> cases j <;> rfl
section
variable {F n : Nat} {rs : List Rw} {ts : List Str}
theorem r_step {st : Sto} {d0 d1 : D} {v : Int} {g : D} {a b : Option D} (hg : ∀ r ∈ rs, RowG r) (nd : (rs.map (·.1)).Nodup) (hl : rs.length ≤ 16) (hn : ∀ t ∈ ts, t ∈ NAMES) (nt : ts.Nodup) (ht : ts.length ≤ 10) (v0 : 0 ≤ v) :
    ∃ fl a', (fl = .next ∨ fl = .cont) ∧ evSs (callN T C F (n + 4)) C F rBody [some d0, some d1, some (.dic (kvs rs)), some (.tup ((told rs).map rowD)), some (.tup (ts.map .str)), some (.int v), some (.int (leastGo (ts.map (lookR rs)) 0 0)), some g, a, b] st =
      .ok (fl, [some d0, some d1, some (.dic (kvs rs)), some (.tup ((told rs).map rowD)), some (.tup (ts.map .str)), some (.int v), some (.int (leastGo (ts.map (lookR rs)) 0 0)), some g, a', b], st) := by
  by_cases hv : 99999 < v
  · refine ⟨.cont, a, .inr rfl, ?_⟩
    simp (decide := true) only [runBody, List.map, List.length_cons, List.length_nil, List.replicate, List.cons_append, List.nil_append, evSs, x_lit, x_var, x_glob, x_bin, x_neg, x_not, x_cmp, x_chain, x_and, x_or, x_ite, x_tup, x_lst, x_lstM, x_idx, x_slc, x_rev, x_call, x_bi, x_copyM, x_append, x_extend, x_popAt, x_pop, x_frz, x_dnew, x_rng1, x_rng2, x_dget, y_asg, y_par, y_aug, y_ex, y_setix, y_ite, y_ret, y_retN, y_brk, y_cont, y_pass, y_never, y_frzV, evEs, evAnd, evOr, evT, evO, rb, List.getElem?_cons_zero, List.getElem?_cons_succ, sn_int, sn_str, sn_bl, sn_tup, sn_lst, sn_non, sn_dic, sn_ro, ix_l, ix_t, ix_r, ro_some, c_gt, c_ge, c_lt, c_le, decide_true, decide_false, ab, if_true, if_false, Bool.false_eq_true, Bool.not_true, Bool.not_false, bi_int, bi_intb, bi_abs, bi_lenl, bi_lent, bi_lenr, bi_tupl, b_add, b_sub, a_name, a_tup, as_nil, as_cons, setAll, List.set_cons_zero, List.set_cons_succ, ir_int, ir_str, ir_tup, ir_lst, ir_bl, ir_non, ir_dic, ir_ro, List.length_set, tn0, tn1, tn2, tn3, lim_ok, rBody, hv]
  · have hps : ∀ p ∈ ts.map (lookR rs), StG p := fun p hp => by obtain ⟨t, _, rfl⟩ := List.mem_map.mp hp; exact st_of hg t
    have hrp : Rp 1 300 (.tup ((levGo (ts.map (lookR rs)) v).map .int)) := by
      refine rp_ints (fun x hx => ?_) ?_
      · have := lev_bounds hps x hx
        simp only [List.length_map] at this
        omega
      · have := lev_le (ts.map (lookR rs)) v
        simp only [List.length_map] at this
        omega
    have hlk : ts.map (lookR (told rs)) = ts.map (lookR rs) := List.map_congr_left fun t _ => told_look nd t
    have c15 := levelsT_run (F := F) (n := n) (st := st) (rs := told rs) (ts := ts) (v := v) (told_rows hg) (told_asc nd) (by rw [told_len]; exact hl) (told_nodup nd) hn nt (by omega) v0 (by omega)
    rw [hlk] at c15
    have c27 := lawLev_run (F := F) (n := n + 3) (st := st) (rs := rs) (ts := ts) (v := v) (by omega)
    have hrep := repr_rp hrp (by omega) (by omega) trivial
    have hne := ne_shown hrp
    have hlen : decide (((List.map D.int (levGo (ts.map (lookR rs)) v)).length : Int) = ((List.map D.str ts).length : Int) + 1) = decide (leastGo (ts.map (lookR rs)) 0 0 ≤ v) := by
      have h1 := lev_len (ts.map (lookR rs)) v
      have h2 := least_le (ts.map (lookR rs)) 0 0 v
      rw [Int.add_zero] at h2
      rw [decide_eq_decide, List.length_map, List.length_map]
      rw [List.length_map] at h1
      constructor
      · intro e; exact h2.mpr ⟨v0, h1.mp (by omega)⟩
      · intro e; have := h1.mpr (h2.mp e).2; omega
    generalize hq : levGo (ts.map (lookR rs)) v = q at *
    generalize hw : leastGo (ts.map (lookR rs)) 0 0 = w at *
    have hnn : ∀ b : Bool, decide (b ≠ b) = false := fun b => by simp
    refine ⟨.next, some (.tup (q.map .int)), .inl rfl, ?_⟩
    simp (decide := true) only [runBody, List.map, List.length_cons, List.length_nil, List.replicate, List.cons_append, List.nil_append, evSs, x_lit, x_var, x_glob, x_bin, x_neg, x_not, x_cmp, x_chain, x_and, x_or, x_ite, x_tup, x_lst, x_lstM, x_idx, x_slc, x_rev, x_call, x_bi, x_copyM, x_append, x_extend, x_popAt, x_pop, x_frz, x_dnew, x_rng1, x_rng2, x_dget, y_asg, y_par, y_aug, y_ex, y_setix, y_ite, y_ret, y_retN, y_brk, y_cont, y_pass, y_never, y_frzV, evEs, evAnd, evOr, evT, evO, rb, List.getElem?_cons_zero, List.getElem?_cons_succ, sn_int, sn_str, sn_bl, sn_tup, sn_lst, sn_non, sn_dic, sn_ro, ix_l, ix_t, ix_r, ro_some, c_gt, c_ge, c_lt, c_le, decide_true, decide_false, ab, if_true, if_false, Bool.false_eq_true, Bool.not_true, Bool.not_false, bi_int, bi_intb, bi_abs, bi_lenl, bi_lent, bi_lenr, bi_tupl, b_add, b_sub, a_name, a_tup, as_nil, as_cons, setAll, List.set_cons_zero, List.set_cons_succ, ir_int, ir_str, ir_tup, ir_lst, ir_bl, ir_non, ir_dic, ir_ro, List.length_set, tn0, tn1, tn2, tn3, lim_ok, rBody, hv, c15, c27, hrep, hne, c_eqi, c_neb, hlen, hnn]
theorem r_loop {st : Sto} {d0 d1 : D} {g : D} {b : Option D} (hg : ∀ r ∈ rs, RowG r) (nd : (rs.map (·.1)).Nodup) (hl : rs.length ≤ 16) (hn : ∀ t ∈ ts, t ∈ NAMES) (nt : ts.Nodup) (ht : ts.length ≤ 10) : ∀ (vs : List Int) (x a : Option D), (∀ v ∈ vs, 0 ≤ v) →
    ∃ x' a', forGo (asgT (.name 5)) (fun e s => evSs (callN T C F (n + 4)) C F rBody e s) (vs.map .int) [some d0, some d1, some (.dic (kvs rs)), some (.tup ((told rs).map rowD)), some (.tup (ts.map .str)), x, some (.int (leastGo (ts.map (lookR rs)) 0 0)), some g, a, b] st =
      .ok (.next, [some d0, some d1, some (.dic (kvs rs)), some (.tup ((told rs).map rowD)), some (.tup (ts.map .str)), x', some (.int (leastGo (ts.map (lookR rs)) 0 0)), some g, a', b], st)
  | [], x, a, _ => ⟨x, a, rfl⟩
  | v :: vs, x, a, h => by
    obtain ⟨fl, a1, hfl, e⟩ := r_step (F := F) (n := n) (st := st) (d0 := d0) (d1 := d1) (g := g) (a := a) (b := b) hg nd hl hn nt ht (h v (List.mem_cons_self ..))
    obtain ⟨x', a', ih⟩ := r_loop (st := st) (d0 := d0) (d1 := d1) (g := g) (b := b) hg nd hl hn nt ht vs (some (.int v)) a1 fun u hu => h u (List.mem_cons_of_mem _ hu)
    refine ⟨x', a', ?_⟩
    rw [List.map_cons]
    rcases hfl with rfl | rfl
    · exact (fg_next (env1 := [some d0, some d1, some (.dic (kvs rs)), some (.tup ((told rs).map rowD)), some (.tup (ts.map .str)), some (.int v), some (.int (leastGo (ts.map (lookR rs)) 0 0)), some g, a, b]) rfl e).trans ih
    · refine Eq.trans ?_ ih
      simp only [forGo, asgT, ro_some, rb, List.set_cons_zero, List.set_cons_succ, e]
end
end K10

set_option Elab.async false
set_option linter.all false
set_option maxRecDepth 100000
set_option maxHeartbeats 400000
namespace K10
open PySem En
theorem names_nodup : NAMES.Nodup := by decide +kernel
def rTail : List CS := f30.body.drop 5
theorem right_b {F n : Nat} {st5 st6 : Sto} {i : Nat} {ns ts : List Str} {rs : List Rw} {r6 : Int} (nd : (rs.map (·.1)).Nodup) (hl : rs.length ≤ 16) (hg : ∀ r ∈ rs, RowG r) (htl : ts.length ≤ 10) (htn : ∀ t ∈ ts, t ∈ NAMES) (htd : ts.Nodup) (e6 : callN T C F (n + 4) 20 [.mref i, .int 30] st5 = .ok (.int r6, st6)) (a6 : 0 ≤ r6) :
    ∃ env', evSs (callN T C F (n + 4)) C F rTail [some (.mref i), some (.lst (ns.map .str)), some (.dic (kvs rs)), some (.tup ((told rs).map rowD)), some (.tup (ts.map .str)), none, none, none, none, none] st5 = .ok (.ret (.bl true), env', st6) := by
  have hps : ∀ p ∈ ts.map (lookR rs), StG p := fun p hp => by obtain ⟨t, _, rfl⟩ := List.mem_map.mp hp; exact st_of hg t
  have hlk : ts.map (lookR (told rs)) = ts.map (lookR rs) := List.map_congr_left fun t _ => told_look nd t
  generalize hΓ : callN T C F (n + 4) = Γ at *
  generalize hdue : leastGo (ts.map (lookR rs)) 0 0 = due
  generalize hgone : net (ts.map (lookR rs)) = gone
  have hdb := least_bounds hps
  have hnb := net_bounds hps
  rw [hdue, List.length_map] at hdb
  rw [hgone, List.length_map] at hnb
  have c28 := lawLeast_run (F := F) (n := n + 3) (st := st5) (rs := rs) (ts := ts)
  rw [hΓ, hdue] at c28
  have s6 : evS Γ C F (.par [6, 7] [(.call 28 [(.var 2), (.var 4)]), (.bi .sum [(.comp (.name 9) (.seq (.var 4)) none (.idx (.dget (.var 2) (.var 9) (some (.tup [(.lit (.int 0)), (.lit (.int 0))]))) (.lit (.int 1))) [9])])]) [some (.mref i), some (.lst (ns.map .str)), some (.dic (kvs rs)), some (.tup ((told rs).map rowD)), some (.tup (ts.map .str)), none, none, none, none, none] st5 = .ok (.next, [some (.mref i), some (.lst (ns.map .str)), some (.dic (kvs rs)), some (.tup ((told rs).map rowD)), some (.tup (ts.map .str)), none, some (.int due), some (.int gone), none, none], st5) := by
    have hi : evI Γ C (.seq (.var 4)) [some (.mref i), some (.lst (ns.map .str)), some (.dic (kvs rs)), some (.tup ((told rs).map rowD)), some (.tup (ts.map .str)), none, none, none, none, none] st5 = .ok (ts.map .str, st5) := by
      simp only [evI, x_var, List.getElem?_cons_zero, List.getElem?_cons_succ, rb, seqItems]
    have at2_1 : ∀ a b : D, atD [a, b] 1 = some b := fun _ _ => rfl
    have hc := ev_comp (Γ := Γ) (C := C) (e := .idx (.dget (.var 2) (.var 9) (some (.tup [(.lit (.int 0)), (.lit (.int 0))]))) (.lit (.int 1))) (t := .name 9) (own := [9]) (f := fun d => match d with | .str t => .int (lookR rs t).2 | _ => .non) hi fun x hx => by
      obtain ⟨t, ht, rfl⟩ := List.mem_map.mp hx
      refine ⟨[some (.mref i), some (.lst (ns.map .str)), some (.dic (kvs rs)), some (.tup ((told rs).map rowD)), some (.tup (ts.map .str)), none, none, none, none, some (.str t)], rfl, ?_, rfl⟩
      simp (decide := true) only [runBody, List.map, List.length_cons, List.length_nil, List.replicate, List.cons_append, List.nil_append, evSs, x_lit, x_var, x_glob, x_bin, x_neg, x_not, x_cmp, x_chain, x_and, x_or, x_ite, x_tup, x_lst, x_lstM, x_idx, x_slc, x_rev, x_call, x_bi, x_copyM, x_append, x_extend, x_popAt, x_pop, x_frz, x_dnew, x_rng1, x_rng2, x_dget, y_asg, y_par, y_aug, y_ex, y_setix, y_ite, y_ret, y_retN, y_brk, y_cont, y_pass, y_never, y_frzV, evEs, evAnd, evOr, evT, evO, rb, List.getElem?_cons_zero, List.getElem?_cons_succ, sn_int, sn_str, sn_bl, sn_tup, sn_lst, sn_non, sn_dic, sn_ro, ix_l, ix_t, ix_r, ro_some, c_gt, c_ge, c_lt, c_le, decide_true, decide_false, ab, if_true, if_false, Bool.false_eq_true, Bool.not_true, Bool.not_false, bi_int, bi_intb, bi_abs, bi_lenl, bi_lent, bi_lenr, bi_tupl, b_add, b_sub, a_name, a_tup, as_nil, as_cons, setAll, List.set_cons_zero, List.set_cons_succ, ir_int, ir_str, ir_tup, ir_lst, ir_bl, ir_non, ir_dic, ir_ro, List.length_set, tn0, tn1, tn2, tn3, lim_ok, noRefs, Bool.and_self, as_dic, key_str, Option.getD_some, dget_kvs, at2_1]
    rw [List.map_map] at hc
    have em : ts.map ((fun d : D => match d with | .str t => .int (lookR rs t).2 | _ => .non) ∘ D.str) = ts.map fun t => D.int (lookR rs t).2 := rfl
    rw [em] at hc
    have hsum : bi .sum [.lst (ts.map fun t => D.int (lookR rs t).2)] = .ok (.int gone) := by
      rw [bi_sum (fun t => (lookR rs t).2), ← hgone, net, List.map_map]
      rfl
    simp (decide := true) only [runBody, List.map, List.length_cons, List.length_nil, List.replicate, List.cons_append, List.nil_append, evSs, x_lit, x_var, x_glob, x_bin, x_neg, x_not, x_cmp, x_chain, x_and, x_or, x_ite, x_tup, x_lst, x_lstM, x_idx, x_slc, x_rev, x_call, x_bi, x_copyM, x_append, x_extend, x_popAt, x_pop, x_frz, x_dnew, x_rng1, x_rng2, x_dget, y_asg, y_par, y_aug, y_ex, y_setix, y_ite, y_ret, y_retN, y_brk, y_cont, y_pass, y_never, y_frzV, evEs, evAnd, evOr, evT, evO, rb, List.getElem?_cons_zero, List.getElem?_cons_succ, sn_int, sn_str, sn_bl, sn_tup, sn_lst, sn_non, sn_dic, sn_ro, ix_l, ix_t, ix_r, ro_some, c_gt, c_ge, c_lt, c_le, decide_true, decide_false, ab, if_true, if_false, Bool.false_eq_true, Bool.not_true, Bool.not_false, bi_int, bi_intb, bi_abs, bi_lenl, bi_lent, bi_lenr, bi_tupl, b_add, b_sub, a_name, a_tup, as_nil, as_cons, setAll, List.set_cons_zero, List.set_cons_succ, ir_int, ir_str, ir_tup, ir_lst, ir_bl, ir_non, ir_dic, ir_ro, List.length_set, tn0, tn1, tn2, tn3, lim_ok, c28, hc, hsum]
  have hg' := told_rows hg
  have ha' := told_asc nd
  have hl' : (told rs).length ≤ 16 := by rw [told_len]; exact hl
  have nd' := told_nodup nd
  have c16 := leastT_run (F := F) (n := n) (st := st5) (rs := told rs) (ts := ts) hg' ha' hl' nd' htn htd
  have c17 := netT_run (F := F) (n := n) (st := st5) (rs := told rs) (ts := ts) hg' ha' hl' nd' htn htd
  rw [hΓ, hlk] at c16 c17
  have hgone' : ((ts.map (lookR rs)).map (·.2)).sum = gone := hgone
  rw [hdue] at c16
  rw [hgone'] at c17
  have rpp : Rp 1 50 (.tup [.int due, .int gone]) := by
    refine (rp_tup (k := 0) (m := 7) (n := 2) (fun d hd => ?_) (by simp)).up (by omega) (by omega)
    simp only [List.mem_cons, List.not_mem_nil, or_false] at hd
    rcases hd with rfl | rfl
    · exact (rp_int (k := 6) (by omega) (by omega) (by omega)).up (by omega) (by omega)
    · exact (rp_int (k := 6) (by omega) (by omega) (by omega)).up (by omega) (by omega)
  have rep1 := repr_rp rpp (by omega) (by omega) trivial
  have ne1 := ne_shown rpp
  have s7 : evS Γ C F (.ite (.cmp .ne (.bi .repr [(.tup [(.call 16 [(.var 3), (.var 4)]), (.call 17 [(.var 3), (.var 4)])])]) (.bi .repr [(.tup [(.var 6), (.var 7)])])) [.ret (.lit (.bl false))] []) [some (.mref i), some (.lst (ns.map .str)), some (.dic (kvs rs)), some (.tup ((told rs).map rowD)), some (.tup (ts.map .str)), none, some (.int due), some (.int gone), none, none] st5 = .ok (.next, [some (.mref i), some (.lst (ns.map .str)), some (.dic (kvs rs)), some (.tup ((told rs).map rowD)), some (.tup (ts.map .str)), none, some (.int due), some (.int gone), none, none], st5) := by
    simp (decide := true) only [runBody, List.map, List.length_cons, List.length_nil, List.replicate, List.cons_append, List.nil_append, evSs, x_lit, x_var, x_glob, x_bin, x_neg, x_not, x_cmp, x_chain, x_and, x_or, x_ite, x_tup, x_lst, x_lstM, x_idx, x_slc, x_rev, x_call, x_bi, x_copyM, x_append, x_extend, x_popAt, x_pop, x_frz, x_dnew, x_rng1, x_rng2, x_dget, y_asg, y_par, y_aug, y_ex, y_setix, y_ite, y_ret, y_retN, y_brk, y_cont, y_pass, y_never, y_frzV, evEs, evAnd, evOr, evT, evO, rb, List.getElem?_cons_zero, List.getElem?_cons_succ, sn_int, sn_str, sn_bl, sn_tup, sn_lst, sn_non, sn_dic, sn_ro, ix_l, ix_t, ix_r, ro_some, c_gt, c_ge, c_lt, c_le, decide_true, decide_false, ab, if_true, if_false, Bool.false_eq_true, Bool.not_true, Bool.not_false, bi_int, bi_intb, bi_abs, bi_lenl, bi_lent, bi_lenr, bi_tupl, b_add, b_sub, a_name, a_tup, as_nil, as_cons, setAll, List.set_cons_zero, List.set_cons_succ, ir_int, ir_str, ir_tup, ir_lst, ir_bl, ir_non, ir_dic, ir_ro, List.length_set, tn0, tn1, tn2, tn3, lim_ok, c16, c17, noRefs, Bool.and_self, rep1, ne1]
  have c18 := back_run (F := F) (n := n) (st := st5) hg' ha' hl'
  have hgb : ∀ r ∈ (told rs).map backR, RowG r := fun r hr => by obtain ⟨q, hq, rfl⟩ := List.mem_map.mp hr; exact back_ok (hg' q hq)
  have hab : Asc (((told rs).map backR).map (·.1)) := by rw [back_names]; exact ha'
  have hlb : ((told rs).map backR).length ≤ 16 := by rw [List.length_map]; exact hl'
  have ndb : (((told rs).map backR).map (·.1)).Nodup := by rw [back_names]; exact nd'
  have c18b := back_run (F := F) (n := n) (st := st5) hgb hab hlb
  have hbb : ((told rs).map backR).map backR = told rs := by
    rw [List.map_map]
    conv => rhs; rw [← List.map_id (told rs)]
    exact List.map_congr_left fun r _ => back_back r
  rw [hbb] at c18b
  have c29 := lawBack_run (F := F) (n := n + 3) (st := st5) nd
  have c26 := told_run (F := F) (n := n + 3) (st := st5) (rs := rs.map backR) (by rw [List.length_map]; omega)
  rw [told_back] at c26
  rw [hΓ] at c18 c18b c29 c26
  have rpb := rp_rows hgb hlb
  have rep2 := repr_rp rpb (by omega) (by omega) trivial
  have ne2 := ne_shown rpb
  have ne3 := ne_self (rp_rows hg' hl').flat (by omega)
  have s8 : evS Γ C F (.ite (.or [(.cmp .ne (.bi .repr [(.call 18 [(.var 3)])]) (.bi .repr [(.call 26 [(.call 29 [(.var 2)])])])), (.cmp .ne (.call 18 [(.call 18 [(.var 3)])]) (.var 3))]) [.ret (.lit (.bl false))] []) [some (.mref i), some (.lst (ns.map .str)), some (.dic (kvs rs)), some (.tup ((told rs).map rowD)), some (.tup (ts.map .str)), none, some (.int due), some (.int gone), none, none] st5 = .ok (.next, [some (.mref i), some (.lst (ns.map .str)), some (.dic (kvs rs)), some (.tup ((told rs).map rowD)), some (.tup (ts.map .str)), none, some (.int due), some (.int gone), none, none], st5) := by
    simp (decide := true) only [runBody, List.map, List.length_cons, List.length_nil, List.replicate, List.cons_append, List.nil_append, evSs, x_lit, x_var, x_glob, x_bin, x_neg, x_not, x_cmp, x_chain, x_and, x_or, x_ite, x_tup, x_lst, x_lstM, x_idx, x_slc, x_rev, x_call, x_bi, x_copyM, x_append, x_extend, x_popAt, x_pop, x_frz, x_dnew, x_rng1, x_rng2, x_dget, y_asg, y_par, y_aug, y_ex, y_setix, y_ite, y_ret, y_retN, y_brk, y_cont, y_pass, y_never, y_frzV, evEs, evAnd, evOr, evT, evO, rb, List.getElem?_cons_zero, List.getElem?_cons_succ, sn_int, sn_str, sn_bl, sn_tup, sn_lst, sn_non, sn_dic, sn_ro, ix_l, ix_t, ix_r, ro_some, c_gt, c_ge, c_lt, c_le, decide_true, decide_false, ab, if_true, if_false, Bool.false_eq_true, Bool.not_true, Bool.not_false, bi_int, bi_intb, bi_abs, bi_lenl, bi_lent, bi_lenr, bi_tupl, b_add, b_sub, a_name, a_tup, as_nil, as_cons, setAll, List.set_cons_zero, List.set_cons_succ, ir_int, ir_str, ir_tup, ir_lst, ir_bl, ir_non, ir_dic, ir_ro, List.length_set, tn0, tn1, tn2, tn3, lim_ok, c18, c18b, c29, c26, rep2, ne2, ne3]
  obtain ⟨x', a', hloop⟩ := r_loop (F := F) (n := n) (rs := rs) (ts := ts) (st := st6) (d0 := .mref i) (d1 := .lst (ns.map .str)) (g := .int gone) (b := none) hg nd hl htn htd htl [due, due + 1, mx 0 (due - 1), 0, 99999, due + r6] none none (by
    intro v hv
    simp only [List.mem_cons, List.not_mem_nil, or_false] at hv
    have : 0 ≤ mx 0 (due - 1) := by unfold mx; split <;> omega
    rcases hv with rfl | rfl | rfl | rfl | rfl | rfl <;> omega)
  rw [hΓ, hdue] at hloop
  have hi9 : evI Γ C (.seq (.lst [(.var 6), (.bin .add (.var 6) (.lit (.int 1))), (.bi .max2 [(.lit (.int 0)), (.bin .sub (.var 6) (.lit (.int 1)))]), (.lit (.int 0)), (.lit (.int 99999)), (.bin .add (.var 6) (.call 20 [(.var 0), (.lit (.int 30))]))])) [some (.mref i), some (.lst (ns.map .str)), some (.dic (kvs rs)), some (.tup ((told rs).map rowD)), some (.tup (ts.map .str)), none, some (.int due), some (.int gone), none, none] st5 = .ok ([due, due + 1, mx 0 (due - 1), 0, 99999, due + r6].map .int, st6) := by
    simp (decide := true) only [evI, runBody, List.map, List.length_cons, List.length_nil, List.replicate, List.cons_append, List.nil_append, evSs, x_lit, x_var, x_glob, x_bin, x_neg, x_not, x_cmp, x_chain, x_and, x_or, x_ite, x_tup, x_lst, x_lstM, x_idx, x_slc, x_rev, x_call, x_bi, x_copyM, x_append, x_extend, x_popAt, x_pop, x_frz, x_dnew, x_rng1, x_rng2, x_dget, y_asg, y_par, y_aug, y_ex, y_setix, y_ite, y_ret, y_retN, y_brk, y_cont, y_pass, y_never, y_frzV, evEs, evAnd, evOr, evT, evO, rb, List.getElem?_cons_zero, List.getElem?_cons_succ, sn_int, sn_str, sn_bl, sn_tup, sn_lst, sn_non, sn_dic, sn_ro, ix_l, ix_t, ix_r, ro_some, c_gt, c_ge, c_lt, c_le, decide_true, decide_false, ab, if_true, if_false, Bool.false_eq_true, Bool.not_true, Bool.not_false, bi_int, bi_intb, bi_abs, bi_lenl, bi_lent, bi_lenr, bi_tupl, b_add, b_sub, a_name, a_tup, as_nil, as_cons, setAll, List.set_cons_zero, List.set_cons_succ, ir_int, ir_str, ir_tup, ir_lst, ir_bl, ir_non, ir_dic, ir_ro, List.length_set, tn0, tn1, tn2, tn3, lim_ok, bi_max2, e6, noRefs, Bool.and_self, seqItems]
  have hrev : ts.reverse.map (lookR ((told rs).map backR)) = (ts.map (lookR rs)).reverse.map bk := by
    rw [← List.map_reverse, List.map_map]
    apply List.map_congr_left
    intro t _
    rw [back_look, told_look nd]
    rfl
  have hfwd : ts.map (lookR ((told rs).map backR)) = (ts.map (lookR rs)).map bk := by
    rw [List.map_map]
    apply List.map_congr_left
    intro t _
    rw [back_look, told_look nd]
    rfl
  have c18' := back_run (F := F) (n := n) (st := st6) hg' ha' hl'
  have c16b := leastT_run (F := F) (n := n) (st := st6) (rs := (told rs).map backR) (ts := ts.reverse) hgb hab hlb ndb (fun t ht => htn t (List.mem_reverse.mp ht)) ((List.reverse_perm ts).nodup_iff.mpr htd)
  have c17b := netT_run (F := F) (n := n) (st := st6) (rs := (told rs).map backR) (ts := ts) hgb hab hlb ndb htn htd
  rw [hrev, least_back hps, hdue, hgone] at c16b
  have hgb2 : (((ts.map (lookR rs)).map bk).map (·.2)).sum = -gone := by
    have := net_back (ts.map (lookR rs))
    rw [hgone] at this
    exact this
  rw [hfwd, hgb2] at c17b
  rw [hΓ] at c18' c16b c17b
  have hrv : revD (.tup (ts.map D.str)) = .ok (.tup (ts.reverse.map D.str)) := by rw [revD, List.map_reverse]
  have s10 : evS Γ C F (.ret (.and [(.cmp .eq (.call 16 [(.call 18 [(.var 3)]), (.rev (.var 4))]) (.bin .add (.var 6) (.var 7))), (.cmp .eq (.call 17 [(.call 18 [(.var 3)]), (.var 4)]) (.neg (.var 7)))])) [some (.mref i), some (.lst (ns.map .str)), some (.dic (kvs rs)), some (.tup ((told rs).map rowD)), some (.tup (ts.map .str)), x', some (.int due), some (.int gone), a', none] st6 = .ok (.ret (.bl true), [some (.mref i), some (.lst (ns.map .str)), some (.dic (kvs rs)), some (.tup ((told rs).map rowD)), some (.tup (ts.map .str)), x', some (.int due), some (.int gone), a', none], st6) := by
    simp (decide := true) only [runBody, List.map, List.length_cons, List.length_nil, List.replicate, List.cons_append, List.nil_append, evSs, x_lit, x_var, x_glob, x_bin, x_neg, x_not, x_cmp, x_chain, x_and, x_or, x_ite, x_tup, x_lst, x_lstM, x_idx, x_slc, x_rev, x_call, x_bi, x_copyM, x_append, x_extend, x_popAt, x_pop, x_frz, x_dnew, x_rng1, x_rng2, x_dget, y_asg, y_par, y_aug, y_ex, y_setix, y_ite, y_ret, y_retN, y_brk, y_cont, y_pass, y_never, y_frzV, evEs, evAnd, evOr, evT, evO, rb, List.getElem?_cons_zero, List.getElem?_cons_succ, sn_int, sn_str, sn_bl, sn_tup, sn_lst, sn_non, sn_dic, sn_ro, ix_l, ix_t, ix_r, ro_some, c_gt, c_ge, c_lt, c_le, decide_true, decide_false, ab, if_true, if_false, Bool.false_eq_true, Bool.not_true, Bool.not_false, bi_int, bi_intb, bi_abs, bi_lenl, bi_lent, bi_lenr, bi_tupl, b_add, b_sub, a_name, a_tup, as_nil, as_cons, setAll, List.set_cons_zero, List.set_cons_succ, ir_int, ir_str, ir_tup, ir_lst, ir_bl, ir_non, ir_dic, ir_ro, List.length_set, tn0, tn1, tn2, tn3, lim_ok, c18', hrv, c16b, c17b, c_eqi]
  refine ⟨[some (.mref i), some (.lst (ns.map .str)), some (.dic (kvs rs)), some (.tup ((told rs).map rowD)), some (.tup (ts.map .str)), x', some (.int due), some (.int gone), a', none], ?_⟩
  unfold rTail f30
  show evSs Γ C F [_, _, _, .for_ _ _ rBody, _] _ _ = _
  rw [ss_next s6, ss_next s7, ss_next s8, ss_next ((s_for hi9).trans hloop)]
  exact ss_ret s10
theorem right_x {F n : Nat} {st : Sto} {i k : Nat} (p : PotX st i k) (hk : k + 300 < 2 ^ 30) : ∃ st', callN T C F (n + 5) 30 [.mref i] st = .ok (.bl true, st') ∧ PotX st' i (k + 300) ∧ Adv i st st' := by
  obtain ⟨ns, st1, e1, pn, p1, v1⟩ := names_x (F := F) (n := n + 1) p (by omega)
  have hns : ns.Nodup := pn.nodup_iff.mpr names_nodup
  have hnl : ns.length = 16 := pn.length_eq
  obtain ⟨dg, st2, e2, mg, p2, v2⟩ := of_x (F := F) (n := n + 2) (ds := [.int 3, .int 60, .int 9999]) p1 (by omega) (by simp) (by simp) (by intro d hd; simp only [List.mem_cons, List.not_mem_nil, or_false] at hd; rcases hd with rfl | rfl | rfl <;> rfl)
  obtain ⟨g, rfl, g3, g9⟩ : ∃ g : Int, dg = .int g ∧ 3 ≤ g ∧ g ≤ 9999 := by
    simp only [List.mem_cons, List.not_mem_nil, or_false] at mg
    rcases mg with rfl | rfl | rfl <;> exact ⟨_, rfl, by omega, by omega⟩
  obtain ⟨rs0, st3, e3, sub, tr, p3, v3⟩ := lawTrade_x (F := F) (n := n + 1) (ts := ns) p2 (by omega) hns (by omega) g3 g9
  have nd0 : (rs0.map (·.1)).Nodup := sub.nodup hns
  obtain ⟨r4, st4, e4, a4, b4, p4, v4⟩ := take_x (F := F) (n := n + 3) (u := 11) p3 (by omega) (by omega) (by omega)
  obtain ⟨m, rfl⟩ : ∃ m : Nat, r4 = (m : Int) := ⟨r4.toNat, by omega⟩
  obtain ⟨out, rest, st5, e5, ol, op, p5, v5⟩ := some_x (F := F) (n := n + 2) (m := m) (ds := ns.map D.str) p4 (by omega) (by rw [List.length_map]; omega) (by rw [List.length_map]; omega) (fun d hd => by obtain ⟨t, _, rfl⟩ := List.mem_map.mp hd; rfl)
  obtain ⟨ts, us, rfl, rfl, tp⟩ := strs_perm op
  have htl : ts.length ≤ 10 := by rw [List.length_map] at ol; omega
  have htn : ∀ t ∈ ts, t ∈ NAMES := fun t ht => pn.mem_iff.mp (tp.mem_iff.mp (List.mem_append_left _ ht))
  have htd : ts.Nodup := (List.nodup_append.mp (tp.nodup_iff.mpr hns)).1
  -- the trade that is kept
  generalize hrs : rs0.filter (fun r => decide (r.2.1 + r.2.2 < 10000)) = rs
  have nd : (rs.map (·.1)).Nodup := by rw [← hrs]; exact ((List.filter_sublist).map _).nodup nd0
  have hl : rs.length ≤ 16 := by
    have h1 : rs.length ≤ rs0.length := by rw [← hrs]; exact List.length_filter_le ..
    have h2 := sub.length_le
    rw [List.length_map] at h2
    omega
  have hg : ∀ r ∈ rs, RowG r := by
    intro r hr
    rw [← hrs, List.mem_filter] at hr
    have ht := tr r hr.1
    have hs := of_decide_eq_true hr.2
    have h1 := ht.n0; have h2 := ht.n1; have h3 := ht.g0; have h4 := ht.g1
    exact ⟨pn.mem_iff.mp (sub.subset (List.mem_map_of_mem hr.1)), h1, by omega, by omega, by omega, by omega, by omega⟩
  obtain ⟨r6, st6, e6, a6, b6, p6, v6⟩ := take_x (F := F) (n := n + 3) (u := 30) p5 (by omega) (by omega) (by omega)
  have v : Adv i st st6 := ((((v1.trans v2).trans v3).trans v4).trans v5).trans v6
  refine ⟨st6, ?_, p6.up (by omega), v⟩
  rw [call_eq (fn := f30) rfl, run0 rfl rfl]
  obtain ⟨env', eB⟩ := right_b (F := F) (n := n) (ns := ns) nd hl hg htl htn htd e6 a6
  generalize hΓ : callN T C F (n + 4) = Γ at *
  -- steps
  have s1 : evS Γ C F (.asg (.name 1) (.call 24 [(.var 0), (.lit (.int 16))])) [some (.mref i), none, none, none, none, none, none, none, none, none] st = .ok (.next, [some (.mref i), some (.lst (ns.map .str)), none, none, none, none, none, none, none, none], st1) := by
    simp (decide := true) only [runBody, List.map, List.length_cons, List.length_nil, List.replicate, List.cons_append, List.nil_append, evSs, x_lit, x_var, x_glob, x_bin, x_neg, x_not, x_cmp, x_chain, x_and, x_or, x_ite, x_tup, x_lst, x_lstM, x_idx, x_slc, x_rev, x_call, x_bi, x_copyM, x_append, x_extend, x_popAt, x_pop, x_frz, x_dnew, x_rng1, x_rng2, x_dget, y_asg, y_par, y_aug, y_ex, y_setix, y_ite, y_ret, y_retN, y_brk, y_cont, y_pass, y_never, y_frzV, evEs, evAnd, evOr, evT, evO, rb, List.getElem?_cons_zero, List.getElem?_cons_succ, sn_int, sn_str, sn_bl, sn_tup, sn_lst, sn_non, sn_dic, sn_ro, ix_l, ix_t, ix_r, ro_some, c_gt, c_ge, c_lt, c_le, decide_true, decide_false, ab, if_true, if_false, Bool.false_eq_true, Bool.not_true, Bool.not_false, bi_int, bi_intb, bi_abs, bi_lenl, bi_lent, bi_lenr, bi_tupl, b_add, b_sub, a_name, a_tup, as_nil, as_cons, setAll, List.set_cons_zero, List.set_cons_succ, ir_int, ir_str, ir_tup, ir_lst, ir_bl, ir_non, ir_dic, ir_ro, List.length_set, tn0, tn1, tn2, tn3, lim_ok, e1]
  have s2 : evS Γ C F (.asg (.name 2) (.call 25 [(.var 0), (.var 1), (.call 21 [(.var 0), (.lst [(.lit (.int 3)), (.lit (.int 60)), (.lit (.int 9999))])])])) [some (.mref i), some (.lst (ns.map .str)), none, none, none, none, none, none, none, none] st1 = .ok (.next, [some (.mref i), some (.lst (ns.map .str)), some (.dic (kvs rs0)), none, none, none, none, none, none, none], st3) := by
    simp (decide := true) only [runBody, List.map, List.length_cons, List.length_nil, List.replicate, List.cons_append, List.nil_append, evSs, x_lit, x_var, x_glob, x_bin, x_neg, x_not, x_cmp, x_chain, x_and, x_or, x_ite, x_tup, x_lst, x_lstM, x_idx, x_slc, x_rev, x_call, x_bi, x_copyM, x_append, x_extend, x_popAt, x_pop, x_frz, x_dnew, x_rng1, x_rng2, x_dget, y_asg, y_par, y_aug, y_ex, y_setix, y_ite, y_ret, y_retN, y_brk, y_cont, y_pass, y_never, y_frzV, evEs, evAnd, evOr, evT, evO, rb, List.getElem?_cons_zero, List.getElem?_cons_succ, sn_int, sn_str, sn_bl, sn_tup, sn_lst, sn_non, sn_dic, sn_ro, ix_l, ix_t, ix_r, ro_some, c_gt, c_ge, c_lt, c_le, decide_true, decide_false, ab, if_true, if_false, Bool.false_eq_true, Bool.not_true, Bool.not_false, bi_int, bi_intb, bi_abs, bi_lenl, bi_lent, bi_lenr, bi_tupl, b_add, b_sub, a_name, a_tup, as_nil, as_cons, setAll, List.set_cons_zero, List.set_cons_succ, ir_int, ir_str, ir_tup, ir_lst, ir_bl, ir_non, ir_dic, ir_ro, List.length_set, tn0, tn1, tn2, tn3, lim_ok, noRefs, Bool.and_self, e2, e3]
  have s3 : evS Γ C F (.asg (.name 2) (.bi .dict [(.comp (.tup [(.name 9), (.name 8)]) (.items (.var 2)) (some (.cmp .lt (.bin .add (.idx (.var 8) (.lit (.int 0))) (.idx (.var 8) (.lit (.int 1)))) (.lit (.int 10000)))) (.tup [(.var 9), (.var 8)]) [9, 8])])) [some (.mref i), some (.lst (ns.map .str)), some (.dic (kvs rs0)), none, none, none, none, none, none, none] st3 = .ok (.next, [some (.mref i), some (.lst (ns.map .str)), some (.dic (kvs rs)), none, none, none, none, none, none, none], st3) := by
    have hi : evI Γ C (.items (.var 2)) [some (.mref i), some (.lst (ns.map .str)), some (.dic (kvs rs0)), none, none, none, none, none, none, none] st3 = .ok (rs0.map itD, st3) := by
      simp only [evI, x_var, List.getElem?_cons_zero, List.getElem?_cons_succ, rb, items_kvs]
    have at2_0 : ∀ a b : D, atD [a, b] 0 = some a := fun _ _ => rfl
    have at2_1 : ∀ a b : D, atD [a, b] 1 = some b := fun _ _ => rfl
    have hc := ev_compIf (Γ := Γ) (C := C) (e := .tup [(.var 9), (.var 8)]) (q := .cmp .lt (.bin .add (.idx (.var 8) (.lit (.int 0))) (.idx (.var 8) (.lit (.int 1)))) (.lit (.int 10000))) (t := .tup [(.name 9), (.name 8)]) (own := [9, 8]) (f := fun d => d) (p := fun d => match d with | .tup [_, .tup [.int a, .int b]] => decide (a + b < 10000) | _ => false) hi fun x hx => by
      obtain ⟨r, hr, rfl⟩ := List.mem_map.mp hx
      refine ⟨[some (.mref i), some (.lst (ns.map .str)), some (.dic (kvs rs0)), none, none, none, none, none, some (.tup [.int r.2.1, .int r.2.2]), some (.str r.1)], rfl, ?_, fun _ => ⟨?_, rfl⟩⟩
      · simp (decide := true) only [runBody, List.map, List.length_cons, List.length_nil, List.replicate, List.cons_append, List.nil_append, evSs, x_lit, x_var, x_glob, x_bin, x_neg, x_not, x_cmp, x_chain, x_and, x_or, x_ite, x_tup, x_lst, x_lstM, x_idx, x_slc, x_rev, x_call, x_bi, x_copyM, x_append, x_extend, x_popAt, x_pop, x_frz, x_dnew, x_rng1, x_rng2, x_dget, y_asg, y_par, y_aug, y_ex, y_setix, y_ite, y_ret, y_retN, y_brk, y_cont, y_pass, y_never, y_frzV, evEs, evAnd, evOr, evT, evO, rb, List.getElem?_cons_zero, List.getElem?_cons_succ, sn_int, sn_str, sn_bl, sn_tup, sn_lst, sn_non, sn_dic, sn_ro, ix_l, ix_t, ix_r, ro_some, c_gt, c_ge, c_lt, c_le, decide_true, decide_false, ab, if_true, if_false, Bool.false_eq_true, Bool.not_true, Bool.not_false, bi_int, bi_intb, bi_abs, bi_lenl, bi_lent, bi_lenr, bi_tupl, b_add, b_sub, a_name, a_tup, as_nil, as_cons, setAll, List.set_cons_zero, List.set_cons_succ, ir_int, ir_str, ir_tup, ir_lst, ir_bl, ir_non, ir_dic, ir_ro, List.length_set, tn0, tn1, tn2, tn3, lim_ok, at2_0, at2_1, itD]
      · simp (decide := true) only [runBody, List.map, List.length_cons, List.length_nil, List.replicate, List.cons_append, List.nil_append, evSs, x_lit, x_var, x_glob, x_bin, x_neg, x_not, x_cmp, x_chain, x_and, x_or, x_ite, x_tup, x_lst, x_lstM, x_idx, x_slc, x_rev, x_call, x_bi, x_copyM, x_append, x_extend, x_popAt, x_pop, x_frz, x_dnew, x_rng1, x_rng2, x_dget, y_asg, y_par, y_aug, y_ex, y_setix, y_ite, y_ret, y_retN, y_brk, y_cont, y_pass, y_never, y_frzV, evEs, evAnd, evOr, evT, evO, rb, List.getElem?_cons_zero, List.getElem?_cons_succ, sn_int, sn_str, sn_bl, sn_tup, sn_lst, sn_non, sn_dic, sn_ro, ix_l, ix_t, ix_r, ro_some, c_gt, c_ge, c_lt, c_le, decide_true, decide_false, ab, if_true, if_false, Bool.false_eq_true, Bool.not_true, Bool.not_false, bi_int, bi_intb, bi_abs, bi_lenl, bi_lent, bi_lenr, bi_tupl, b_add, b_sub, a_name, a_tup, as_nil, as_cons, setAll, List.set_cons_zero, List.set_cons_succ, ir_int, ir_str, ir_tup, ir_lst, ir_bl, ir_non, ir_dic, ir_ro, List.length_set, tn0, tn1, tn2, tn3, lim_ok, itD, noRefs, Bool.and_self]
    have em : (List.filter (fun d : D => match d with | .tup [_, .tup [.int a, .int b]] => decide (a + b < 10000) | _ => false) (rs0.map itD)).map (fun d => d) = rs.map itD := by
      rw [List.map_id', List.filter_map, ← hrs]
      rfl
    rw [em] at hc
    simp (decide := true) only [runBody, List.map, List.length_cons, List.length_nil, List.replicate, List.cons_append, List.nil_append, evSs, x_lit, x_var, x_glob, x_bin, x_neg, x_not, x_cmp, x_chain, x_and, x_or, x_ite, x_tup, x_lst, x_lstM, x_idx, x_slc, x_rev, x_call, x_bi, x_copyM, x_append, x_extend, x_popAt, x_pop, x_frz, x_dnew, x_rng1, x_rng2, x_dget, y_asg, y_par, y_aug, y_ex, y_setix, y_ite, y_ret, y_retN, y_brk, y_cont, y_pass, y_never, y_frzV, evEs, evAnd, evOr, evT, evO, rb, List.getElem?_cons_zero, List.getElem?_cons_succ, sn_int, sn_str, sn_bl, sn_tup, sn_lst, sn_non, sn_dic, sn_ro, ix_l, ix_t, ix_r, ro_some, c_gt, c_ge, c_lt, c_le, decide_true, decide_false, ab, if_true, if_false, Bool.false_eq_true, Bool.not_true, Bool.not_false, bi_int, bi_intb, bi_abs, bi_lenl, bi_lent, bi_lenr, bi_tupl, b_add, b_sub, a_name, a_tup, as_nil, as_cons, setAll, List.set_cons_zero, List.set_cons_succ, ir_int, ir_str, ir_tup, ir_lst, ir_bl, ir_non, ir_dic, ir_ro, List.length_set, tn0, tn1, tn2, tn3, lim_ok, hc, dict_it nd]
  have s4 : evS Γ C F (.asg (.name 3) (.call 26 [(.var 2)])) [some (.mref i), some (.lst (ns.map .str)), some (.dic (kvs rs)), none, none, none, none, none, none, none] st3 = .ok (.next, [some (.mref i), some (.lst (ns.map .str)), some (.dic (kvs rs)), some (.tup ((told rs).map rowD)), none, none, none, none, none, none], st3) := by
    have := told_run (F := F) (n := n + 3) (st := st3) (rs := rs) (by omega)
    rw [hΓ] at this
    simp (decide := true) only [runBody, List.map, List.length_cons, List.length_nil, List.replicate, List.cons_append, List.nil_append, evSs, x_lit, x_var, x_glob, x_bin, x_neg, x_not, x_cmp, x_chain, x_and, x_or, x_ite, x_tup, x_lst, x_lstM, x_idx, x_slc, x_rev, x_call, x_bi, x_copyM, x_append, x_extend, x_popAt, x_pop, x_frz, x_dnew, x_rng1, x_rng2, x_dget, y_asg, y_par, y_aug, y_ex, y_setix, y_ite, y_ret, y_retN, y_brk, y_cont, y_pass, y_never, y_frzV, evEs, evAnd, evOr, evT, evO, rb, List.getElem?_cons_zero, List.getElem?_cons_succ, sn_int, sn_str, sn_bl, sn_tup, sn_lst, sn_non, sn_dic, sn_ro, ix_l, ix_t, ix_r, ro_some, c_gt, c_ge, c_lt, c_le, decide_true, decide_false, ab, if_true, if_false, Bool.false_eq_true, Bool.not_true, Bool.not_false, bi_int, bi_intb, bi_abs, bi_lenl, bi_lent, bi_lenr, bi_tupl, b_add, b_sub, a_name, a_tup, as_nil, as_cons, setAll, List.set_cons_zero, List.set_cons_succ, ir_int, ir_str, ir_tup, ir_lst, ir_bl, ir_non, ir_dic, ir_ro, List.length_set, tn0, tn1, tn2, tn3, lim_ok, this]
  have s5 : evS Γ C F (.asg (.name 4) (.bi .tuple [(.call 22 [(.var 0), (.var 1), (.call 20 [(.var 0), (.lit (.int 11))])])])) [some (.mref i), some (.lst (ns.map .str)), some (.dic (kvs rs)), some (.tup ((told rs).map rowD)), none, none, none, none, none, none] st3 = .ok (.next, [some (.mref i), some (.lst (ns.map .str)), some (.dic (kvs rs)), some (.tup ((told rs).map rowD)), some (.tup (ts.map .str)), none, none, none, none, none], st5) := by
    have hm : ∀ (Γ : Fns) (s0 s1 s2 : Sto) (u : List D) (m : Int), Γ 20 [.mref i, .int 11] s0 = .ok (.int m, s1) → Γ 22 [.mref i, .lst u, .int m] s1 = .ok (.lst (ts.map .str), s2) → evS Γ C F (.asg (.name 4) (.bi .tuple [(.call 22 [(.var 0), (.var 1), (.call 20 [(.var 0), (.lit (.int 11))])])])) [some (.mref i), some (.lst u), some (.dic (kvs rs)), some (.tup ((told rs).map rowD)), none, none, none, none, none, none] s0 = .ok (.next, [some (.mref i), some (.lst u), some (.dic (kvs rs)), some (.tup ((told rs).map rowD)), some (.tup (ts.map .str)), none, none, none, none, none], s2) := by
      intro Γ s0 s1 s2 u m h1 h2
      simp (decide := true) only [runBody, List.map, List.length_cons, List.length_nil, List.replicate, List.cons_append, List.nil_append, evSs, x_lit, x_var, x_glob, x_bin, x_neg, x_not, x_cmp, x_chain, x_and, x_or, x_ite, x_tup, x_lst, x_lstM, x_idx, x_slc, x_rev, x_call, x_bi, x_copyM, x_append, x_extend, x_popAt, x_pop, x_frz, x_dnew, x_rng1, x_rng2, x_dget, y_asg, y_par, y_aug, y_ex, y_setix, y_ite, y_ret, y_retN, y_brk, y_cont, y_pass, y_never, y_frzV, evEs, evAnd, evOr, evT, evO, rb, List.getElem?_cons_zero, List.getElem?_cons_succ, sn_int, sn_str, sn_bl, sn_tup, sn_lst, sn_non, sn_dic, sn_ro, ix_l, ix_t, ix_r, ro_some, c_gt, c_ge, c_lt, c_le, decide_true, decide_false, ab, if_true, if_false, Bool.false_eq_true, Bool.not_true, Bool.not_false, bi_int, bi_intb, bi_abs, bi_lenl, bi_lent, bi_lenr, bi_tupl, b_add, b_sub, a_name, a_tup, as_nil, as_cons, setAll, List.set_cons_zero, List.set_cons_succ, ir_int, ir_str, ir_tup, ir_lst, ir_bl, ir_non, ir_dic, ir_ro, List.length_set, tn0, tn1, tn2, tn3, lim_ok, h1, h2]
    exact hm Γ st3 st4 st5 _ _ e4 e5
  rw [body_ret (fn := f30) (ds := [.mref i]) (d := .bl true) (st1 := st6) (env1 := env')]
  · exact fin_d rfl v.len
  · show evSs Γ C F [_, _, _, _, _, _, _, _, _, _] [some (.mref i), none, none, none, none, none, none, none, none, none] st = _
    rw [ss_next s1, ss_next s2, ss_next s3, ss_next s4, ss_next s5]
    exact eB
end K10

set_option Elab.async false
set_option linter.all false
set_option maxRecDepth 100000
set_option maxHeartbeats 400000
namespace K10
open PySem En
theorem cg_some {g : D → Sto → Res (Option D × Sto)} {x d : D} {r ds : List D} {st st1 st2 : Sto} (h1 : g x st = .ok (some d, st1)) (h2 : compGo g r st1 = .ok (ds, st2)) : compGo g (x :: r) st = .ok (d :: ds, st2) := by
  simp only [compGo, h1, rb, h2]
theorem laps {F n : Nat} {d0 d1 : D} {i : Nat} : ∀ (m : Nat) (lo : Int) (st : Sto) (k : Nat), PotX st i k → k + 300 * m < 2 ^ 30 →
    ∃ st', compGo (fun x s => (Res.of (asgT (.name 3) x (wipeD [some d0, some d1, some (.mref i), none] [3]))).bind fun env1 => (evT (callN T C F (n + 5)) C none env1 s).bind fun (b, s1) =>
        if b then (evE (callN T C F (n + 5)) C (.call 30 [(.var 2)]) env1 s1).bind fun (d, s2) => if d.isRef then .bad else .ok (some d, s2) else .ok (none, s1)) (rngD lo m) st = .ok (List.replicate m (.bl true), st') ∧ PotX st' i (k + 300 * m) ∧ Adv i st st'
  | 0, lo, st, k, p, hk => ⟨st, rfl, p.up (by omega), rfl, fun _ _ => rfl⟩
  | m + 1, lo, st, k, p, hk => by
    obtain ⟨st1, e1, p1, v1⟩ := right_x (F := F) (n := n) p (by omega)
    obtain ⟨st2, e2, p2, v2⟩ := laps (F := F) (n := n) (d0 := d0) (d1 := d1) m (lo + 1) st1 (k + 300) p1 (by omega)
    refine ⟨st2, ?_, p2.up (by omega), v1.trans v2⟩
    refine cg_some (st1 := st1) ?_ e2
    simp (decide := true) only [wipeD, runBody, List.map, List.length_cons, List.length_nil, List.replicate, List.cons_append, List.nil_append, evSs, x_lit, x_var, x_glob, x_bin, x_neg, x_not, x_cmp, x_chain, x_and, x_or, x_ite, x_tup, x_lst, x_lstM, x_idx, x_slc, x_rev, x_call, x_bi, x_copyM, x_append, x_extend, x_popAt, x_pop, x_frz, x_dnew, x_rng1, x_rng2, x_dget, y_asg, y_par, y_aug, y_ex, y_setix, y_ite, y_ret, y_retN, y_brk, y_cont, y_pass, y_never, y_frzV, evEs, evAnd, evOr, evT, evO, rb, List.getElem?_cons_zero, List.getElem?_cons_succ, sn_int, sn_str, sn_bl, sn_tup, sn_lst, sn_non, sn_dic, sn_ro, ix_l, ix_t, ix_r, ro_some, c_gt, c_ge, c_lt, c_le, decide_true, decide_false, ab, if_true, if_false, Bool.false_eq_true, Bool.not_true, Bool.not_false, bi_int, bi_intb, bi_abs, bi_lenl, bi_lent, bi_lenr, bi_tupl, b_add, b_sub, a_name, a_tup, as_nil, as_cons, setAll, List.set_cons_zero, List.set_cons_succ, ir_int, ir_str, ir_tup, ir_lst, ir_bl, ir_non, ir_dic, ir_ro, List.length_set, tn0, tn1, tn2, tn3, lim_ok, e1]
theorem all_true (m : Nat) : bi .all [.lst (List.replicate m (.bl true))] = .ok (.bl true) := by
  have h : List.replicate m (D.bl true) = (List.replicate m ()).map fun _ => D.bl true := by simp
  rw [h, bi_all (fun _ => true)]
  simp
def lawBody : List CS := [.asg (.name 2) (.call 19 [(.var 0), (.var 1)]), .ite (.not (.bi .all [(.comp (.name 3) (.range1 (.lit (.int 8))) none (.call 30 [(.var 2)]) [3])])) [.ret (.lit (.bl false))] []]
theorem law_loop {F n : Nat} {zs : List Int} : ∀ (m lo : Nat) (a b : Option D) (st : Sto), lo + m ≤ 60 →
    ∃ a' b' st', forGo (asgT (.name 1)) (fun e s => evSs (callN T C F (n + 5)) C F lawBody e s) (rngD lo m) [some (.ro (zs.map .int)), a, b, none] st = .ok (.next, [some (.ro (zs.map .int)), a', b', none], st')
  | 0, lo, a, b, st, h => ⟨a, b, st, rfl⟩
  | m + 1, lo, a, b, st, h => by
    obtain ⟨o, s, e1, o0, o1, s0, s1⟩ := pot_run (F := F) (n := n + 4) (st := st) (zs := zs) (p := lo) (by omega)
    have p : PotX (st ++ [.lst [.int o, .int s, .int 0]]) st.length 0 := ⟨o, s, 0, by simp, o0, o1, s0, s1, by omega, by omega⟩
    obtain ⟨st2, e2, p2, v2⟩ := laps (F := F) (n := n) (d0 := .ro (zs.map .int)) (d1 := .int lo) 8 0 _ 0 p (by omega)
    have hi : evI (callN T C F (n + 5)) C (.range1 (.lit (.int 8))) [some (.ro (zs.map .int)), some (.int lo), some (.mref st.length), none] (st ++ [.lst [.int o, .int s, .int 0]]) = .ok (rngD 0 8, st ++ [.lst [.int o, .int s, .int 0]]) := ev_range1 (m := 8) (by rw [x_lit]; rfl) (by omega)
    have hc : evE (callN T C F (n + 5)) C (.comp (.name 3) (.range1 (.lit (.int 8))) none (.call 30 [(.var 2)]) [3]) [some (.ro (zs.map .int)), some (.int lo), some (.mref st.length), none] (st ++ [.lst [.int o, .int s, .int 0]]) = .ok (.lst (List.replicate 8 (.bl true)), st2) := by
      rw [evE, hi, rb]
      dsimp only
      rw [e2]
      rfl
    have hb := all_true 8
    generalize List.replicate 8 (D.bl true) = bs at hc hb
    have step : evSs (callN T C F (n + 5)) C F lawBody [some (.ro (zs.map .int)), some (.int lo), b, none] st = .ok (.next, [some (.ro (zs.map .int)), some (.int lo), some (.mref st.length), none], st2) := by
      simp (decide := true) only [runBody, List.map, List.length_cons, List.length_nil, List.replicate, List.cons_append, List.nil_append, evSs, x_lit, x_var, x_glob, x_bin, x_neg, x_not, x_cmp, x_chain, x_and, x_or, x_ite, x_tup, x_lst, x_lstM, x_idx, x_slc, x_rev, x_call, x_bi, x_copyM, x_append, x_extend, x_popAt, x_pop, x_frz, x_dnew, x_rng1, x_rng2, x_dget, y_asg, y_par, y_aug, y_ex, y_setix, y_ite, y_ret, y_retN, y_brk, y_cont, y_pass, y_never, y_frzV, evEs, evAnd, evOr, evT, evO, rb, List.getElem?_cons_zero, List.getElem?_cons_succ, sn_int, sn_str, sn_bl, sn_tup, sn_lst, sn_non, sn_dic, sn_ro, ix_l, ix_t, ix_r, ro_some, c_gt, c_ge, c_lt, c_le, decide_true, decide_false, ab, if_true, if_false, Bool.false_eq_true, Bool.not_true, Bool.not_false, bi_int, bi_intb, bi_abs, bi_lenl, bi_lent, bi_lenr, bi_tupl, b_add, b_sub, a_name, a_tup, as_nil, as_cons, setAll, List.set_cons_zero, List.set_cons_succ, ir_int, ir_str, ir_tup, ir_lst, ir_bl, ir_non, ir_dic, ir_ro, List.length_set, tn0, tn1, tn2, tn3, lim_ok, lawBody, e1, hc, hb]
    obtain ⟨a', b', st', ih⟩ := law_loop (F := F) (n := n) (zs := zs) m (lo + 1) (some (.int lo)) (some (.mref st.length)) st2 (by omega)
    refine ⟨a', b', st', ?_⟩
    refine (fg_next (env1 := [some (.ro (zs.map .int)), some (.int lo), b, none]) rfl step).trans ?_
    exact ih
theorem plain : ∀ zs : List Int, zs.length ≤ 63 → (∀ z ∈ zs, PySem.Builtin.Int.intBits z ≤ 1048576) → ∃ st', runBody (callN (rows.map Row.fn) (conOf cons) 100 10) (conOf cons) 100 f31 [.ro (zs.map D.int)] [] = .ok (.bl true, st') := by
  intro zs _ _
  obtain ⟨m, hm, e1⟩ := cells_run (F := 100) (n := 9) (st := []) (zs := zs)
  obtain ⟨a', b', st', e2⟩ := law_loop (F := 100) (n := 5) (zs := zs) m 0 none none [] (by omega)
  have hi : evI (callN T C 100 10) C (.seq (.call 23 [(.var 0), (.lit (.int 4))])) [some (.ro (zs.map .int)), none, none, none] [] = .ok (rngD 0 m, []) := by
    simp (decide := true) only [evI, runBody, List.map, List.length_cons, List.length_nil, List.replicate, List.cons_append, List.nil_append, evSs, x_lit, x_var, x_glob, x_bin, x_neg, x_not, x_cmp, x_chain, x_and, x_or, x_ite, x_tup, x_lst, x_lstM, x_idx, x_slc, x_rev, x_call, x_bi, x_copyM, x_append, x_extend, x_popAt, x_pop, x_frz, x_dnew, x_rng1, x_rng2, x_dget, y_asg, y_par, y_aug, y_ex, y_setix, y_ite, y_ret, y_retN, y_brk, y_cont, y_pass, y_never, y_frzV, evEs, evAnd, evOr, evT, evO, rb, List.getElem?_cons_zero, List.getElem?_cons_succ, sn_int, sn_str, sn_bl, sn_tup, sn_lst, sn_non, sn_dic, sn_ro, ix_l, ix_t, ix_r, ro_some, c_gt, c_ge, c_lt, c_le, decide_true, decide_false, ab, if_true, if_false, Bool.false_eq_true, Bool.not_true, Bool.not_false, bi_int, bi_intb, bi_abs, bi_lenl, bi_lent, bi_lenr, bi_tupl, b_add, b_sub, a_name, a_tup, as_nil, as_cons, setAll, List.set_cons_zero, List.set_cons_succ, ir_int, ir_str, ir_tup, ir_lst, ir_bl, ir_non, ir_dic, ir_ro, List.length_set, tn0, tn1, tn2, tn3, lim_ok, e1, seqItems]
  refine ⟨[], ?_⟩
  show runBody (callN T C 100 10) C 100 f31 [.ro (zs.map D.int)] [] = _
  rw [body_ret (fn := f31) (ds := [.ro (zs.map .int)]) (d := .bl true) (st1 := st') (env1 := [some (.ro (zs.map .int)), a', b', none])]
  · show En.finish false 0 (.bl true) st' = _
    simp [En.finish]
  · show evSs _ _ _ [.for_ (.name 1) (.seq (.call 23 [(.var 0), (.lit (.int 4))])) lawBody, .ret (.lit (.bl true))] [some (.ro (zs.map .int)), none, none, none] [] = _
    rw [ss_next ((s_for hi).trans e2)]
    simp (decide := true) only [runBody, List.map, List.length_cons, List.length_nil, List.replicate, List.cons_append, List.nil_append, evSs, x_lit, x_var, x_glob, x_bin, x_neg, x_not, x_cmp, x_chain, x_and, x_or, x_ite, x_tup, x_lst, x_lstM, x_idx, x_slc, x_rev, x_call, x_bi, x_copyM, x_append, x_extend, x_popAt, x_pop, x_frz, x_dnew, x_rng1, x_rng2, x_dget, y_asg, y_par, y_aug, y_ex, y_setix, y_ite, y_ret, y_retN, y_brk, y_cont, y_pass, y_never, y_frzV, evEs, evAnd, evOr, evT, evO, rb, List.getElem?_cons_zero, List.getElem?_cons_succ, sn_int, sn_str, sn_bl, sn_tup, sn_lst, sn_non, sn_dic, sn_ro, ix_l, ix_t, ix_r, ro_some, c_gt, c_ge, c_lt, c_le, decide_true, decide_false, ab, if_true, if_false, Bool.false_eq_true, Bool.not_true, Bool.not_false, bi_int, bi_intb, bi_abs, bi_lenl, bi_lent, bi_lenr, bi_tupl, b_add, b_sub, a_name, a_tup, as_nil, as_cons, setAll, List.set_cons_zero, List.set_cons_succ, ir_int, ir_str, ir_tup, ir_lst, ir_bl, ir_non, ir_dic, ir_ro, List.length_set, tn0, tn1, tn2, tn3, lim_ok]
end K10

set_option Elab.async false
namespace K10
open En
end K10
open PySem PySem.W PyProof.Rows
set_option maxRecDepth 100000 in
set_option maxHeartbeats 0 in
theorem PySem.Challenge.cw_enoughhands_k10_whole_levels_and_least_s_holds : PySem.Challenge.rw_enoughhands_k10_whole_levels_and_least_s.Holds := by
  w_on; o_law; k_head; (case hw => w_witness2)
  k_fill
  refine En.walkG (l := PySem.Challenge.rw_enoughhands_k10_whole_levels_and_least_s) (n := 63) (k := 10 + 1) (x := "_law_script") (g := En.runBody (En.callN (K10.rows.map En.Row.fn) (En.conOf K10.cons) 100 10) (En.conOf K10.cons) 100 K10.f31) rfl (by decide) rfl ⟨rfl, by decide, by decide⟩ (fun w h Y => PySem.W.kIn_of Y) ?F K10.plain
  case F =>
    intro w mg fa h KX Gm hmg
    refine' En.thenE (K10.row0 KX Gm ?a ?l ?c ?k ?t) (fun e0 => ?_)
    (case a => k_is); (case l => k_is); (case c => k_is); (case k => k_is); (case t => k_is)
    refine' En.thenE (K10.row1 KX Gm ?a ?l ?c ?k ?t) (fun e1 => ?_)
    (case a => k_is); (case l => k_is); (case c => k_is); (case k => k_is); (case t => k_is)
    refine' En.thenE (K10.row2 KX Gm ?a ?l ?c ?k) (fun e2 => ?_)
    (case a => k_is); (case l => k_is); (case c => k_is); (case k => k_is)
    refine' En.thenE (K10.row3 KX Gm ?a ?l ?c ?k) (fun e3 => ?_)
    (case a => k_is); (case l => k_is); (case c => k_is); (case k => k_is)
    refine' En.thenE (K10.row4 KX Gm ?a ?l ?c ?k) (fun e4 => ?_)
    (case a => k_is); (case l => k_is); (case c => k_is); (case k => k_is)
    refine' En.thenE (K10.row5 KX Gm ?a ?l ?c ?k) (fun e5 => ?_)
    (case a => k_is); (case l => k_is); (case c => k_is); (case k => k_is)
    refine' En.thenE (K10.row6 KX Gm ?a ?l ?c ?k) (fun e6 => ?_)
    (case a => k_is); (case l => k_is); (case c => k_is); (case k => k_is)
    refine' En.thenE (K10.row7 KX Gm ?a ?l ?c ?k) (fun e7 => ?_)
    (case a => k_is); (case l => k_is); (case c => k_is); (case k => k_is)
    refine' En.thenE (K10.row8 KX Gm ?a ?l ?c ?k) (fun e8 => ?_)
    (case a => k_is); (case l => k_is); (case c => k_is); (case k => k_is)
    refine' En.thenE (K10.row9 KX Gm ?a ?l ?c ?k) (fun e9 => ?_)
    (case a => k_is); (case l => k_is); (case c => k_is); (case k => k_is)
    refine' En.thenE (K10.row10 KX Gm ?a ?l ?c ?k) (fun e10 => ?_)
    (case a => k_is); (case l => k_is); (case c => k_is); (case k => k_is)
    refine' En.thenE (K10.row11 KX Gm ?a ?l ?c ?k) (fun e11 => ?_)
    (case a => k_is); (case l => k_is); (case c => k_is); (case k => k_is)
    refine' En.thenE (K10.row12 KX Gm ?a ?l ?c ?k) (fun e12 => ?_)
    (case a => k_is); (case l => k_is); (case c => k_is); (case k => k_is)
    refine' En.thenE (K10.row13 KX Gm ?a ?l ?c ?k) (fun e13 => ?_)
    (case a => k_is); (case l => k_is); (case c => k_is); (case k => k_is)
    refine' En.thenE (K10.row14 KX Gm ?a ?l ?c ?k) (fun e14 => ?_)
    (case a => k_is); (case l => k_is); (case c => k_is); (case k => k_is)
    refine' En.thenE (K10.row15 KX Gm ?a ?l ?c ?k) (fun e15 => ?_)
    (case a => k_is); (case l => k_is); (case c => k_is); (case k => k_is)
    refine' En.thenE (K10.row16 KX Gm ?a ?l ?c ?k) (fun e16 => ?_)
    (case a => k_is); (case l => k_is); (case c => k_is); (case k => k_is)
    refine' En.thenE (K10.row17 KX Gm ?a ?l ?c ?k) (fun e17 => ?_)
    (case a => k_is); (case l => k_is); (case c => k_is); (case k => k_is)
    refine' En.thenE (K10.row18 KX Gm ?a ?l ?c ?k) (fun e18 => ?_)
    (case a => k_is); (case l => k_is); (case c => k_is); (case k => k_is)
    refine' En.thenE (K10.row19 KX Gm ?a ?l ?c ?k) (fun e19 => ?_)
    (case a => k_is); (case l => k_is); (case c => k_is); (case k => k_is)
    refine' En.thenE (K10.row20 KX Gm ?a ?l ?c ?k) (fun e20 => ?_)
    (case a => k_is); (case l => k_is); (case c => k_is); (case k => k_is)
    refine' En.thenE (K10.row21 KX Gm ?a ?l ?c ?k) (fun e21 => ?_)
    (case a => k_is); (case l => k_is); (case c => k_is); (case k => k_is)
    refine' En.thenE (K10.row22 KX Gm ?a ?l ?c ?k) (fun e22 => ?_)
    (case a => k_is); (case l => k_is); (case c => k_is); (case k => k_is)
    refine' En.thenE (K10.row23 KX Gm ?a ?l ?c ?k) (fun e23 => ?_)
    (case a => k_is); (case l => k_is); (case c => k_is); (case k => k_is)
    refine' En.thenE (K10.row24 KX Gm ?a ?l ?c ?k) (fun e24 => ?_)
    (case a => k_is); (case l => k_is); (case c => k_is); (case k => k_is)
    refine' En.thenE (K10.row25 KX Gm ?a ?l ?c ?k) (fun e25 => ?_)
    (case a => k_is); (case l => k_is); (case c => k_is); (case k => k_is)
    refine' En.thenE (K10.row26 KX Gm ?a ?l ?c ?k) (fun e26 => ?_)
    (case a => k_is); (case l => k_is); (case c => k_is); (case k => k_is)
    refine' En.thenE (K10.row27 KX Gm ?a ?l ?c ?k) (fun e27 => ?_)
    (case a => k_is); (case l => k_is); (case c => k_is); (case k => k_is)
    refine' En.thenE (K10.row28 KX Gm ?a ?l ?c ?k) (fun e28 => ?_)
    (case a => k_is); (case l => k_is); (case c => k_is); (case k => k_is)
    refine' En.thenE (K10.row29 KX Gm ?a ?l ?c ?k) (fun e29 => ?_)
    (case a => k_is); (case l => k_is); (case c => k_is); (case k => k_is)
    refine' En.thenE (K10.row30 KX Gm ?a ?l ?c ?k) (fun e30 => ?_)
    (case a => k_is); (case l => k_is); (case c => k_is); (case k => k_is)
    refine' En.thenE (K10.row31 KX Gm ?a ?l ?c ?k) (fun e31 => ?_)
    (case a => k_is); (case l => k_is); (case c => k_is); (case k => k_is)
    refine' En.thenE (En.con_str (x := "SIGNS") KX Gm ?a) (fun d0 => ?_)
    (case a => k_is)
    refine' En.thenE (En.con_int (x := "MOST_SIGNS") KX Gm ?a) (fun d1 => ?_)
    (case a => k_is)
    refine' En.thenE (En.con_int (x := "MOST_ROWS") KX Gm ?a) (fun d2 => ?_)
    (case a => k_is)
    refine' En.thenE (En.con_int (x := "MOST_NEED") KX Gm ?a) (fun d3 => ?_)
    (case a => k_is)
    refine' En.thenE (En.con_int (x := "MOST_STOCK") KX Gm ?a) (fun d4 => ?_)
    (case a => k_is)
    refine' En.thenE (En.con_int (x := "TRIPLE") KX Gm ?a) (fun d5 => ?_)
    (case a => k_is)
    refine' En.thenE (En.con_tup (x := "IDLE") (vs := [.int 0, .int 0]) KX Gm ?a ?l ?cc ?d ?z ?v (fun as H => (.cons (.int _) (.cons (.int _) .nil)))) (fun d6 => ?_)
    (case a => k_is); (case l => k_is); (case cc => exact rfl); (case d => exact rfl); (case z => decide); (case v => exact (.cons ⟨_, rfl⟩ (.cons ⟨_, rfl⟩ .nil)))
    refine' En.thenE (PySem.W.mg_none_of (n := "len") KX Gm ?z) (fun b0 => ?_)
    (case z => k_is)
    refine' En.thenE (PySem.W.mg_none_of (n := "abs") KX Gm ?z) (fun b1 => ?_)
    (case z => k_is)
    refine' En.thenE (PySem.W.mg_none_of (n := "int") KX Gm ?z) (fun b2 => ?_)
    (case z => k_is)
    refine' En.thenE (PySem.W.mg_none_of (n := "tuple") KX Gm ?z) (fun b3 => ?_)
    (case z => k_is)
    refine' En.thenE (PySem.W.mg_none_of (n := "list") KX Gm ?z) (fun b4 => ?_)
    (case z => k_is)
    refine' En.thenE (PySem.W.mg_none_of (n := "all") KX Gm ?z) (fun b5 => ?_)
    (case z => k_is)
    refine' En.thenE (PySem.W.mg_none_of (n := "any") KX Gm ?z) (fun b6 => ?_)
    (case z => k_is)
    refine' En.thenE (PySem.W.mg_none_of (n := "sum") KX Gm ?z) (fun b7 => ?_)
    (case z => k_is)
    refine' En.thenE (PySem.W.mg_none_of (n := "max") KX Gm ?z) (fun b8 => ?_)
    (case z => k_is)
    refine' En.thenE (PySem.W.mg_none_of (n := "min") KX Gm ?z) (fun b9 => ?_)
    (case z => k_is)
    refine' En.thenE (PySem.W.mg_none_of (n := "sorted") KX Gm ?z) (fun b10 => ?_)
    (case z => k_is)
    refine' En.thenE (PySem.W.mg_none_of (n := "repr") KX Gm ?z) (fun b11 => ?_)
    (case z => k_is)
    refine' En.thenE (PySem.W.mg_none_of (n := "dict") KX Gm ?z) (fun b12 => ?_)
    (case z => k_is)
    refine' En.thenE (PySem.W.mg_none_of (n := "isinstance") KX Gm ?z) (fun b13 => ?_)
    (case z => k_is)
    refine' En.thenE (PySem.W.mg_none_of (n := "range") KX Gm ?z) (fun b14 => ?_)
    (case z => k_is)
    refine' En.thenE (PySem.W.mg_none_of (n := "zip") KX Gm ?z) (fun b15 => ?_)
    (case z => k_is)
    refine' En.thenE (PySem.W.mg_none_of (n := "enumerate") KX Gm ?z) (fun b16 => ?_)
    (case z => k_is)
    refine' En.thenE (PySem.W.mg_none_of (n := "bool") KX Gm ?z) (fun b17 => ?_)
    (case z => k_is)
    refine' En.thenE (PySem.W.mg_none_of (n := "str") KX Gm ?z) (fun b18 => ?_)
    (case z => k_is)
    refine' En.thenE (p := En.ModOk _ mg K10.rows K10.cons K10.G 60) ⟨K10.chks, .cons e0 (.cons e1 (.cons e2 (.cons e3 (.cons e4 (.cons e5 (.cons e6 (.cons e7 (.cons e8 (.cons e9 (.cons e10 (.cons e11 (.cons e12 (.cons e13 (.cons e14 (.cons e15 (.cons e16 (.cons e17 (.cons e18 (.cons e19 (.cons e20 (.cons e21 (.cons e22 (.cons e23 (.cons e24 (.cons e25 (.cons e26 (.cons e27 (.cons e28 (.cons e29 (.cons e30 (.cons e31 (.nil)))))))))))))))))))))))))))))))), .cons d0 (.cons d1 (.cons d2 (.cons d3 (.cons d4 (.cons d5 (.cons d6 (.nil))))))), by decide +kernel, En.blt_of b0 b1 b2 b3 b4 b5 b6 b7 b8 b9 b10 b11 b12 b13 b14 b15 b16 b17 b18⟩ (fun mo => ?_)
    obtain ⟨fd, q1, q2⟩ := En.law_row (h := h) (F := 100) (k := 10) (i := 31) (r := K10.r31) (P := PySem.Challenge.rw_enoughhands_k10_whole_levels_and_least_s.prog) (w := w) mo rfl hmg rfl rfl
    exact ⟨fd, q1, fun base _ _ => q2 base⟩
