import PyProof.Rows.All
import Wide.All
import OpenK.AllK
import Wide.FinOn
import HandS.ForMost
import KE.KDictKeyed
import KE.SortData
import HandS.WordsExc
import HandS.CallSlots
import HandS.Dict
import HandS.List
import KE.KDictSum
import KE.KDictDisplayH
import PyProof.Rows.TupDisplay
import HandS.TupSets
import KE.DataCmp
import KE.KSortTupAny
import KE.KRevSl
import HandS.TupMul
import HandS.TupAny
import HandS.Gcd
import HandS.IsInst
import HandS.TupLe
import HandS.Style
import HandS.Deep
import KE.DataFind
import HandS.Comp
import HandS.Iter
import HandS.Zip
import KE.GoesEnum
import HandS.Flow
import HandS.TryOnly
import HandS.Defaults
import HandS.Head0
import HandS.Head1
import HandS.Head2
import HandS.Head3
import HandS.HeadEnd
import HandS.HeadHook1
import HandS.HeadHook2
import PySem.Challenge.RW_selfkits_k03_whole_reaches
set_option Elab.async false
set_option linter.all false
set_option maxRecDepth 100000
set_option maxHeartbeats 4000000
namespace Vi
open PySem
abbrev D := PyData
inductive Bop where
  | add | sub | mul | fdiv | mod | pow
  deriving DecidableEq
inductive Cop where
  | eq | ne | lt | le | gt | ge | is | isn | isin | nin
  deriving DecidableEq
inductive Ob where
  | lst (xs : List D)
  | dic (kvs : List (D × D))
def Ob.toD : Ob → D
  | .lst xs => .list xs
  | .dic kvs => .dict kvs
inductive Fl where
  | loc | par | lock | plock
  deriving DecidableEq
inductive Sl where
  | non
  | dat (d : D)
  | own (f : Fl) (o : Ob)
abbrev En := List Sl
inductive Rv where
  | dat (d : D)
  | new (o : Ob)
  | ref (i : Nat)
inductive Rs (α : Type) where
  | no
  | ex (c : Nat) (d : D) (ρ : En)
  | ok (a : α) (ρ : En)
abbrev Dum {α : Sort u} (_ : α) : Type := Bool
def Rs.bind {α β : Type} (x : Rs α) (f : α → En → Rs β) (_ : Dum f := true) : Rs β := match x with
  | .no => .no
  | .ex c d ρ => .ex c d ρ
  | .ok a ρ => f a ρ
@[simp] theorem Rs.bind_ok {α β : Type} (a : α) (ρ : En) (f : α → En → Rs β) : (Rs.ok a ρ).bind f = f a ρ := rfl
@[simp] theorem Rs.bind_no {α β : Type} (f : α → En → Rs β) : (Rs.no : Rs α).bind f = .no := rfl
@[simp] theorem Rs.bind_ex {α β : Type} (c : Nat) (d : D) (ρ : En) (f : α → En → Rs β) : (Rs.ex c d ρ : Rs α).bind f = .ex c d ρ := rfl
def lift {α : Type} (o : Option α) (ρ : En) : Rs α := match o with
  | some a => .ok a ρ
  | none => .no
@[simp] theorem lift_some {α : Type} (a : α) (ρ : En) : lift (some a) ρ = .ok a ρ := rfl
@[simp] theorem lift_none {α : Type} (ρ : En) : (lift none ρ : Rs α) = .no := rfl
def Rs.calm {α : Type} (x : Rs α) : Rs α := match x with
  | .ok a ρ => .ok a ρ
  | _ => .no
@[simp] theorem Rs.calm_ok {α : Type} (a : α) (ρ : En) : (Rs.ok a ρ).calm = .ok a ρ := rfl
mutual
def noLst : D → Bool
  | .list _ => false
  | .dict _ => false
  | .tuple xs => noLsts xs
  | _ => true
def noLsts : List D → Bool
  | [] => true
  | x :: xs => noLst x && noLsts xs
end
def Ob.calm : Ob → Bool
  | .lst xs => noLsts xs
  | .dic kvs => kvs.all fun p => noLst p.1 && noLst p.2
def ltS (x y : Str) : Bool := decide (x.cps.toList < y.cps.toList)
mutual
def ltB : D → D → Bool
  | .int i, .int j => decide (i < j)
  | .str x, .str y => ltS x y
  | .tuple xs, .tuple ys => ltBs xs ys
  | _, _ => false
def ltBs : List D → List D → Bool
  | [], [] => false
  | [], _ :: _ => true
  | _ :: _, [] => false
  | x :: xs, y :: ys => if PyData.eqv x y = true then ltBs xs ys else ltB x y
end
mutual
def cmpb : D → D → Bool
  | .int _, .int _ => true
  | .str _, .str _ => true
  | .tuple xs, .tuple ys => cmpbs xs ys
  | _, _ => false
def cmpbs : List D → List D → Bool
  | x :: xs, y :: ys => (PyData.eqv x y || cmpb x y) && cmpbs xs ys
  | _, _ => true
end
def bigOk (i j : Int) : Bool := decide (i.natAbs < 2 ^ 64 ∨ j.natAbs < 2 ^ 64 ∨ i.natAbs.log2 + j.natAbs.log2 < 100000000)
def divOk (j : Int) : Bool := decide (j ≠ 0) && decide (j.natAbs.log2 < 9000)
def powOk (i j : Int) : Bool := decide (0 ≤ j) && decide ((i.natAbs.log2 + 1) * j.toNat ≤ 2 ^ 27)
def lenOk (n : Nat) : Bool := decide (n ≤ 1000000)
def binD : Bop → D → D → Option Rv
  | .add, .int i, .int j => some (.dat (.int (i + j)))
  | .sub, .int i, .int j => some (.dat (.int (i - j)))
  | .mul, .int i, .int j => if bigOk i j then some (.dat (.int (i * j))) else none
  | .fdiv, .int i, .int j => if divOk j then some (.dat (.int (i.fdiv j))) else none
  | .mod, .int i, .int j => if decide (j ≠ 0) then some (.dat (.int (i.fmod j))) else none
  | .pow, .int i, .int j => if powOk i j then some (.dat (.int (i ^ j.toNat))) else none
  | .add, .tuple xs, .tuple ys => if lenOk (xs.length + ys.length) then some (.dat (.tuple (xs ++ ys))) else none
  | .add, .list xs, .list ys => if lenOk (xs.length + ys.length) then some (.new (.lst (xs ++ ys))) else none
  | .mul, .list xs, .int k => if decide (0 ≤ k) && decide (k ≤ 1000) && lenOk (xs.length * 1000) then some (.new (.lst (List.replicate k.toNat xs).flatten)) else none
  | .mul, .tuple xs, .int k => if decide (1 ≤ k) && decide (k ≤ 1000) && decide (xs.length ≤ 1000) then some (.dat (.tuple (List.replicate k.toNat xs).flatten)) else none
  | _, _, _ => none
def truthy : D → Option Bool
  | .none => some false
  | .bool b => some b
  | .int i => some (i != 0)
  | .list xs => some (!xs.isEmpty)
  | .tuple xs => some (!xs.isEmpty)
  | .dict _ => none
  | .str _ => none
mutual
def noDic : D → Bool
  | .list xs => noDics xs
  | .tuple xs => noDics xs
  | .dict _ => false
  | _ => true
def noDics : List D → Bool
  | [] => true
  | x :: xs => noDic x && noDics xs
end
def okD (x : D) : Bool := SeqAt.shaped x && noDic x
mutual
def toKey : D → Option NestedKey
  | .none => some .none
  | .int i => some (.num i)
  | .tuple xs => (toKeys xs).map .tup
  | _ => none
def toKeys : List D → Option (List NestedKey)
  | [] => some []
  | x :: xs => (toKey x).bind fun k => (toKeys xs).map (k :: ·)
end
def keyOk (d : D) : Bool := match d with
  | .tuple _ => (match toKey d with
    | some k => decide (k.depth ≤ 8)
    | none => false)
  | _ => false
def isTupD (d : D) : Bool := match d with
  | .tuple _ => true
  | _ => false
def isIntD (d : D) : Bool := match d with
  | .int _ => true
  | _ => false
def keyK (kvs : List (D × D)) (k : D) : Bool := (keyOk k && kvs.all fun p => isTupD p.1) || (isIntD k && kvs.all fun p => isIntD p.1)
def putKV (kvs : List (D × D)) (k v : D) : List (D × D) := if kvs.any (fun p => PyData.eqv p.1 k) then kvs.map (fun p => if PyData.eqv p.1 k then (p.1, v) else p) else kvs ++ [(k, v)]
def isNon : D → Bool
  | .none => true
  | _ => false
def cmpD : Cop → D → D → Option Bool
  | .eq, x, y => if okD x && okD y then some (PyData.eqv x y) else none
  | .ne, x, y => if okD x && okD y then some (!PyData.eqv x y) else none
  | .lt, .int i, .int j => some (decide (i < j))
  | .le, .int i, .int j => some (decide (i ≤ j))
  | .gt, .int i, .int j => some (decide (j < i))
  | .ge, .int i, .int j => some (decide (j ≤ i))
  | .lt, .tuple xs, .tuple ys => if okD (.tuple xs) && okD (.tuple ys) && cmpbs xs ys then some (ltBs xs ys) else none
  | .is, x, .none => some (isNon x)
  | .isn, x, .none => some (!isNon x)
  | .isin, x, .list ys => if okD x && okD (.list ys) then some (ys.any fun z => PyData.eqv z x) else none
  | .nin, x, .list ys => if okD x && okD (.list ys) then some (!ys.any fun z => PyData.eqv z x) else none
  | .isin, x, .tuple ys => if okD x && okD (.tuple ys) then some (ys.any fun z => PyData.eqv z x) else none
  | .nin, x, .tuple ys => if okD x && okD (.tuple ys) then some (!ys.any fun z => PyData.eqv z x) else none
  | _, _, _ => none
def atD (xs : List D) (i : Int) : Option D := L2.atI xs i
def cutD (xs : List D) (lo hi : Option Int) : List D := (xs.drop (HT.sIx xs.length 0 lo)).take (HT.sIx xs.length xs.length hi - HT.sIx xs.length 0 lo)
def idxD : D → D → Option D
  | .list xs, .int i => atD xs i
  | .tuple xs, .int i => atD xs i
  | _, _ => none
def slcD : D → Option Int → Option Int → Option Rv
  | .list xs, lo, hi => some (.new (.lst (cutD xs lo hi)))
  | .tuple xs, lo, hi => some (.dat (.tuple (cutD xs lo hi)))
  | _, _, _ => none
def revD : D → Option Rv
  | .list xs => some (.new (.lst xs.reverse))
  | .tuple xs => some (.dat (.tuple xs.reverse))
  | _ => none
inductive Ty where
  | int | bool | str | tuple | list
  deriving DecidableEq
def isiD : D → Ty → Bool
  | .int _, .int => true
  | .bool _, .int => true
  | .bool _, .bool => true
  | .str _, .str => true
  | .tuple _, .tuple => true
  | .list _, .list => true
  | _, _ => false
inductive Bi where
  | len | abs | int | max2 | min2 | tuple | list | all | any | max | min | sum | gcd | sorted
  deriving DecidableEq
def boolsD : List D → Option (List Bool)
  | [] => some []
  | .bool b :: r => (boolsD r).map (b :: ·)
  | _ => none
def intsD : List D → Option (List Int)
  | [] => some []
  | .int b :: r => (intsD r).map (b :: ·)
  | _ => none
def mostI : List Int → Option Int
  | [] => none
  | x :: xs => match mostI xs with
    | none => some x
    | some y => some (if y ≤ x then x else y)
def leastI : List Int → Option Int
  | [] => none
  | x :: xs => match leastI xs with
    | none => some x
    | some y => some (if x ≤ y then x else y)
def tupB : D → Bool
  | .tuple (_ :: _) => true
  | _ => false
def ntupB : D → Bool
  | .tuple _ => false
  | .none => false
  | _ => true
def sortOk (xs : List D) : Bool := lenOk xs.length && (xs.all fun a => xs.all fun b => PySem.W.alike a b) && (xs.all tupB || xs.all ntupB) && xs.all okD
def sortD (xs : List D) : List D := xs.mergeSort fun a b => !PySem.W.dataLt b a
def dedup : List D → List D
  | [] => []
  | x :: xs => if (dedup xs).any (fun y => PyData.eqv y x) then dedup xs else x :: dedup xs
def setOk (xs : List D) : Bool := decide (xs.length < 64) && xs.all keyOk && (xs.all fun a => xs.all fun b => PySem.W.alike a b) && sortOk (dedup xs)
def ssetD (xs : List D) : List D := sortD (dedup xs)
def biD : Bi → List D → Option Rv
  | .len, [.list xs] => some (.dat (.int xs.length))
  | .len, [.tuple xs] => some (.dat (.int xs.length))
  | .abs, [.int i] => some (.dat (.int (if i < 0 then -i else i)))
  | .int, [.int i] => some (.dat (.int i))
  | .int, [.bool b] => some (.dat (.int (if b then 1 else 0)))
  | .max2, [.int i, .int j] => some (.dat (.int (if j > i then j else i)))
  | .min2, [.int i, .int j] => some (.dat (.int (if j < i then j else i)))
  | .tuple, [.list xs] => some (.dat (.tuple xs))
  | .tuple, [.tuple xs] => some (.dat (.tuple xs))
  | .list, [.list xs] => some (.new (.lst xs))
  | .list, [.tuple xs] => some (.new (.lst xs))
  | .all, [.list xs] => (boolsD xs).map fun bs => .dat (.bool (bs.all id))
  | .any, [.list xs] => (boolsD xs).map fun bs => .dat (.bool (bs.any id))
  | .sorted, [.list xs] => if sortOk xs then some (.new (.lst (sortD xs))) else none
  | .sorted, [.dict kvs] => if sortOk (kvs.map (·.1)) then some (.new (.lst (sortD (kvs.map (·.1))))) else none
  | .gcd, [.int i, .int j] => some (.dat (.int (Nat.gcd i.natAbs j.natAbs : Nat)))
  | .max, [.list xs] => (intsD xs).bind fun ns => (mostI ns).map fun m => .dat (.int m)
  | .min, [.list xs] => (intsD xs).bind fun ns => (leastI ns).map fun m => .dat (.int m)
  | .sum, [.list xs] => (intsD xs).map fun ns => .dat (.int ns.sum)
  | _, _ => none
inductive Mt where
  | count | index
  deriving DecidableEq
def mtOk : Mt → D → Bool
  | .count, .tuple _ => true
  | .index, .list _ => true
  | _, _ => false
def mtD : Mt → D → List D → Option Rv
  | .count, .tuple xs, [x] => if okD x && okD (.tuple xs) then some (.dat (.int (xs.countP fun z => PyData.eqv z x))) else none
  | .index, .list xs, [x] => if okD x && okD (.list xs) then (xs.findIdx? fun z => PyData.eqv z x).map fun (j : Nat) => .dat (.int (j : Int)) else none
  | _, _, _ => none
inductive Tg where
  | nm (i : Nat)
  | tp (ts : List Tg)
mutual
inductive Tm where
  | var (i : Nat)
  | con (d : D)
  | glo (j : Nat)
  | bin (op : Bop) (a b : Tm)
  | neg (a : Tm)
  | not (a : Tm)
  | and (a b : Tm)
  | or (a b : Tm)
  | ite (c a b : Tm)
  | cmp (op : Cop) (a b : Tm)
  | chn (o1 o2 : Cop) (a b c : Tm)
  | call (f : Nat) (as : List Tm)
  | callk (f : Nat) (n : Nat) (perm : List Nat) (as bs : List Tm)
  | call1 (f : Nat) (a : Tm)
  | bi (b : Bi) (as : List Tm)
  | isi (a : Tm) (ts : List Ty)
  | mth (m : Mt) (a : Tm) (as : List Tm)
  | app (i : Nat) (a : Tm)
  | ext (i : Nat) (a : Tm)
  | rvs (i : Nat)
  | idx (a i : Tm)
  | slc (a : Tm) (lo hi : Option Tm)
  | rev (a : Tm)
  | sset (a : Tm)
  | tup (as : List Tm)
  | lst (as : List Tm)
  | dct
  | dct1 (k v : Tm)
  | lc (it : It) (tg : Tg) (ow : List Nat) (c : Option Tm) (e : Tm)
  | lc2 (it : It) (tg : Tg) (c0 : Option Tm) (it1 : It) (tg1 : Tg) (ow ow1 : List Nat) (c : Option Tm) (e : Tm)
  | bot
inductive It where
  | rng1 (a : Tm)
  | rng2 (a b : Tm)
  | seq (a : Tm)
  | zip (a b : Tm)
  | enum (a : Tm)
end
inductive Sm where
  | asg (t : Tg) (e : Tm)
  | par (is : List Nat) (as : List Tm)
  | sub (x : Nat) (k e : Tm)
  | exp (e : Tm)
  | ret (e : Tm)
  | retn
  | iff (c : Tm) (a b : List Sm)
  | for (it : It) (tg : Tg) (b : List Sm)
  | whl (c : Tm) (b : List Sm)
  | brk
  | cnt
  | pas
  | rse (c : Nat) (e : Tm)
  | nev
structure Fn where
  np : Nat
  chg : List Nat
  sem : En → Rs Rv
structure Cn where
  fns : List Fn
  gls : List D
  fuel : Nat
def cnt (ρ : En) : Rv → Option D
  | .dat d => some d
  | .new o => some o.toD
  | .ref i => match ρ[i]? with
    | some (.own _ o) => some o.toD
    | _ => none
def cnts (ρ : En) : List Rv → Option (List D)
  | [] => some []
  | r :: rs => match cnt ρ r with
    | some d => (cnts ρ rs).map (d :: ·)
    | none => none
def esc (r : Rv) (ρ : En) : Rs D := match r with
  | .dat d => .ok d ρ
  | .new o => .ok o.toD ρ
  | .ref i => match ρ[i]? with
    | some (.own .loc o) => .ok o.toD (ρ.set i (.dat o.toD))
    | _ => .no
def free : Option Sl → Bool
  | some .non => true
  | some (.dat _) => true
  | some (.own .loc _) => true
  | _ => false
def sto (i : Nat) (s : Sl) (ρ : En) : Rs Unit := if free ρ[i]? then .ok () (ρ.set i s) else .no
mutual
def letD (t : Tg) (d : D) (ρ : En) : Rs Unit := match t with
  | .nm i => sto i (.dat d) ρ
  | .tp ts => match d with
    | .tuple ds => letDs ts ds ρ
    | .list ds => letDs ts ds ρ
    | _ => .no
termination_by structural t
def letDs (ts : List Tg) (ds : List D) (ρ : En) : Rs Unit := match ts with
  | [] => match ds with
    | [] => .ok () ρ
    | _ => .no
  | t :: ts => match ds with
    | d :: ds => (letD t d ρ).bind fun _ ρ => letDs ts ds ρ
    | [] => .no
termination_by structural ts
end
def letR (t : Tg) (r : Rv) (ρ : En) : Rs Unit := match t with
  | .nm i => (match r with
    | .new o => sto i (.own .loc o) ρ
    | .dat d => sto i (.dat d) ρ
    | .ref j => (esc (.ref j) ρ).bind fun d ρ => sto i (.dat d) ρ)
  | .tp ts => (esc r ρ).bind fun d ρ => letD (.tp ts) d ρ
def frz : List Rv → En → Option En
  | [], ρ => some ρ
  | .ref i :: rs, ρ => match ρ[i]? with
    | some (.own .loc o) => frz rs (ρ.set i (.dat o.toD))
    | some (.own _ _) => none
    | _ => frz rs ρ
  | _ :: rs, ρ => frz rs ρ
def Rv.calm : Rv → Bool
  | .dat d => noLst d
  | .new o => o.calm
  | .ref _ => false
def argSl (ρ : En) (chg : List Nat) : Nat → List Rv → Option En
  | _, [] => some []
  | k, r :: rs => (if chg.contains k then (match r with
      | .ref i => (match ρ[i]? with
        | some (.own .loc o) => some (Sl.own .par o)
        | some (.own .par o) => some (Sl.own .par o)
        | _ => none)
      | _ => none) else (cnt ρ r).map Sl.dat).bind fun s => (argSl ρ chg (k + 1) rs).map (s :: ·)
def putBack (chg : List Nat) : Nat → List Rv → List Sl → En → Option En
  | _, [], _, ρ => some ρ
  | k, r :: rs, s :: ss, ρ => if chg.contains k then (match r, s with
      | .ref i, .own _ o => (match ρ[i]? with
        | some (.own f _) => putBack chg (k + 1) rs ss (ρ.set i (.own f o))
        | _ => none)
      | _, _ => none) else putBack chg (k + 1) rs ss ρ
  | _, _ :: _, [], _ => none
def lookOnly (chg : List Nat) : Nat → List Rv → List Rv
  | _, [] => []
  | k, r :: rs => if chg.contains k then lookOnly chg (k + 1) rs else r :: lookOnly chg (k + 1) rs
def sameRef : Option Rv → Option Rv → Bool
  | some (.ref i), some (.ref j) => i == j
  | _, _ => false
def apart (chg : List Nat) (rs : List Rv) : Bool := chg.isEmpty ||
  (List.range rs.length).all fun j => (List.range rs.length).all fun k => j == k || !sameRef rs[j]? rs[k]? || (!chg.contains j && !chg.contains k)
def Rv.isRef : Rv → Bool
  | .ref _ => true
  | _ => false
def Sl.calm : Sl → Bool
  | .own _ o => o.calm
  | _ => true
def doCall (f : Fn) (rs : List Rv) (ρ : En) : Rs Rv :=
  if decide (rs.length = f.np) && apart f.chg rs then
    match argSl ρ f.chg 0 rs with
    | none => .no
    | some as => match f.sem as with
      | .no => .no
      | .ex c d outs => match putBack f.chg 0 rs outs ρ with
        | some ρ1 => if noLst d && outs.all Sl.calm then .ex c d ρ1 else (match frz (lookOnly f.chg 0 rs) ρ1 with
          | some ρ2 => .ex c d ρ2
          | none => .no)
        | none => .no
      | .ok r outs => if r.isRef then .no else match putBack f.chg 0 rs outs ρ with
        | some ρ1 => if r.calm && outs.all Sl.calm then .ok r ρ1 else (match frz (lookOnly f.chg 0 rs) ρ1 with
          | some ρ2 => .ok r ρ2
          | none => .no)
        | none => .no
  else .no
def call1 (fn : Fn) (o : Ob) (ρ : En) : Rs Rv := match doCall fn [.ref ρ.length] (ρ ++ [.own .loc o]) with
  | .ok r ρ' => if r.isRef then .no else .ok r ρ'.dropLast
  | _ => .no
def permV {α : Type} (n : Nat) (perm : List Nat) (l : List α) : List α := (List.range n).filterMap fun j => (perm.idxOf? j).bind fun k => l[k]?
def permute (n : Nat) (perm : List Nat) (rs : List Rv) : Option (List Rv) := if (permV n perm rs).length = n then some (permV n perm rs) else none
def nrm (r : Rv) (ρ : En) : Rs Rv := match r with
  | .ref i => (esc (.ref i) ρ).bind fun d ρ => .ok (.dat d) ρ
  | .dat d => .ok (.dat d) ρ
  | .new o => .ok (.new o) ρ
def unlockAt (i : Nat) (ρ : En) : En := match ρ[i]? with
  | some (.own .lock o) => ρ.set i (.own .loc o)
  | some (.own .plock o) => ρ.set i (.own .par o)
  | _ => ρ
def seqItems : D → Option (List D)
  | .list xs => some xs
  | .tuple xs => some xs
  | _ => none
def zipD (xs ys : List D) : List D := (xs.zip ys).map fun p => .tuple [p.1, p.2]
def enumD (xs : List D) : List D := zipD ((List.range xs.length).map fun k => PyData.int (k : Nat)) xs
def rngD (lo hi : Int) : Option (List D) :=
  if lo.natAbs.ble 4611686018427387903 && hi.natAbs.ble 4611686018427387903 then some ((List.range (hi - lo).toNat).map fun k => PyData.int (lo + (k : Nat))) else none
def wipeE (ρ : En) : List Nat → En
  | [] => ρ
  | i :: r => (wipeE ρ r).set i .non
def backE (ρ0 : En) : List Nat → En → En
  | [], ρ => ρ
  | i :: r, ρ => (backE ρ0 r ρ).set i (ρ0.getD i .non)
def plainAt (ρ : En) (ow : List Nat) : Bool := ow.all fun i => match ρ[i]? with
  | some (.own _ _) => false
  | some _ => true
  | none => false
inductive Ctl where
  | nx | bk | ct
  | rt (r : Rv)
abbrev Lk := Option (Nat × Bool × Bool)
def lkOk : Lk → En → Bool
  | none, _ => true
  | some (i, pr, _), ρ => match ρ[i]? with
    | some (.own .lock _) => !pr
    | some (.own .plock _) => pr
    | _ => false
def unl : Lk → En → En
  | some (i, _, true), ρ => unlockAt i ρ
  | _, ρ => ρ
def fin (k : Lk) (x : Rs Ctl) : Rs Ctl := match x with
  | .no => .no
  | .ok c ρ => if lkOk k ρ then .ok c (unl k ρ) else .no
  | .ex c d ρ => if lkOk k ρ then .ex c d (unl k ρ) else .no
def forL (k : Lk) (f : D → En → Rs Ctl) (xs : List D) (ρ : En) (_ : Dum f := true) : Rs Ctl := match xs with
  | [] => .ok .nx ρ
  | x :: xs => if lkOk k ρ then (f x ρ).bind fun c ρ => match c with
    | .nx => forL k f xs ρ
    | .ct => forL k f xs ρ
    | .bk => .ok .nx ρ
    | .rt r => .ok (.rt r) ρ
    else .no
def lcL (k : Lk) (f : D → En → Rs (Option D)) (xs : List D) (ρ : En) (_ : Dum f := true) : Rs (List D) := match xs with
  | [] => .ok [] ρ
  | x :: xs => if lkOk k ρ then (f x ρ).bind fun o ρ => (lcL k f xs ρ).bind fun r ρ => .ok (match o with
    | some y => y :: r
    | none => r) ρ
    else .no
def lc2L (k : Lk) (f : D → En → Rs (List D)) (xs : List D) (ρ : En) (_ : Dum f := true) : Rs (List D) := match xs with
  | [] => .ok [] ρ
  | x :: xs => if lkOk k ρ then (f x ρ).bind fun o ρ => (lc2L k f xs ρ).bind fun r ρ => .ok (o ++ r) ρ
    else .no
def whL (c : En → Rs Bool) (f : En → Rs Ctl) (n : Nat) (ρ : En) (_ : Dum c := true) (_ : Dum f := true) : Rs Ctl := match n with
  | 0 => .no
  | n + 1 => (c ρ).bind fun b ρ => if b then (f ρ).bind (fun k ρ => match k with
      | .nx => whL c f n ρ
      | .ct => whL c f n ρ
      | .bk => .ok .nx ρ
      | .rt r => .ok (.rt r) ρ) else .ok .nx ρ
def retR (r : Rv) (ρ : En) : Rs Ctl := match r with
  | .dat d => .ok (.rt (.dat d)) ρ
  | .new o => .ok (.rt (.new o)) ρ
  | .ref i => match ρ[i]? with
    | some (.own .loc o) => .ok (.rt (.new o)) (ρ.set i .non)
    | _ => .no
def intOf : D → Option Int
  | .int i => some i
  | _ => none
def putD : D → D → D → Option Ob
  | .list xs, .int i, v => (L2.ixN xs.length i).map fun j => .lst (xs.set j v)
  | .dict kvs, k, v => if keyK kvs k && lenOk kvs.length then some (.dic (putKV kvs k v)) else none
  | _, _, _ => none
def subS (x : Nat) (dk v : D) (ρ : En) : Rs Ctl := match ρ[x]? with
  | some (.own .loc o) => (match putD o.toD dk v with
    | some o' => .ok .nx (ρ.set x (.own .loc o'))
    | none => .no)
  | some (.own .par o) => (match putD o.toD dk v with
    | some o' => .ok .nx (ρ.set x (.own .par o'))
    | none => .no)
  | _ => .no
variable (Γ : Cn)
mutual
def evR : Tm → En → Rs Rv
  | .var i, ρ => match ρ[i]? with
    | some (.dat d) => .ok (.dat d) ρ
    | some (.own _ _) => .ok (.ref i) ρ
    | _ => .no
  | .con d, ρ => .ok (.dat d) ρ
  | .glo j, ρ => lift ((Γ.gls[j]?).map Rv.dat) ρ
  | .bin op a b, ρ => (evR a ρ).bind fun x ρ => (evR b ρ).bind fun y ρ => match cnt ρ x, cnt ρ y with
    | some dx, some dy => lift (binD op dx dy) ρ
    | _, _ => .no
  | .neg a, ρ => (evR a ρ).bind fun x ρ => match x with
    | .dat (.int i) => .ok (.dat (.int (-i))) ρ
    | _ => .no
  | .not a, ρ => (evR a ρ).bind fun x ρ => match cnt ρ x with
    | some d => lift ((truthy d).map fun b => .dat (.bool (!b))) ρ
    | none => .no
  | .and a b, ρ => (evR a ρ).bind fun x ρ => match x with
    | .dat (.bool true) => evR b ρ
    | .dat (.bool false) => .ok (.dat (.bool false)) ρ
    | _ => .no
  | .or a b, ρ => (evR a ρ).bind fun x ρ => match x with
    | .dat (.bool false) => evR b ρ
    | .dat (.bool true) => .ok (.dat (.bool true)) ρ
    | _ => .no
  | .ite c a b, ρ => (evT c ρ).bind fun k ρ => if k then evR a ρ else evR b ρ
  | .cmp op a b, ρ => (evR a ρ).bind fun x ρ => (evR b ρ).bind fun y ρ => match cnt ρ x, cnt ρ y with
    | some dx, some dy => lift ((cmpD op dx dy).map fun k => .dat (.bool k)) ρ
    | _, _ => .no
  | .chn o1 o2 a b c, ρ => (evR a ρ).bind fun x ρ => (evR b ρ).bind fun y ρ => match x, y with
    | .dat dx, .dat dy => (match cmpD o1 dx dy with
      | some true => (evR c ρ).bind fun z ρ => match z with
        | .dat dz => lift ((cmpD o2 dy dz).map fun k => .dat (.bool k)) ρ
        | _ => .no
      | some false => .ok (.dat (.bool false)) ρ
      | none => .no)
    | _, _ => .no
  | .call f as, ρ => match Γ.fns[f]? with
    | some fn => (evAs as ρ).bind fun rs ρ => doCall fn rs ρ
    | none => .no
  | .callk f n perm as bs, ρ => match Γ.fns[f]? with
    | some fn => (evAs as ρ).bind fun rs ρ => (evAs bs ρ).bind fun ss ρ => match permute n perm (rs ++ ss) with
      | some rs => doCall fn rs ρ
      | none => .no
    | none => .no
  | .call1 f a, ρ => match Γ.fns[f]? with
    | some fn => (evR a ρ).bind fun x ρ => match x with
      | .new o => call1 fn o ρ
      | _ => .no
    | none => .no
  | .bi b as, ρ => (evAs as ρ).bind fun rs ρ => match cnts ρ rs with
    | some ds => lift (biD b ds) ρ
    | none => .no
  | .isi a ts, ρ => (evR a ρ).bind fun x ρ => match cnt ρ x with
    | some d => .ok (.dat (.bool (ts.any (isiD d)))) ρ
    | none => .no
  | .mth m a as, ρ => (evR a ρ).bind fun x ρ => match cnt ρ x with
    | some d => if mtOk m d then (evAs as ρ).bind fun rs ρ => match cnt ρ x, cnts ρ rs with
      | some d, some ds => lift (mtD m d ds) ρ
      | _, _ => .no
      else .no
    | none => .no
  | .app i a, ρ => match ρ[i]? with
    | some (.own _ (.lst _)) => (evR a ρ).bind fun x ρ => (esc x ρ).bind fun d ρ => match ρ[i]? with
      | some (.own .loc (.lst xs)) => if lenOk xs.length then .ok (.dat .none) (ρ.set i (.own .loc (.lst (xs ++ [d])))) else .no
      | some (.own .par (.lst xs)) => if lenOk xs.length then .ok (.dat .none) (ρ.set i (.own .par (.lst (xs ++ [d])))) else .no
      | _ => .no
    | _ => .no
  | .ext i a, ρ => match ρ[i]? with
    | some (.own _ (.lst _)) => (evR a ρ).bind fun x ρ => match x with
      | .new (.lst ys) => (match ρ[i]? with
        | some (.own .loc (.lst xs)) => if lenOk (xs.length + ys.length) then .ok (.dat .none) (ρ.set i (.own .loc (.lst (xs ++ ys)))) else .no
        | some (.own .par (.lst xs)) => if lenOk (xs.length + ys.length) then .ok (.dat .none) (ρ.set i (.own .par (.lst (xs ++ ys)))) else .no
        | _ => .no)
      | _ => .no
    | _ => .no
  | .rvs i, ρ => match ρ[i]? with
    | some (.own .loc (.lst xs)) => .ok (.dat .none) (ρ.set i (.own .loc (.lst xs.reverse)))
    | some (.own .par (.lst xs)) => .ok (.dat .none) (ρ.set i (.own .par (.lst xs.reverse)))
    | _ => .no
  | .idx a i, ρ => (evR a ρ).bind fun x ρ => (evR i ρ).bind fun y ρ => match cnt ρ x, cnt ρ y with
    | some dx, some dy => lift ((idxD dx dy).map Rv.dat) ρ
    | _, _ => .no
  | .slc a lo hi, ρ => (evR a ρ).bind fun x ρ => (evO lo ρ).bind fun l ρ => (evO hi ρ).bind fun h ρ => match cnt ρ x with
    | some dx => lift (slcD dx l h) ρ
    | none => .no
  | .rev a, ρ => (evR a ρ).bind fun x ρ => match cnt ρ x with
    | some dx => lift (revD dx) ρ
    | none => .no
  | .sset a, ρ => (evR a ρ).bind fun x ρ => match cnt ρ x with
    | some (.list xs) => if setOk xs then .ok (.new (.lst (ssetD xs))) ρ else .no
    | _ => .no
  | .tup as, ρ => (evDs as ρ).bind fun ds ρ => if lenOk ds.length then .ok (.dat (.tuple ds)) ρ else .no
  | .lst as, ρ => (evDs as ρ).bind fun ds ρ => if lenOk ds.length then .ok (.new (.lst ds)) ρ else .no
  | .dct, ρ => .ok (.new (.dic [])) ρ
  | .dct1 k v, ρ => ((evR k ρ).bind fun r ρ => (esc r ρ).bind fun dk ρ => (evR v ρ).bind fun r ρ => (esc r ρ).bind fun dv ρ => if keyK [] dk then .ok (.new (.dic [(dk, dv)])) ρ else .no).calm
  | .lc it tg ow c e, ρ => (evIt it ρ).bind fun p ρ =>
    if plainAt ρ ow && lenOk p.1.length then
      ((lcL p.2 (fun x ρ1 => ((letD tg x ρ1).bind fun _ ρ1 => (evC c ρ1).bind fun k ρ1 => if k then (evR e ρ1).bind fun r ρ1 => (esc r ρ1).bind fun d ρ1 => .ok (some d) (wipeE ρ1 ow) else .ok none (wipeE ρ1 ow)).calm) p.1 (wipeE ρ ow))).bind fun ds ρ1 =>
        if lkOk p.2 (backE ρ ow ρ1) then .ok (.new (.lst ds)) (unl p.2 (backE ρ ow ρ1)) else .no
    else .no
  | .lc2 it tg c0 it1 tg1 ow ow1 c e, ρ => (evIt it ρ).bind fun p ρ =>
    if plainAt ρ ow && lenOk p.1.length then
      (lc2L p.2 (fun x ρ1 => ((letD tg x ρ1).bind fun _ ρ1 => (evC c0 ρ1).bind fun k ρ1 => if k then (evIt it1 ρ1).bind fun p1 ρ1 =>
        (lcL p1.2 (fun x ρ2 => ((letD tg1 x ρ2).bind fun _ ρ2 => (evC c ρ2).bind fun k ρ2 => if k then (evR e ρ2).bind fun r ρ2 => (esc r ρ2).bind fun d ρ2 => .ok (some d) (wipeE ρ2 ow1) else .ok none (wipeE ρ2 ow1)).calm) p1.1 (wipeE ρ1 ow1)).bind fun ds ρ2 => if lkOk p1.2 ρ2 then .ok ds (wipeE (unl p1.2 ρ2) ow) else .no
        else .ok [] (wipeE ρ1 ow)).calm) p.1 (wipeE ρ ow)).bind fun ds ρ1 =>
        if lkOk p.2 (backE ρ ow ρ1) && lenOk ds.length then .ok (.new (.lst ds)) (unl p.2 (backE ρ ow ρ1)) else .no
    else .no
  | .bot, _ => .no
def evT : Tm → En → Rs Bool
  | .not a, ρ => (evT a ρ).bind fun b ρ => .ok (!b) ρ
  | .and a b, ρ => (evT a ρ).bind fun k ρ => if k then evT b ρ else .ok false ρ
  | .or a b, ρ => (evT a ρ).bind fun k ρ => if k then .ok true ρ else evT b ρ
  | .ite c a b, ρ => (evT c ρ).bind fun k ρ => if k then evT a ρ else evT b ρ
  | e, ρ => (evR e ρ).bind fun x ρ => match cnt ρ x with
    | some d => lift (truthy d) ρ
    | none => .no
def evC : Option Tm → En → Rs Bool
  | none, ρ => .ok true ρ
  | some c, ρ => evT c ρ
def evO : Option Tm → En → Rs (Option Int)
  | none, ρ => .ok none ρ
  | some a, ρ => (evR a ρ).bind fun x ρ => match x with
    | .dat (.int i) => .ok (some i) ρ
    | _ => .no
def evAs : List Tm → En → Rs (List Rv)
  | [], ρ => .ok [] ρ
  | a :: as, ρ => (evR a ρ).bind fun r ρ => (evAs as ρ).bind fun rs ρ => .ok (r :: rs) ρ
def evDs : List Tm → En → Rs (List D)
  | [], ρ => .ok [] ρ
  | a :: as, ρ => (evR a ρ).bind fun r ρ => (esc r ρ).bind fun d ρ => (evDs as ρ).bind fun ds ρ => .ok (d :: ds) ρ
def evIt : It → En → Rs (List D × Lk)
  | .rng1 a, ρ => (evR a ρ).bind fun x ρ => match x with
    | .dat (.int n) => lift ((rngD 0 n).map fun l => (l, none)) ρ
    | _ => .no
  | .rng2 a b, ρ => (evR a ρ).bind fun x ρ => (evR b ρ).bind fun y ρ => match x, y with
    | .dat (.int m), .dat (.int n) => lift ((rngD m n).map fun l => (l, none)) ρ
    | _, _ => .no
  | .seq a, ρ => (evR a ρ).bind fun x ρ => match x with
    | .dat d => lift ((seqItems d).map fun l => (l, none)) ρ
    | .new o => lift ((seqItems o.toD).map fun l => (l, none)) ρ
    | .ref i => (match ρ[i]? with
      | some (.own .loc (.lst l)) => .ok (l, some (i, false, true)) (ρ.set i (.own .lock (.lst l)))
      | some (.own .par (.lst l)) => .ok (l, some (i, true, true)) (ρ.set i (.own .plock (.lst l)))
      | some (.own .lock (.lst l)) => .ok (l, some (i, false, false)) ρ
      | some (.own .plock (.lst l)) => .ok (l, some (i, true, false)) ρ
      | _ => .no)
  | .zip a b, ρ => (evR a ρ).bind fun x ρ => (evR b ρ).bind fun y ρ => match x, y with
    | .dat (.tuple xs), .dat (.tuple ys) => .ok (zipD xs ys, none) ρ
    | .dat (.list xs), .dat (.list ys) => .ok (zipD xs ys, none) ρ
    | _, _ => .no
  | .enum a, ρ => (evR a ρ).bind fun x ρ => match x with
    | .dat (.tuple xs) => .ok (enumD xs, none) ρ
    | .dat (.list xs) => .ok (enumD xs, none) ρ
    | .new (.lst xs) => .ok (enumD xs, none) ρ
    | _ => .no
end
def evPs : List Tm → En → Rs (List Rv)
  | [], ρ => .ok [] ρ
  | a :: as, ρ => (evR Γ a ρ).bind fun x ρ => (nrm x ρ).bind fun x ρ => (evPs as ρ).bind fun xs ρ => .ok (x :: xs) ρ
def letRs : List Nat → List Rv → En → Rs Unit
  | [], [], ρ => .ok () ρ
  | i :: is, x :: xs, ρ => (letRs is xs ρ).bind fun _ ρ => letR (.nm i) x ρ
  | _, _, _ => .no
mutual
def evS : Sm → En → Rs Ctl
  | .asg t e, ρ => (evR Γ e ρ).bind fun r ρ => (letR t r ρ).bind fun _ ρ => .ok .nx ρ
  | .par is as, ρ => (evPs Γ as ρ).bind fun xs ρ => (letRs is xs ρ).bind fun _ ρ => .ok .nx ρ
  | .sub x k e, ρ => (evR Γ e ρ).bind fun r ρ => (esc r ρ).bind fun v ρ => match ρ[x]? with
    | some (.own _ _) => (evR Γ k ρ).bind fun y ρ => (esc y ρ).bind fun dk ρ => subS x dk v ρ
    | _ => .no
  | .exp e, ρ => (evR Γ e ρ).bind fun _ ρ => .ok .nx ρ
  | .ret e, ρ => (evR Γ e ρ).bind fun r ρ => retR r ρ
  | .retn, ρ => .ok (.rt (.dat .none)) ρ
  | .iff c a b, ρ => (evT Γ c ρ).bind fun k ρ => if k then evB a ρ else evB b ρ
  | .for it tg b, ρ => (evIt Γ it ρ).bind fun p ρ => fin p.2 (forL p.2 (fun x ρ => (letD tg x ρ).bind fun _ ρ => evB b ρ) p.1 ρ)
  | .whl c b, ρ => whL (fun ρ => evT Γ c ρ) (fun ρ => evB b ρ) Γ.fuel ρ
  | .brk, ρ => .ok .bk ρ
  | .cnt, ρ => .ok .ct ρ
  | .pas, ρ => .ok .nx ρ
  | .rse c e, ρ => (evR Γ e ρ).bind fun r ρ => (esc r ρ).bind fun d ρ => .ex c d ρ
  | .nev, _ => .no
def evB : List Sm → En → Rs Ctl
  | [], ρ => .ok .nx ρ
  | s :: r, ρ => (evS s ρ).bind fun c ρ => match c with
    | .nx => evB r ρ
    | c => .ok c ρ
end
def outs : En → En → Option En
  | [], _ => some []
  | .own .par _ :: as, .own .par o :: ρ => (outs as ρ).map (.own .par o :: ·)
  | .own _ _ :: _, _ => none
  | .dat d :: as, _ :: ρ => (outs as ρ).map (.dat d :: ·)
  | .non :: as, _ :: ρ => (outs as ρ).map (.non :: ·)
  | _ :: _, [] => none
def runF (n : Nat) (body : List Sm) (as : En) : Rs Rv := match evB Γ body (as ++ List.replicate (n - as.length) .non) with
  | .ok (.rt r) ρ => (match outs as ρ with
    | some os => if r.isRef then .no else .ok r os
    | none => .no)
  | .ok .nx ρ => (match outs as ρ with
    | some os => .ok (.dat .none) os
    | none => .no)
  | .ex c d ρ => (match outs as ρ with
    | some os => .ex c d os
    | none => .no)
  | _ => .no
structure Df where
  x : Str
  ps : List Str
  N : List Str
  chg : List Nat
  body : List Sm
def Fns (gls : List D) (fuel : Nat) (ds : List Df) : Nat → List Fn
  | 0 => ds.map fun d => ⟨d.ps.length, d.chg, fun _ => .no⟩
  | n + 1 => ds.map fun d => ⟨d.ps.length, d.chg, runF ⟨Fns gls fuel ds n, gls, fuel⟩ d.N.length d.body⟩
end Vi
set_option maxHeartbeats 4000000
namespace Vi
open PySem L2
def TupF (K : PySem.W.Frag) (G : Hp) (a : Addr) (xs : List V) : Prop := (∃ o, G a = some (.frz o (.tup xs)) ∧ o.dict = none) ∨
  ∃ (o : Obj) (its : Array Value) (n : Nat), K.lookup a = some o ∧ o.cls = .type "tuple" ∧ o.data = .seq its n ∧ its.size ≤ sizeLine ∧ Vals xs its.toList ∧ o.dict = none
theorem TupF.sq {K : PySem.W.Frag} {G : Hp} {a : Addr} {xs : List V} (h : TupF K G a xs) : SqT K G a xs := by
  rcases h with ⟨o, h, _⟩ | ⟨o, its, n, h1, h2, h3, h4, h5, _⟩
  · exact .inl (.inr ⟨o, h⟩)
  · exact .inr ⟨o, its, n, h1, h2, h3, h4, h5⟩
theorem TupF.mono {K : PySem.W.Frag} {G G' : Hp} {a : Addr} {xs : List V} (e : Same G G') (h : TupF K G a xs) : TupF K G' a xs := by
  rcases h with ⟨o, h, d⟩ | h
  · exact .inl ⟨o, e _ _ h, d⟩
  · exact .inr h
theorem TupF.new {K : PySem.W.Frag} {G : Hp} {a : Addr} {xs : List V} {o : Obj} (h : o.dict = none) : TupF K (upd G a (.frz o (.tup xs))) a xs := .inl ⟨o, upd_same, h⟩
theorem sqL_mono {K : PySem.W.Frag} {G G' : Hp} {a : Addr} {xs : List V} (e : Same G G') (h : SqL K G a xs) : SqL K G' a xs := by
  rcases h with (h | ⟨o, h⟩) | h
  · exact .inl (.inl (e _ _ h))
  · exact .inl (.inr ⟨o, e _ _ h⟩)
  · exact .inr h
mutual
def plainKey : NestedKey → Bool
  | .text _ => false
  | .tup ks => plainKeys ks
  | _ => true
def plainKeys : List NestedKey → Bool
  | [] => true
  | k :: ks => plainKey k && plainKeys ks
end
abbrev Ent := NestedKey × V × V
def RawDic (h : Heap) (a : Addr) (ys : List Ent) : Prop :=
  ys.length ≤ sizeLine ∧ (a == sysModules) = false ∧ (ys.map (·.1)).Nodup ∧ ∃ (w : World) (o : Obj) (es : Array DictEntry) (ep : Nat), h.get? a = some o ∧ o.ExactDict ∧ o.data = .dict es ep ∧
    Paired (fun (y : Ent) (e : DictEntry) => e.hash = y.1.hash w ∧ RelV y.2.1 e.key ∧ RelV y.2.2 e.val) ys es.toList
def DictNO (a : Addr) (ys : List Ent) : HO := .ext fun h => RawDic h a ys
def kOk (k : NestedKey) : Bool := plainKey k && decide (k.depth ≤ 8)
mutual
inductive Dat (K : PySem.W.Frag) (G : Hp) : V → D → Prop
  | non : Dat K G .non .none
  | bl (b : Bool) : Dat K G (.bl b) (.bool b)
  | int (i : Int) : Dat K G (.int i) (.int i)
  | str (x : Str) : Dat K G (.str x) (.str x)
  | lst {a : Addr} {xs : List V} {ds : List D} : SqL K G a xs → Dats K G xs ds → Dat K G (.ref a) (.list ds)
  | tup {a : Addr} {xs : List V} {ds : List D} : TupF K G a xs → Dats K G xs ds → Dat K G (.ref a) (.tuple ds)
  | dic {a : Addr} {ys : List Ent} {kvs : List (D × D)} : G a = some (DictNO a ys) → DatKs K G ys kvs → Dat K G (.ref a) (.dict kvs)
inductive Dats (K : PySem.W.Frag) (G : Hp) : List V → List D → Prop
  | nil : Dats K G [] []
  | cons {v : V} {vs : List V} {d : D} {ds : List D} : Dat K G v d → Dats K G vs ds → Dats K G (v :: vs) (d :: ds)
inductive DatKs (K : PySem.W.Frag) (G : Hp) : List Ent → List (D × D) → Prop
  | nil : DatKs K G [] []
  | cons {k : NestedKey} {b v : V} {d : D} {ys : List Ent} {kvs : List (D × D)} : kOk k = true → Dat K G b k.data → Dat K G v d → DatKs K G ys kvs → DatKs K G ((k, b, v) :: ys) ((k.data, d) :: kvs)
end
section
variable {K : PySem.W.Frag} {G G' H H' : Hp}
theorem Dats.length : ∀ {vs : List V} {ds : List D}, Dats K G vs ds → vs.length = ds.length
  | _, _, .nil => rfl
  | _, _, .cons _ t => by simp [Dats.length t]
mutual
theorem Dat.mono (e : Same G G') : ∀ {v : V} {d : D}, Dat K G v d → Dat K G' v d
  | _, _, .non => .non
  | _, _, .bl b => .bl b
  | _, _, .int i => .int i
  | _, _, .str x => .str x
  | _, _, .lst h t => .lst (sqL_mono e h) (Dats.mono e t)
  | _, _, .tup h t => .tup (h.mono e) (Dats.mono e t)
  | _, _, .dic h t => .dic (e _ _ h) (DatKs.mono e t)
theorem Dats.mono (e : Same G G') : ∀ {vs : List V} {ds : List D}, Dats K G vs ds → Dats K G' vs ds
  | _, _, .nil => .nil
  | _, _, .cons h t => .cons (Dat.mono e h) (Dats.mono e t)
theorem DatKs.mono (e : Same G G') : ∀ {ys : List Ent} {kvs : List (D × D)}, DatKs K G ys kvs → DatKs K G' ys kvs
  | _, _, .nil => .nil
  | _, _, .cons k h1 h2 t => .cons k (Dat.mono e h1) (Dat.mono e h2) (DatKs.mono e t)
end
mutual
theorem Dat.dp : ∀ {v : V} {d : D}, Dat K G v d → noDic d = true → Dp K G v d
  | _, _, .non, _ => .non
  | _, _, .bl b, _ => .bl b
  | _, _, .int i, _ => .int i
  | _, _, .str x, _ => .str x
  | _, _, .lst h t, n => .lst h (Dats.dp t (by simpa [noDic] using n))
  | _, _, .tup h t, n => .tup h.sq (Dats.dp t (by simpa [noDic] using n))
  | _, _, .dic _ _, n => by simp [noDic] at n
theorem Dats.dp : ∀ {vs : List V} {ds : List D}, Dats K G vs ds → noDics ds = true → DpAll K G vs ds
  | _, _, .nil, _ => .nil
  | _, _, .cons h t, n => by
    simp only [noDics, Bool.and_eq_true] at n
    exact .cons (Dat.dp h n.1) (Dats.dp t n.2)
end
def NoL (G G' : Hp) : Prop := ∀ a u, G a = some u → G' a = some u ∨ (∃ xs, u = .lst xs) ∨ ∃ ys, u = DictNO a ys
mutual
theorem Dat.drop (e : NoL G G') : ∀ {v : V} {d : D}, Dat K G v d → noLst d = true → Dat K G' v d
  | _, _, .non, _ => .non
  | _, _, .bl b, _ => .bl b
  | _, _, .int i, _ => .int i
  | _, _, .str x, _ => .str x
  | _, _, .lst _ _, h => by cases h
  | _, _, .dic _ _, h => by cases h
  | _, _, .tup h t, n => .tup (by
      rcases h with ⟨o, h, d⟩ | h
      · rcases e _ _ h with z | ⟨_, z⟩ | ⟨_, z⟩
        · exact .inl ⟨o, z, d⟩
        · cases z
        · cases z
      · exact .inr h) (Dats.drop e t (by simpa [noLst] using n))
theorem Dats.drop (e : NoL G G') : ∀ {vs : List V} {ds : List D}, Dats K G vs ds → noLsts ds = true → Dats K G' vs ds
  | _, _, .nil, _ => .nil
  | _, _, .cons h t, n => by
    have n' := n
    simp only [noLsts, Bool.and_eq_true] at n'
    exact .cons (Dat.drop e h n'.1) (Dats.drop e t n'.2)
end
theorem DatKs.drop (e : NoL G G') : ∀ {ys : List Ent} {kvs : List (D × D)}, DatKs K G ys kvs → (kvs.all fun p => noLst p.1 && noLst p.2) = true → DatKs K G' ys kvs
  | _, _, .nil, _ => .nil
  | _, _, .cons k h1 h2 t, n => by
    rw [List.all_cons, Bool.and_eq_true, Bool.and_eq_true] at n
    exact .cons k (Dat.drop e h1 n.1.1) (Dat.drop e h2 n.1.2) (DatKs.drop e t n.2)
theorem Dats.get : ∀ {vs : List V} {ds : List D} {i : Nat} {d : D}, Dats K G vs ds → ds[i]? = some d → ∃ v, vs[i]? = some v ∧ Dat K G v d
  | _, _, _, _, .nil, e => by simp at e
  | _, _, 0, _, .cons h _, e => by simp at e; subst e; exact ⟨_, rfl, h⟩
  | _, _, i + 1, d, .cons _ t, e => by
    obtain ⟨v, h1, h2⟩ := Dats.get (i := i) (d := d) t (by simpa using e)
    exact ⟨v, by simpa using h1, h2⟩
theorem Dats.append : ∀ {vs ws : List V} {ds es : List D}, Dats K G vs ds → Dats K G ws es → Dats K G (vs ++ ws) (ds ++ es)
  | _, _, _, _, .nil, s => s
  | _, _, _, _, .cons h t, s => .cons h (Dats.append t s)
theorem Dats.take : ∀ {vs : List V} {ds : List D} (n : Nat), Dats K G vs ds → Dats K G (vs.take n) (ds.take n)
  | _, _, 0, _ => .nil
  | _, _, _ + 1, .nil => .nil
  | _, _, n + 1, .cons h t => .cons h (Dats.take n t)
theorem Dats.drop' : ∀ {vs : List V} {ds : List D} (n : Nat), Dats K G vs ds → Dats K G (vs.drop n) (ds.drop n)
  | _, _, 0, h => h
  | _, _, _ + 1, .nil => .nil
  | _, _, n + 1, .cons _ t => Dats.drop' n t
theorem Dats.set {v : V} {d : D} (h : Dat K G v d) : ∀ {vs : List V} {ds : List D} (i : Nat), Dats K G vs ds → Dats K G (vs.set i v) (ds.set i d)
  | _, _, _, .nil => .nil
  | _, _, 0, .cons _ t => .cons h t
  | _, _, i + 1, .cons q t => .cons q (Dats.set h i t)
theorem Dats.snoc {v : V} {d : D} {vs : List V} {ds : List D} (h : Dats K G vs ds) (q : Dat K G v d) : Dats K G (vs ++ [v]) (ds ++ [d]) := h.append (.cons q .nil)
theorem Dats.rev {vs : List V} {ds : List D} (h : Dats K G vs ds) : Dats K G vs.reverse ds.reverse := by
  induction ds generalizing vs with
  | nil => cases h; exact .nil
  | cons d ds ih =>
    cases h with
    | cons h t => rw [List.reverse_cons, List.reverse_cons]; exact (ih t).snoc h
theorem Dats.rep {vs : List V} {ds : List D} (h : Dats K G vs ds) : ∀ n : Nat, Dats K G (List.replicate n vs).flatten (List.replicate n ds).flatten
  | 0 => .nil
  | n + 1 => by
    rw [List.replicate_succ, List.replicate_succ, List.flatten_cons, List.flatten_cons]
    exact h.append (h.rep n)
theorem Dats.ints : ∀ l : List Int, Dats K G (l.map V.int) (l.map PyData.int)
  | [] => .nil
  | i :: r => .cons (.int i) (Dats.ints r)
end
theorem okD_sh {d : D} (h : okD d = true) : SeqAt.shaped d = true := (Bool.and_eq_true_iff.mp h).1
theorem okD_nd {d : D} (h : okD d = true) : noDic d = true := (Bool.and_eq_true_iff.mp h).2
theorem same_new {H : Hp} {p : Addr} {o : HO} (h : H p = none) : Same H (upd H p o) := fun a u e => by
  rw [upd_ne (ne_of_none e h)]; exact e
theorem same_upd {G H : Hp} {p : Addr} {o : HO} (e : Same G H) (h : G p = none) : Same G (upd H p o) := fun a u q => by
  rw [upd_ne (ne_of_none q h)]; exact e a u q
theorem same_both {G H : Hp} {p : Addr} {o : HO} (e : Same G H) : Same (upd G p o) (upd H p o) := fun a u q => by
  by_cases h : a = p
  · subst h; rw [upd_same] at q ⊢; exact q
  · rw [upd_ne h] at q ⊢; exact e a u q
theorem same_put {G H : Hp} {p : Addr} {o : HO} (e : Same G H) (h : H p = some o) : Same (upd G p o) H := fun a u q => by
  by_cases z : a = p
  · subst z; rw [upd_same] at q; cases q; exact h
  · rw [upd_ne z] at q; exact e a u q
theorem none_of {G H : Hp} {p : Addr} (e : Same G H) (h : H p = none) : G p = none := by
  cases q : G p with
  | none => rfl
  | some o => rw [e p o q] at h; cases h
def ObAt (K : PySem.W.Frag) (G H : Hp) (p : Addr) : Ob → Prop
  | .lst xs => ∃ vs, H p = some (.lst vs) ∧ Dats K G vs xs
  | .dic kvs => ∃ ys, H p = some (DictNO p ys) ∧ DatKs K G ys kvs
theorem ObAt.ex {K : PySem.W.Frag} {G H : Hp} {p : Addr} {o : Ob} (h : ObAt K G H p o) : ∃ u, H p = some u := by
  cases o with
  | lst xs => obtain ⟨vs, h, _⟩ := h; exact ⟨_, h⟩
  | dic kvs => obtain ⟨ys, h, _⟩ := h; exact ⟨_, h⟩
theorem ObAt.mono {K : PySem.W.Frag} {G G' H H' : Hp} {p : Addr} {o : Ob} (h : ObAt K G H p o) (e : Same G G') (k : ∀ u, H p = some u → H' p = some u) : ObAt K G' H' p o := by
  cases o with
  | lst xs => obtain ⟨vs, h, t⟩ := h; exact ⟨vs, k _ h, t.mono e⟩
  | dic kvs => obtain ⟨ys, h, t⟩ := h; exact ⟨ys, k _ h, t.mono e⟩
theorem ObAt.dat {K : PySem.W.Frag} {G H : Hp} {p : Addr} {o : Ob} (h : ObAt K G H p o) (n : G p = none) : ∃ u, H p = some u ∧ Dat K (upd G p u) (.ref p) o.toD ∧ ((∃ xs, u = .lst xs) ∨ ∃ ys, u = DictNO p ys) := by
  cases o with
  | lst xs =>
    obtain ⟨vs, h, t⟩ := h
    exact ⟨_, h, .lst (.inl (.inl upd_same)) (t.mono (same_new n)), .inl ⟨_, rfl⟩⟩
  | dic kvs =>
    obtain ⟨ys, h, t⟩ := h
    exact ⟨_, h, .dic upd_same (t.mono (same_new n)), .inr ⟨_, rfl⟩⟩
abbrev Mk := Nat → Option (Addr × Option Ob)
structure Rel (K : PySem.W.Frag) (M : Mk) (R G : Hp) (ρ : En) (σ : St) (H : Hp) : Prop where
  len : ρ.length = σ.length
  fz : Same G H
  rs : Same R H
  dj : ∀ a u, R a = some u → G a = none
  dat : ∀ (i : Nat) (d : D), ρ[i]? = some (.dat d) → ∃ v, σ[i]? = some (some v) ∧ Dat K G v d
  own : ∀ (i : Nat) (f : Fl) (o : Ob), ρ[i]? = some (.own f o) → ∃ p, σ[i]? = some (some (.ref p)) ∧ G p = none ∧ R p = none ∧ ObAt K G H p o ∧ (f = .par → ∃ w, M i = some (p, w)) ∧ ((f = .lock ∨ f = .plock) → M i = some (p, some o))
  inj : ∀ (i j : Nat) (f f' : Fl) (o o' : Ob) (p : Addr), ρ[i]? = some (.own f o) → ρ[j]? = some (.own f' o') → σ[i]? = some (some (.ref p)) → σ[j]? = some (some (.ref p)) → i = j
def Nown (ρ : En) (σ : St) (p : Addr) : Prop := ∀ (i : Nat) (f : Fl) (o : Ob), ρ[i]? = some (.own f o) → σ[i]? ≠ some (some (.ref p))
section
variable {K : PySem.W.Frag} {M : Mk} {R G H : Hp} {ρ : En} {σ : St} {p : Addr} {u : HO} {i : Nat} {o : Ob} {d : D}
theorem Rel.nown_free (r : Rel K M R G ρ σ H) (h : H p = none) : Nown ρ σ p := fun i f o e z => by
  obtain ⟨q, h1, _, _, h4, _⟩ := r.own i f o e
  rw [h1] at z
  have z2 : q = p := by simpa using z
  obtain ⟨u, hu⟩ := h4.ex
  rw [z2, h] at hu; cases hu
theorem Rel.alloc (r : Rel K M R G ρ σ H) (h : H p = none) : Rel K M R (upd G p u) ρ σ (upd H p u) where
  len := r.len
  fz := same_both r.fz
  rs := same_upd r.rs (none_of r.rs h)
  dj := fun a w e => by
    rw [upd_ne (ne_of_none e (none_of r.rs h))]
    exact r.dj a w e
  dat := fun i d e => by
    obtain ⟨v, h1, h2⟩ := r.dat i d e
    exact ⟨v, h1, h2.mono (same_new (none_of r.fz h))⟩
  own := fun i f o e => by
    obtain ⟨q, h1, h2, h3, h4, h5⟩ := r.own i f o e
    obtain ⟨w, hw⟩ := h4.ex
    have ne : q ≠ p := ne_of_none hw h
    exact ⟨q, h1, by rw [upd_ne ne]; exact h2, h3, h4.mono (same_new (none_of r.fz h)) (fun z hz => by rw [upd_ne ne]; exact hz), h5⟩
  inj := r.inj
theorem Rel.make (r : Rel K M R G ρ σ H) (h : H p = none) : Rel K M R G ρ σ (upd H p u) where
  len := r.len
  fz := same_upd r.fz (none_of r.fz h)
  rs := same_upd r.rs (none_of r.rs h)
  dj := r.dj
  dat := r.dat
  own := fun i f o e => by
    obtain ⟨q, h1, h2, h3, h4, h5⟩ := r.own i f o e
    obtain ⟨w, hw⟩ := h4.ex
    have ne : q ≠ p := ne_of_none hw h
    exact ⟨q, h1, h2, h3, h4.mono (Same.refl _) (fun z hz => by rw [upd_ne ne]; exact hz), h5⟩
  inj := r.inj
theorem Rel.give (r : Rel K M R G ρ σ H) (h : H p = some u) (hg : G p = none) (hr : R p = none) (hn : Nown ρ σ p) : Rel K M R (upd G p u) ρ σ H where
  len := r.len
  fz := same_put r.fz h
  rs := r.rs
  dj := fun a w e => by
    have ne : a ≠ p := ne_of_none e hr
    rw [upd_ne ne]; exact r.dj a w e
  dat := fun i d e => by
    obtain ⟨v, h1, h2⟩ := r.dat i d e
    exact ⟨v, h1, h2.mono (same_new hg)⟩
  own := fun i f o e => by
    obtain ⟨q, h1, h2, h3, h4, h5⟩ := r.own i f o e
    have ne : q ≠ p := fun z => hn i f o e (by rw [← z]; exact h1)
    exact ⟨q, h1, by rw [upd_ne ne]; exact h2, h3, h4.mono (same_new hg) (fun _ z => z), h5⟩
  inj := r.inj
theorem get_set_self {α : Type} {l : List α} {i : Nat} {x : α} (h : i < l.length) : (l.set i x)[i]? = some x := by simp [h]
theorem get_set_ne {α : Type} {l : List α} {i j : Nat} {x : α} (h : i ≠ j) : (l.set i x)[j]? = l[j]? := by simp [h]
theorem get_lt {α : Type} {l : List α} {i : Nat} {x : α} (h : l[i]? = some x) : i < l.length := (List.getElem?_eq_some_iff.mp h).1
theorem get_set {α : Type} {l : List α} {i j : Nat} {x y : α} (h : (l.set i x)[j]? = some y) : (i = j ∧ y = x) ∨ (i ≠ j ∧ l[j]? = some y) := by
  by_cases e : i = j
  · subst e
    left
    refine ⟨rfl, ?_⟩
    have hl : i < l.length := by have := get_lt h; simpa using this
    rw [get_set_self hl] at h; exact (Option.some.inj h).symm
  · right
    rw [get_set_ne e] at h; exact ⟨e, h⟩
theorem Rel.freeze (r : Rel K M R G ρ σ H) {f : Fl} (e : ρ[i]? = some (.own f o)) : ∃ p u, σ[i]? = some (some (.ref p)) ∧ G p = none ∧ H p = some u ∧ Dat K (upd G p u) (.ref p) o.toD ∧ Rel K M R (upd G p u) (ρ.set i (.dat o.toD)) σ H := by
  obtain ⟨p, h1, h2, h3, h4, h5⟩ := r.own i f o e
  obtain ⟨u, hu, hd, _⟩ := h4.dat h2
  refine ⟨p, _, h1, h2, hu, hd, ?_⟩
  have own' : ∀ (j : Nat) (g : Fl) (w : Ob), (ρ.set i (.dat o.toD))[j]? = some (.own g w) → i ≠ j ∧ ρ[j]? = some (.own g w) := fun j g w z => by
    rcases get_set z with ⟨_, z⟩ | z
    · cases z
    · exact z
  refine ⟨by rw [List.length_set]; exact r.len, same_put r.fz hu, r.rs, fun a w z => ?_, fun j d z => ?_, fun j g w z => ?_, fun j k g g' w w' q z1 z2 => ?_⟩
  · have ne : a ≠ p := ne_of_none z h3
    rw [upd_ne ne]; exact r.dj a w z
  · rcases get_set z with ⟨ej, z'⟩ | ⟨_, z⟩
    · subst ej; cases z'; exact ⟨_, h1, hd⟩
    · obtain ⟨v, q1, q2⟩ := r.dat j d z
      exact ⟨v, q1, q2.mono (same_new h2)⟩
  · obtain ⟨ne, z⟩ := own' j g w z
    obtain ⟨q, q1, q2, q3, q4, q5⟩ := r.own j g w z
    have nq : q ≠ p := fun zz => ne (r.inj i j f g o w p e z h1 (by rw [← zz]; exact q1))
    exact ⟨q, q1, by rw [upd_ne nq]; exact q2, q3, q4.mono (same_new h2) (fun _ z => z), q5⟩
  · exact r.inj j k g g' w w' q (own' j g w z1).2 (own' k g' w' z2).2
theorem Rel.change (r : Rel K M R G ρ σ H) {f : Fl} {o' : Ob} (e : ρ[i]? = some (.own f o)) (hf : f = .loc ∨ f = .par) (h1 : σ[i]? = some (some (.ref p))) (hn : ObAt K G (upd H p u) p o') : Rel K M R G (ρ.set i (.own f o')) σ (upd H p u) := by
  obtain ⟨q, q1, q2, q3, q4, q5⟩ := r.own i f o e
  have eq : q = p := by rw [h1] at q1; simpa using q1.symm
  subst eq
  have back : ∀ (j : Nat) (g : Fl) (w : Ob), (ρ.set i (.own f o'))[j]? = some (.own g w) → ∃ w', ρ[j]? = some (.own g w') := fun j g w z => by
    rcases get_set z with ⟨ej, z'⟩ | ⟨_, z'⟩
    · subst ej; cases z'; exact ⟨_, e⟩
    · exact ⟨_, z'⟩
  refine ⟨by rw [List.length_set]; exact r.len, same_upd r.fz q2, same_upd r.rs q3, r.dj, fun j d z => ?_, fun j g w z => ?_, fun j k g g' w w' a z1 z2 => ?_⟩
  · rcases get_set z with ⟨_, z⟩ | ⟨_, z⟩
    · cases z
    · exact r.dat j d z
  · rcases get_set z with ⟨ej, z'⟩ | ⟨ne, z⟩
    · subst ej; cases z'
      exact ⟨q, q1, q2, q3, hn, q5.1, fun y => by rcases hf with z | z <;> rcases y with y | y <;> (rw [z] at y; cases y)⟩
    · obtain ⟨a, a1, a2, a3, a4, a5⟩ := r.own j g w z
      have na : a ≠ q := fun zz => ne (r.inj i j f g o w q e z q1 (by rw [← zz]; exact a1))
      exact ⟨a, a1, a2, a3, a4.mono (Same.refl _) (fun v hv => by rw [upd_ne na]; exact hv), a5⟩
  · obtain ⟨y1, z1⟩ := back j g w z1
    obtain ⟨y2, z2⟩ := back k g' w' z2
    exact r.inj j k g g' y1 y2 a z1 z2
def lockM (M : Mk) (i : Nat) (p : Addr) (o : Ob) : Mk := fun j => if j = i then some (p, some o) else M j
theorem Rel.lock (r : Rel K M R G ρ σ H) {f g : Fl} (e : ρ[i]? = some (.own f o)) (h1 : σ[i]? = some (some (.ref p))) (hg : g = .lock ∨ g = .plock) : Rel K (lockM M i p o) R G (ρ.set i (.own g o)) σ H := by
  obtain ⟨q, q1, q2, q3, q4, q5, q6⟩ := r.own i f o e
  have eq : q = p := by rw [h1] at q1; simpa using q1.symm
  subst eq
  have back : ∀ (j : Nat) (k : Fl) (w : Ob), (ρ.set i (.own g o))[j]? = some (.own k w) → ∃ k', ρ[j]? = some (.own k' w) := fun j k w z => by
    rcases get_set z with ⟨ej, z'⟩ | ⟨_, z⟩
    · subst ej; cases z'; exact ⟨f, e⟩
    · exact ⟨k, z⟩
  refine ⟨by rw [List.length_set]; exact r.len, r.fz, r.rs, r.dj, fun j d z => ?_, fun j k w z => ?_, fun j k g g' w w' a z1 z2 => ?_⟩
  · rcases get_set z with ⟨_, z⟩ | ⟨_, z⟩
    · cases z
    · exact r.dat j d z
  · rcases get_set z with ⟨ej, z'⟩ | ⟨ne, z⟩
    · subst ej; cases z'
      refine ⟨q, q1, q2, q3, q4, fun y => ?_, fun _ => if_pos rfl⟩
      rcases hg with h | h <;> (rw [h] at y; cases y)
    · obtain ⟨a, a1, a2, a3, a4, a5, a6⟩ := r.own j k w z
      refine ⟨a, a1, a2, a3, a4, fun y => ?_, fun y => ?_⟩
      · show ∃ w, (if j = i then _ else M j) = _
        rw [if_neg (Ne.symm ne)]; exact a5 y
      · show (if j = i then _ else M j) = _
        rw [if_neg (Ne.symm ne)]; exact a6 y
  · obtain ⟨y1, z1⟩ := back j g w z1
    obtain ⟨y2, z2⟩ := back k g' w' z2
    exact r.inj j k y1 y2 w w' a z1 z2
theorem Rel.unlock (r : Rel K (lockM M i p o) R G ρ σ H) {f g : Fl} {w0 : Ob} (e : ρ[i]? = some (.own f w0)) (hf : f = .lock ∨ f = .plock) (hg : (g = .loc ∧ f = .lock) ∨ (g = .par ∧ f = .plock ∧ ∃ w, M i = some (p, w))) : Rel K M R G (ρ.set i (.own g w0)) σ H := by
  have back : ∀ (j : Nat) (k : Fl) (w : Ob), (ρ.set i (.own g w0))[j]? = some (.own k w) → ∃ k', ρ[j]? = some (.own k' w) := fun j k w z => by
    rcases get_set z with ⟨ej, z'⟩ | ⟨_, z⟩
    · subst ej; cases z'; exact ⟨f, e⟩
    · exact ⟨k, z⟩
  obtain ⟨q, q1, q2, q3, q4, q5, q6⟩ := r.own i f w0 e
  have eqp : q = p := by
    have z : (if i = i then some (p, some o) else M i) = some (q, some w0) := q6 hf
    rw [if_pos rfl] at z
    simp only [Option.some.injEq, Prod.mk.injEq] at z
    exact z.1.symm
  subst eqp
  refine ⟨by rw [List.length_set]; exact r.len, r.fz, r.rs, r.dj, fun j d z => ?_, fun j k w z => ?_, fun j k g g' w w' a z1 z2 => ?_⟩
  · rcases get_set z with ⟨_, z⟩ | ⟨_, z⟩
    · cases z
    · exact r.dat j d z
  · rcases get_set z with ⟨ej, z'⟩ | ⟨ne, z⟩
    · subst ej; cases z'
      refine ⟨q, q1, q2, q3, q4, fun y => ?_, fun y => ?_⟩
      · rcases hg with ⟨h, _⟩ | ⟨_, _, h⟩
        · rw [h] at y; cases y
        · exact h
      · rcases hg with ⟨h, _⟩ | ⟨h, _⟩ <;> rcases y with y | y <;> (rw [h] at y; cases y)
    · obtain ⟨a, a1, a2, a3, a4, a5, a6⟩ := r.own j k w z
      refine ⟨a, a1, a2, a3, a4, fun y => ?_, fun y => ?_⟩
      · obtain ⟨w', h⟩ := a5 y
        have h : (if j = i then _ else M j) = _ := h
        rw [if_neg (Ne.symm ne)] at h; exact ⟨w', h⟩
      · have h : (if j = i then _ else M j) = _ := a6 y
        rw [if_neg (Ne.symm ne)] at h; exact h
  · obtain ⟨y1, z1⟩ := back j g w z1
    obtain ⟨y2, z2⟩ := back k g' w' z2
    exact r.inj j k y1 y2 w w' a z1 z2
theorem Rel.setDat (r : Rel K M R G ρ σ H) {v : V} (h : Dat K G v d) : Rel K M R G (ρ.set i (.dat d)) (σ.set i (some v)) H := by
  have back : ∀ (j : Nat) (g : Fl) (w : Ob), (ρ.set i (.dat d))[j]? = some (.own g w) → i ≠ j ∧ ρ[j]? = some (.own g w) := fun j g w z => by
    rcases get_set z with ⟨_, z⟩ | z
    · cases z
    · exact z
  refine ⟨by rw [List.length_set, List.length_set]; exact r.len, r.fz, r.rs, r.dj, fun j e z => ?_, fun j g w z => ?_, fun j k g g' w w' a z1 z2 y1 y2 => ?_⟩
  · rcases get_set z with ⟨ej, z'⟩ | ⟨ne, z'⟩
    · subst ej; cases z'
      have hl : i < ρ.length := by have := get_lt z; simpa using this
      exact ⟨v, get_set_self (by rw [← r.len]; exact hl), h⟩
    · obtain ⟨x, h1, h2⟩ := r.dat j e z'
      exact ⟨x, by rw [get_set_ne ne]; exact h1, h2⟩
  · obtain ⟨ne, z⟩ := back j g w z
    obtain ⟨a, a1, a2⟩ := r.own j g w z
    exact ⟨a, by rw [get_set_ne ne]; exact a1, a2⟩
  · obtain ⟨n1, z1⟩ := back j g w z1
    obtain ⟨n2, z2⟩ := back k g' w' z2
    rw [get_set_ne n1] at y1
    rw [get_set_ne n2] at y2
    exact r.inj j k g g' w w' a z1 z2 y1 y2
theorem Rel.setOwn (r : Rel K M R G ρ σ H) (hg : G p = none) (hr : R p = none) (hn : Nown ρ σ p) (h : ObAt K G H p o) : Rel K M R G (ρ.set i (.own .loc o)) (σ.set i (some (.ref p))) H := by
  have split : ∀ (j : Nat) (g : Fl) (w : Ob), (ρ.set i (.own .loc o))[j]? = some (.own g w) → (i = j ∧ g = .loc ∧ w = o ∧ i < ρ.length) ∨ (i ≠ j ∧ ρ[j]? = some (.own g w)) := fun j g w z => by
    rcases get_set z with ⟨ej, z'⟩ | z'
    · cases z'; exact .inl ⟨ej, rfl, rfl, by subst ej; have := get_lt z; simpa using this⟩
    · exact .inr z'
  refine ⟨by rw [List.length_set, List.length_set]; exact r.len, r.fz, r.rs, r.dj, fun j e z => ?_, fun j g w z => ?_, fun j k g g' w w' a z1 z2 y1 y2 => ?_⟩
  · rcases get_set z with ⟨_, z⟩ | ⟨ne, z⟩
    · cases z
    · obtain ⟨x, h1, h2⟩ := r.dat j e z
      exact ⟨x, by rw [get_set_ne ne]; exact h1, h2⟩
  · rcases split j g w z with ⟨ej, rfl, rfl, hl⟩ | ⟨ne, z⟩
    · subst ej
      exact ⟨p, get_set_self (by rw [← r.len]; exact hl), hg, hr, h, (fun y => by cases y), fun y => by rcases y with y | y <;> cases y⟩
    · obtain ⟨a, a1, a2⟩ := r.own j g w z
      exact ⟨a, by rw [get_set_ne ne]; exact a1, a2⟩
  · rcases split j g w z1 with ⟨e1, _, _, l1⟩ | ⟨n1, z1⟩
    · rcases split k g' w' z2 with ⟨e2, _⟩ | ⟨n2, z2⟩
      · exact e1.symm.trans e2
      · subst e1
        rw [get_set_self (by rw [← r.len]; exact l1)] at y1
        rw [get_set_ne n2] at y2
        have ea : p = a := by simpa using y1
        subst ea
        exact absurd y2 (hn k g' w' z2)
    · rcases split k g' w' z2 with ⟨e2, _, _, l2⟩ | ⟨n2, z2⟩
      · subst e2
        rw [get_set_self (by rw [← r.len]; exact l2)] at y2
        rw [get_set_ne n1] at y1
        have ea : p = a := by simpa using y2
        subst ea
        exact absurd y1 (hn j g w z1)
      · rw [get_set_ne n1] at y1
        rw [get_set_ne n2] at y2
        exact r.inj j k g g' w w' a z1 z2 y1 y2
theorem Rel.setNon (r : Rel K M R G ρ σ H) : Rel K M R G (ρ.set i .non) σ H := by
  have back : ∀ (j : Nat) (g : Fl) (w : Ob), (ρ.set i .non)[j]? = some (.own g w) → ρ[j]? = some (.own g w) := fun j g w z => by
    rcases get_set z with ⟨_, z⟩ | ⟨_, z⟩
    · cases z
    · exact z
  refine ⟨by rw [List.length_set]; exact r.len, r.fz, r.rs, r.dj, fun j e z => ?_, fun j g w z => r.own j g w (back j g w z), fun j k g g' w w' a z1 z2 => r.inj j k g g' w w' a (back j g w z1) (back k g' w' z2)⟩
  rcases get_set z with ⟨_, z⟩ | ⟨_, z⟩
  · cases z
  · exact r.dat j e z
theorem Rel.setNon2 (r : Rel K M R G ρ σ H) {x : Option V} : Rel K M R G (ρ.set i .non) (σ.set i x) H := by
  have back : ∀ (j : Nat) (g : Fl) (w : Ob), (ρ.set i .non)[j]? = some (.own g w) → i ≠ j ∧ ρ[j]? = some (.own g w) := fun j g w z => by
    rcases get_set z with ⟨_, z⟩ | z
    · cases z
    · exact z
  refine ⟨by rw [List.length_set, List.length_set]; exact r.len, r.fz, r.rs, r.dj, fun j e z => ?_, fun j g w z => ?_, fun j k g g' w w' a z1 z2 y1 y2 => ?_⟩
  · rcases get_set z with ⟨_, z⟩ | ⟨ne, z⟩
    · cases z
    · obtain ⟨v, h1, h2⟩ := r.dat j e z
      exact ⟨v, by rw [get_set_ne ne]; exact h1, h2⟩
  · obtain ⟨ne, z⟩ := back j g w z
    obtain ⟨a, a1, a2⟩ := r.own j g w z
    exact ⟨a, by rw [get_set_ne ne]; exact a1, a2⟩
  · obtain ⟨n1, z1⟩ := back j g w z1
    obtain ⟨n2, z2⟩ := back k g' w' z2
    rw [get_set_ne n1] at y1
    rw [get_set_ne n2] at y2
    exact r.inj j k g g' w w' a z1 z2 y1 y2
end
end Vi
set_option maxHeartbeats 4000000
namespace Vi
open PySem PySem.Spec PyProof.Rows L2
mutual
theorem hash_plain (w w' : World) : ∀ k : NestedKey, plainKey k = true → k.hash w = k.hash w'
  | .none, _ => rfl
  | .num _, _ => rfl
  | .text _, h => by simp [plainKey] at h
  | .tup ks, h => by rw [NestedKey.hash, NestedKey.hash, hashes_plain w w' ks (by simpa [plainKey] using h)]
theorem hashes_plain (w w' : World) : ∀ ks : List NestedKey, plainKeys ks = true → NestedKey.hashes w ks = NestedKey.hashes w' ks
  | [], _ => rfl
  | k :: ks, h => by
    simp only [plainKeys, Bool.and_eq_true] at h
    rw [NestedKey.hashes, NestedKey.hashes, hash_plain w w' k h.1, hashes_plain w w' ks h.2]
end
mutual
theorem toKey_ok : ∀ (d : D) (k : NestedKey), toKey d = some k → k.data = d ∧ plainKey k = true
  | .none, k, h => by
    simp only [toKey, Option.some.injEq] at h
    subst h
    exact ⟨rfl, rfl⟩
  | .int i, k, h => by
    simp only [toKey, Option.some.injEq] at h
    subst h
    exact ⟨rfl, rfl⟩
  | .tuple xs, k, h => by
    rw [toKey] at h
    obtain ⟨ks, h1, rfl⟩ := Option.map_eq_some_iff.mp h
    obtain ⟨h2, h3⟩ := toKeys_ok xs ks h1
    exact ⟨by rw [NestedKey.data, h2], by rw [plainKey]; exact h3⟩
  | .bool _, k, h => by simp [toKey] at h
  | .str _, k, h => by simp [toKey] at h
  | .list _, k, h => by simp [toKey] at h
  | .dict _, k, h => by simp [toKey] at h
theorem toKeys_ok : ∀ (xs : List D) (ks : List NestedKey), toKeys xs = some ks → NestedKey.datas ks = xs ∧ plainKeys ks = true
  | [], ks, h => by
    simp only [toKeys, Option.some.injEq] at h
    subst h
    exact ⟨rfl, rfl⟩
  | x :: xs, ks, h => by
    rw [toKeys] at h
    obtain ⟨k, h1, h2⟩ := Option.bind_eq_some_iff.mp h
    obtain ⟨ks', h3, rfl⟩ := Option.map_eq_some_iff.mp h2
    obtain ⟨a1, a2⟩ := toKey_ok x k h1
    obtain ⟨b1, b2⟩ := toKeys_ok xs ks' h3
    exact ⟨by rw [NestedKey.datas, a1, b1], by rw [plainKeys, a2, b2]; rfl⟩
end
theorem keyOk_ok {d : D} (h : keyOk d = true) : ∃ k xs, d = .tuple xs ∧ k.data = d ∧ kOk k = true := by
  unfold keyOk at h
  split at h
  · rename_i xs
    split at h
    · rename_i k hk
      obtain ⟨h1, h2⟩ := toKey_ok _ _ hk
      exact ⟨k, xs, rfl, h1, by unfold kOk; rw [h2, h]; rfl⟩
    · cases h
  · cases h
mutual
theorem eqv_key : ∀ a b : NestedKey, plainKey a = true → plainKey b = true → PyData.eqv a.data b.data = NestedKey.beq a b
  | .none, .none, _, _ => by simp [NestedKey.data, PyData.eqv, NestedKey.beq]
  | .none, .num _, _, _ => by simp [NestedKey.data, PyData.eqv, NestedKey.beq]
  | .none, .tup _, _, _ => by simp [NestedKey.data, PyData.eqv, NestedKey.beq]
  | .num _, .none, _, _ => by simp [NestedKey.data, PyData.eqv, NestedKey.beq]
  | .num i, .num j, _, _ => by simp [NestedKey.data, PyData.eqv, NestedKey.beq]; rfl
  | .num _, .tup _, _, _ => by simp [NestedKey.data, PyData.eqv, NestedKey.beq]
  | .tup _, .none, _, _ => by simp [NestedKey.data, PyData.eqv, NestedKey.beq]
  | .tup _, .num _, _, _ => by simp [NestedKey.data, PyData.eqv, NestedKey.beq]
  | .tup a, .tup b, h1, h2 => by
    rw [NestedKey.data, NestedKey.data, PyData.eqv, NestedKey.beq]
    exact eqv_keys a b (by simpa [plainKey] using h1) (by simpa [plainKey] using h2)
  | .text _, _, h, _ => by simp [plainKey] at h
  | .none, .text _, _, h => by simp [plainKey] at h
  | .num _, .text _, _, h => by simp [plainKey] at h
  | .tup _, .text _, _, h => by simp [plainKey] at h
theorem eqv_keys : ∀ a b : List NestedKey, plainKeys a = true → plainKeys b = true → PyData.eqvAll (NestedKey.datas a) (NestedKey.datas b) = NestedKey.beqAll a b
  | [], [], _, _ => by simp [NestedKey.datas, PyData.eqvAll, NestedKey.beqAll]
  | [], _ :: _, _, _ => by simp [NestedKey.datas, PyData.eqvAll, NestedKey.beqAll]
  | _ :: _, [], _, _ => by simp [NestedKey.datas, PyData.eqvAll, NestedKey.beqAll]
  | a :: as, b :: bs, h1, h2 => by
    simp only [plainKeys, Bool.and_eq_true] at h1 h2
    rw [NestedKey.datas, NestedKey.datas, PyData.eqvAll, NestedKey.beqAll, eqv_key a b h1.1 h2.1, eqv_keys as bs h1.2 h2.2]
end
theorem eqv_dec {a b : NestedKey} (h1 : kOk a = true) (h2 : kOk b = true) : PyData.eqv a.data b.data = decide (a = b) := by
  unfold kOk at h1 h2
  rw [NestedKey.decide_eq]
  exact eqv_key a b (Bool.and_eq_true_iff.mp h1).1 (Bool.and_eq_true_iff.mp h2).1
section
variable {X : Cx} {pins : List (Addr × Obj)} {σ : L2.St} {G H : Hp} {s : Shared} {a b : Addr} {ys : List Ent}
mutual
theorem nested_of (I : Inv X pins σ H s) (e : Same G H) : ∀ (k : NestedKey) (v : V) (u : Value), plainKey k = true → Dat X.K G v k.data → RelV v u → NestedIs s.heap k u
  | .none, v, u, _, h, r => by
    rw [NestedKey.data] at h
    cases h
    cases (show u = Value.none from r)
    exact .none
  | .num i, v, u, _, h, r => by
    rw [NestedKey.data] at h
    cases h
    obtain ⟨t, rfl⟩ := (show ∃ t, u = Value.int i t from r)
    exact .int _ _
  | .text _, v, u, p, _, _ => by simp [plainKey] at p
  | .tup ks, v, u, p, h, r => by
    rw [NestedKey.data] at h
    cases h with
    | tup hs t =>
      obtain ⟨its, rv, ⟨o, h1, h2, n, h3⟩, hl⟩ := I.tuple (hs.mono e).sq
      cases r
      exact .tup h1 h2 h3 (by simpa using nesteds_of I e ks _ its (by simpa [plainKey] using p) t rv)
theorem nesteds_of (I : Inv X pins σ H s) (e : Same G H) : ∀ (ks : List NestedKey) (vs : List V) (us : List Value), plainKeys ks = true → Dats X.K G vs (NestedKey.datas ks) → Vals vs us → NestedAll s.heap ks us
  | [], vs, us, _, h, r => by
    rw [NestedKey.datas] at h
    cases h
    cases r
    exact .nil
  | k :: ks, vs, us, p, h, r => by
    rw [NestedKey.datas] at h
    simp only [plainKeys, Bool.and_eq_true] at p
    cases h with
    | cons h1 t1 =>
      cases r with
      | cons r1 t2 => exact .cons (nested_of I e k _ _ p.1 h1 r1) (nesteds_of I e ks _ _ p.2 t1 t2)
end
mutual
theorem reads_of (I : Inv X pins σ H s) (e : Same G H) : ∀ (k : NestedKey) (v : V) (u : Value), plainKey k = true → Dat X.K G v k.data → RelV v u → Reads s.heap u k.data []
  | .none, v, u, _, h, r => by
    rw [NestedKey.data] at h ⊢
    cases h
    cases (show u = Value.none from r)
    exact .none
  | .num i, v, u, _, h, r => by
    rw [NestedKey.data] at h ⊢
    cases h
    obtain ⟨t, rfl⟩ := (show ∃ t, u = Value.int i t from r)
    exact .int _ _
  | .text _, v, u, p, _, _ => by simp [plainKey] at p
  | .tup ks, v, u, p, h, r => by
    rw [NestedKey.data] at h ⊢
    cases h with
    | tup hs t =>
      obtain ⟨its, rv, ⟨o, h1, h2, n, h3⟩, hl⟩ := I.tuple (hs.mono e).sq
      cases r
      exact .tuple h1 h2 h3 (by simpa using readss_of I e ks _ its (by simpa [plainKey] using p) t rv)
theorem readss_of (I : Inv X pins σ H s) (e : Same G H) : ∀ (ks : List NestedKey) (vs : List V) (us : List Value), plainKeys ks = true → Dats X.K G vs (NestedKey.datas ks) → Vals vs us → ReadsAll s.heap us (NestedKey.datas ks) []
  | [], vs, us, _, h, r => by
    rw [NestedKey.datas] at h ⊢
    cases h
    cases r
    exact .nil
  | k :: ks, vs, us, p, h, r => by
    rw [NestedKey.datas] at h ⊢
    simp only [plainKeys, Bool.and_eq_true] at p
    cases h with
    | cons h1 t1 =>
      cases r with
      | cons r1 t2 => exact .cons (as := []) (reads_of I e k _ _ p.1 h1 r1) (readss_of I e ks _ _ p.2 t1 t2)
end
def KeysIn (K : PySem.W.Frag) (G : Hp) (ys : List Ent) : Prop := ∀ y ∈ ys, kOk y.1 = true ∧ Dat K G y.2.1 y.1.data
def tupK : NestedKey → Bool
  | .tup _ => true
  | _ => false
def numK : NestedKey → Bool
  | .num _ => true
  | _ => false
theorem DatKs.tups {K : PySem.W.Frag} {G : Hp} : ∀ {ys : List Ent} {kvs : List (D × D)}, DatKs K G ys kvs → (kvs.all fun p => isTupD p.1) = true → ∀ y ∈ ys, tupK y.1 = true
  | _, _, .nil, _ => fun y hy => by cases hy
  | _, _, @DatKs.cons _ _ k _ _ _ _ _ _ _ _ t, h => fun y hy => by
    rw [List.all_cons, Bool.and_eq_true] at h
    rcases List.mem_cons.mp hy with rfl | hy
    · have h1 := h.1
      cases k with
      | tup ks => rfl
      | none => simp [NestedKey.data, isTupD] at h1
      | num i => simp [NestedKey.data, isTupD] at h1
      | text x => simp [NestedKey.data, isTupD] at h1
    · exact DatKs.tups t h.2 y hy
theorem DatKs.nums {K : PySem.W.Frag} {G : Hp} : ∀ {ys : List Ent} {kvs : List (D × D)}, DatKs K G ys kvs → (kvs.all fun p => isIntD p.1) = true → ∀ y ∈ ys, numK y.1 = true
  | _, _, .nil, _ => fun y hy => by cases hy
  | _, _, @DatKs.cons _ _ k _ _ _ _ _ _ _ _ t, h => fun y hy => by
    rw [List.all_cons, Bool.and_eq_true] at h
    rcases List.mem_cons.mp hy with rfl | hy
    · have h1 := h.1
      cases k with
      | num i => rfl
      | none => simp [NestedKey.data, isIntD] at h1
      | tup ks => simp [NestedKey.data, isIntD] at h1
      | text x => simp [NestedKey.data, isIntD] at h1
    · exact DatKs.nums t h.2 y hy
theorem DatKs.keys {K : PySem.W.Frag} {G : Hp} : ∀ {ys : List Ent} {kvs : List (D × D)}, DatKs K G ys kvs → KeysIn K G ys
  | _, _, .nil => fun y hy => by cases hy
  | _, _, .cons k h1 h2 t => fun y hy => by
    rcases List.mem_cons.mp hy with rfl | hy
    · exact ⟨k, h1⟩
    · exact DatKs.keys t y hy
theorem DatKs.length {K : PySem.W.Frag} {G : Hp} : ∀ {ys : List Ent} {kvs : List (D × D)}, DatKs K G ys kvs → ys.length = kvs.length
  | _, _, .nil => rfl
  | _, _, .cons _ _ _ t => by simp [DatKs.length t]
theorem dat_tup {K : PySem.W.Frag} {G : Hp} {v : V} {k : NestedKey} (h : Dat K G v k.data) (hk : tupK k = true) : ∃ b, v = .ref b := by
  cases k with
  | tup ks =>
    rw [NestedKey.data] at h
    cases h
    exact ⟨_, rfl⟩
  | none => cases hk
  | num i => cases hk
  | text x => cases hk
theorem dat_num {K : PySem.W.Frag} {G : Hp} {v : V} {k : NestedKey} (h : Dat K G v k.data) (hk : numK k = true) : ∃ i, k = .num i ∧ v = .int i := by
  cases k with
  | num i =>
    rw [NestedKey.data] at h
    cases h
    exact ⟨_, rfl, rfl⟩
  | none => cases hk
  | tup i => cases hk
  | text x => cases hk
abbrev EV : List Ent → List (NestedKey × Addr × Value) → Prop := Paired fun y x => y.1 = x.1 ∧ y.2.1 = .ref x.2.1 ∧ RelV y.2.2 x.2.2
theorem EV.keys {ys : List Ent} {xs : List (NestedKey × Addr × Value)} (h : EV ys xs) : ys.map (·.1) = xs.map (·.1) := by
  unfold EV at h
  induction h with
  | nil => rfl
  | cons h t ih => rw [List.map_cons, List.map_cons, ih, h.1]
theorem EV.length {ys : List Ent} {xs : List (NestedKey × Addr × Value)} (h : EV ys xs) : ys.length = xs.length := Paired.length h
theorem dicH (I : Inv X pins σ H s) (e : Same G H) (h : H a = some (DictNO a ys)) (hk : KeysIn X.K G ys) (ht : ∀ y ∈ ys, tupK y.1 = true) : ys.length ≤ sizeLine ∧ (a == sysModules) = false ∧ ∃ xs, EV ys xs ∧ s.heap.DictOfH (nestedKind X.prog X.w) a xs := by
  obtain ⟨⟨l, sm, nd, w, o, es, ep, h1, h2, h3, pr⟩, _⟩ := (show ObjOk X.prog X.w H s.heap a (DictNO a ys) from I.hok a _ h)
  refine ⟨l, sm, ?_⟩
  have key : ∀ {ys : List Ent} {es : List DictEntry}, Paired (fun (y : Ent) (e : DictEntry) => e.hash = y.1.hash w ∧ RelV y.2.1 e.key ∧ RelV y.2.2 e.val) ys es → KeysIn X.K G ys → (∀ y ∈ ys, tupK y.1 = true) →
      ∃ xs, EV ys xs ∧ es = xs.map (entryOfKey (nestedKind X.prog X.w)) ∧ ∀ x ∈ xs, (nestedKind X.prog X.w).is s.heap x.1 x.2.1 := by
    intro ys es pr
    induction pr with
    | nil => exact fun _ _ => ⟨[], .nil, rfl, fun x hx => by cases hx⟩
    | @cons y en ys es hy t ih =>
      intro hk ht
      obtain ⟨xs, g1, g2, g3⟩ := ih (fun z hz => hk z (List.mem_cons_of_mem _ hz)) fun z hz => ht z (List.mem_cons_of_mem _ hz)
      obtain ⟨a1, a2, a3⟩ := hy
      obtain ⟨k1, k2⟩ := hk y (List.mem_cons_self ..)
      obtain ⟨b, hb⟩ := dat_tup k2 (ht y (List.mem_cons_self ..))
      rw [hb] at a2 k2
      replace a2 : en.key = .ref b := a2
      unfold kOk at k1
      obtain ⟨k3, k4⟩ := Bool.and_eq_true_iff.mp k1
      refine ⟨(y.1, b, en.val) :: xs, .cons ⟨rfl, hb, a3⟩ g1, ?_, fun x hx => ?_⟩
      · rw [List.map_cons, ← g2]
        congr 1
        obtain ⟨eh, ek, ev⟩ := en
        simp only at a1 a2
        subst a1 a2
        show _ = (⟨y.1.hash X.w, .ref b, ev⟩ : DictEntry)
        rw [hash_plain w X.w _ k3]
      · rcases List.mem_cons.mp hx with rfl | hx
        · exact ⟨nested_of I e _ _ _ k3 k2 rfl, of_decide_eq_true k4⟩
        · exact g3 x hx
  obtain ⟨xs, g1, g2, g3⟩ := key pr hk ht
  exact ⟨xs, g1, o, es, ep, h1, h2, h3, g2, g3, by rw [← g1.keys]; exact nd⟩
theorem rawOf {P : Program} {w : World} {h : Heap} {xs : List (NestedKey × Addr × Value)} (r : EV ys xs) (d : h.DictOfH (nestedKind P w) a xs) (l : ys.length ≤ sizeLine) (sm : (a == sysModules) = false) : RawDic h a ys := by
  obtain ⟨o, es, ep, h1, h2, h3, h4, his, h6⟩ := d
  refine ⟨l, sm, by rw [r.keys]; exact h6, w, o, es, ep, h1, h2, h3, ?_⟩
  rw [h4]
  clear h4 h6 l his
  unfold EV at r
  induction r with
  | nil => exact .nil
  | cons h t ih =>
    obtain ⟨a1, a2, a3⟩ := h
    refine .cons ⟨?_, ?_, a3⟩ ih
    · show NestedKey.hash w _ = _
      rw [a1]
    · rw [a2]
      exact rfl
abbrev IV : List Ent → List (Int × Value) → Prop := Paired fun y x => y.1 = .num x.1 ∧ y.2.1 = .int x.1 ∧ RelV y.2.2 x.2
theorem IV.length {ys : List Ent} {xs : List (Int × Value)} (h : IV ys xs) : ys.length = xs.length := Paired.length h
theorem IV.keys {ys : List Ent} {xs : List (Int × Value)} (h : IV ys xs) : ys.map (·.1) = (xs.map (·.1)).map .num := by
  unfold IV at h
  induction h with
  | nil => rfl
  | cons h t ih => rw [List.map_cons, List.map_cons, List.map_cons, ih, h.1]
theorem nodup_num : ∀ {l : List Int}, (l.map NestedKey.num).Nodup → l.Nodup
  | [], _ => List.nodup_nil
  | i :: l, h => by
    rw [List.map_cons, List.nodup_cons] at h
    exact List.nodup_cons.mpr ⟨fun z => h.1 (List.mem_map.mpr ⟨i, z, rfl⟩), nodup_num h.2⟩
theorem nodup_num' : ∀ {l : List Int}, l.Nodup → (l.map NestedKey.num).Nodup
  | [], _ => List.nodup_nil
  | i :: l, h => by
    rw [List.nodup_cons] at h
    rw [List.map_cons]
    refine List.nodup_cons.mpr ⟨fun z => ?_, nodup_num' h.2⟩
    obtain ⟨j, hj, e⟩ := List.mem_map.mp z
    cases e
    exact h.1 hj
theorem isInt_self (i : Int) (t : Nat) : Value.isInt i (.int i t) = true := by simp [Value.isInt]
theorem dicI (I : Inv X pins σ H s) (h : H a = some (DictNO a ys)) (hk : KeysIn X.K G ys) (ht : ∀ y ∈ ys, numK y.1 = true) : ys.length ≤ sizeLine ∧ (a == sysModules) = false ∧ ∃ xs, IV ys xs ∧ s.heap.DictOf (intKind X.prog X.w) a xs := by
  obtain ⟨⟨l, sm, nd, w, o, es, ep, h1, h2, h3, pr⟩, _⟩ := (show ObjOk X.prog X.w H s.heap a (DictNO a ys) from I.hok a _ h)
  refine ⟨l, sm, ?_⟩
  have key : ∀ {ys : List Ent} {es : List DictEntry}, Paired (fun (y : Ent) (e : DictEntry) => e.hash = y.1.hash w ∧ RelV y.2.1 e.key ∧ RelV y.2.2 e.val) ys es → KeysIn X.K G ys → (∀ y ∈ ys, numK y.1 = true) →
      ∃ xs, IV ys xs ∧ Pairs (intKind X.prog X.w) es xs ∧ ∀ e ∈ es, ∃ k, (intKind X.prog X.w).is k e.key = true ∧ e.hash = (intKind X.prog X.w).hash k := by
    intro ys es pr
    induction pr with
    | nil => exact fun _ _ => ⟨[], .nil, .nil, fun x hx => by cases hx⟩
    | @cons y en ys es hy t ih =>
      intro hk ht
      obtain ⟨xs, g1, g2, g3⟩ := ih (fun z hz => hk z (List.mem_cons_of_mem _ hz)) fun z hz => ht z (List.mem_cons_of_mem _ hz)
      obtain ⟨a1, a2, a3⟩ := hy
      obtain ⟨k1, k2⟩ := hk y (List.mem_cons_self ..)
      obtain ⟨i, hi, hv⟩ := dat_num k2 (ht y (List.mem_cons_self ..))
      rw [hv] at a2
      obtain ⟨tk, ek⟩ : ∃ tk, en.key = .int i tk := a2
      rw [hi] at a1
      refine ⟨(i, en.val) :: xs, .cons ⟨hi, hv, a3⟩ g1, .cons (by rw [ek]; exact isInt_self i tk) rfl g2, fun x hx => ?_⟩
      rcases List.mem_cons.mp hx with rfl | hx
      · exact ⟨i, by rw [ek]; exact isInt_self i tk, a1⟩
      · exact g3 x hx
  obtain ⟨xs, g1, g2, g3⟩ := key pr hk ht
  exact ⟨xs, g1, o, es, ep, h1, h2, h3, fun e he => g3 e (Array.mem_def.mp he), g2, by rw [g1.keys] at nd; exact nodup_num nd⟩
theorem rawOfI {P : Program} {w : World} {h : Heap} {xs : List (Int × Value)} (r : IV ys xs) (d : h.DictOf (intKind P w) a xs) (l : ys.length ≤ sizeLine) (sm : (a == sysModules) = false) : RawDic h a ys := by
  obtain ⟨o, es, ep, h1, h2, h3, h4, h5, h6⟩ := d
  refine ⟨l, sm, by rw [r.keys]; exact nodup_num' h6, w, o, es, ep, h1, h2, h3, ?_⟩
  have h4 : ∀ e ∈ es.toList, ∃ k, (intKind P w).is k e.key = true ∧ e.hash = (intKind P w).hash k := fun e he => h4 e (Array.mem_def.mpr he)
  generalize es.toList = es at h4 h5
  clear h6 l
  unfold IV at r
  induction r generalizing es with
  | nil => cases h5; exact .nil
  | @cons y x ys xs h t ih =>
    cases h5 with
    | @cons e _ es _ g1 g2 g3 =>
      obtain ⟨a1, a2, a3⟩ := h
      obtain ⟨k, k1, k2⟩ := h4 e (List.mem_cons_self ..)
      obtain ⟨tk, ek⟩ := Value.isInt_shape g1
      have ekk : k = x.1 := (intKind P w).inj _ _ _ k1 g1
      refine .cons ⟨?_, ?_, ?_⟩ (ih es (fun e he => h4 e (List.mem_cons_of_mem _ he)) g3)
      · rw [k2, ekk, a1]; rfl
      · rw [a2, ek]; exact ⟨tk, rfl⟩
      · rw [g2]; exact a3
theorem dic_obj {P : Program} {w : World} {H' : Hp} {h : Heap} (r : RawDic h a ys) : ObjOk P w H' h a (DictNO a ys) := by
  refine ⟨r, ?_, fun h1 h2 q k => ?_⟩
  · obtain ⟨_, _, _, _, o, _, _, h1, _⟩ := r
    exact ⟨o, h1⟩
  · obtain ⟨l, sm, nd, w, o, es, ep, g1, g2⟩ := q
    exact ⟨l, sm, nd, w, o, es, ep, k _ g1, g2⟩
def putE (ys : List Ent) (k : NestedKey) (b : V) (v : V) : List Ent := if (ys.any fun y => decide (y.1 = k)) = true then ys.map (fun y => if y.1 = k then (y.1, y.2.1, v) else y) else ys ++ [(k, b, v)]
theorem putE_len (ys : List Ent) (k : NestedKey) (b : V) (v : V) : (putE ys k b v).length ≤ ys.length + 1 := by
  unfold putE
  split <;> simp
theorem EV.put {xs : List (NestedKey × Addr × Value)} (r : EV ys xs) (k : NestedKey) (b : Addr) {v : V} {u : Value} (rv : RelV v u) : EV (putE ys k (.ref b) v) (storedH xs k b u) := by
  have e : (ys.any fun y => decide (y.1 = k)) = (atKey xs k).isSome := by
    unfold EV at r
    induction r with
    | nil => rfl
    | @cons p q ps qs h t ih =>
      obtain ⟨h1, _, _⟩ := h
      by_cases z : p.1 = k
      · have z' : q.1 = k := h1.symm.trans z
        simp [atKey, List.find?_cons, z, z']
      · have z' : ¬ q.1 = k := fun y => z (h1.trans y)
        rw [List.any_cons, decide_eq_false z, Bool.false_or, ih]
        simp [atKey, List.find?_cons, z']
  unfold putE storedH
  rw [e]
  by_cases q : (atKey xs k).isSome = true
  · rw [if_pos q, if_pos q]
    clear e q
    unfold EV at r ⊢
    induction r with
    | nil => exact .nil
    | @cons p q ps qs h t ih =>
      rw [List.map_cons, List.map_cons]
      refine .cons ?_ ih
      obtain ⟨h1, h2, h3⟩ := h
      unfold putAt
      by_cases z : p.1 = k
      · rw [if_pos z, if_pos (h1.symm.trans z)]; exact ⟨h1, h2, rv⟩
      · rw [if_neg z, if_neg (fun y => z (h1.trans y))]; exact ⟨h1, h2, h3⟩
  · rw [if_neg q, if_neg q]
    exact Paired.snoc r ⟨rfl, rfl, rv⟩
theorem IV.put {xs : List (Int × Value)} (r : IV ys xs) (k : Int) {v : V} {u : Value} (rv : RelV v u) : IV (putE ys (.num k) (.int k) v) (stored xs k u) := by
  have e : (ys.any fun y => decide (y.1 = NestedKey.num k)) = xs.any fun x => decide (x.1 = k) := by
    unfold IV at r
    induction r with
    | nil => rfl
    | @cons p q ps qs h t ih =>
      rw [List.any_cons, List.any_cons, ih, h.1]
      congr 1
      simp
  unfold putE stored
  rw [e]
  by_cases q : (xs.any fun x => decide (x.1 = k)) = true
  · rw [if_pos q, if_pos q]
    clear e q
    unfold IV at r ⊢
    induction r with
    | nil => exact .nil
    | @cons p q ps qs h t ih =>
      rw [List.map_cons, List.map_cons]
      refine .cons ?_ ih
      obtain ⟨h1, h2, h3⟩ := h
      by_cases z : q.1 = k
      · have z' : p.1 = .num k := by rw [h1, z]
        rw [if_pos z, if_pos z']; exact ⟨h1, h2, rv⟩
      · have z' : ¬ p.1 = .num k := by rw [h1]; simpa using z
        rw [if_neg z, if_neg z']; exact ⟨h1, h2, h3⟩
  · rw [if_neg q, if_neg q]
    exact Paired.snoc r ⟨rfl, rfl, rv⟩
section
variable {K : PySem.W.Frag} {G : Hp} {k : NestedKey} {b : V} {v : V} {d : D}
theorem DatKs.any (hk : kOk k = true) : ∀ {ys : List Ent} {kvs : List (D × D)}, DatKs K G ys kvs → (ys.any fun y => decide (y.1 = k)) = kvs.any fun p => PyData.eqv p.1 k.data
  | _, _, .nil => rfl
  | _, _, .cons a1 a2 a3 t => by rw [List.any_cons, List.any_cons, DatKs.any hk t, eqv_dec a1 hk]
theorem DatKs.repl (hk : kOk k = true) (h2 : Dat K G v d) : ∀ {ys : List Ent} {kvs : List (D × D)}, DatKs K G ys kvs → DatKs K G (ys.map fun y => if y.1 = k then (y.1, y.2.1, v) else y) (kvs.map fun p => if PyData.eqv p.1 k.data = true then (p.1, d) else p)
  | _, _, .nil => .nil
  | _, _, @DatKs.cons _ _ k2 b2 v2 d2 _ _ a1 a2 a3 t => by
    rw [List.map_cons, List.map_cons]
    by_cases z : k2 = k
    · have z2 : PyData.eqv k2.data k.data = true := by rw [eqv_dec a1 hk]; exact decide_eq_true z
      rw [if_pos z, if_pos z2]
      exact .cons a1 a2 h2 (DatKs.repl hk h2 t)
    · have z2 : ¬ PyData.eqv k2.data k.data = true := by rw [eqv_dec a1 hk]; simpa using z
      rw [if_neg z, if_neg z2]
      exact .cons a1 a2 a3 (DatKs.repl hk h2 t)
theorem DatKs.snoc (hk : kOk k = true) (h1 : Dat K G b k.data) (h2 : Dat K G v d) : ∀ {ys : List Ent} {kvs : List (D × D)}, DatKs K G ys kvs → DatKs K G (ys ++ [(k, b, v)]) (kvs ++ [(k.data, d)])
  | _, _, .nil => .cons hk h1 h2 .nil
  | _, _, .cons a1 a2 a3 t => .cons a1 a2 a3 (DatKs.snoc hk h1 h2 t)
theorem DatKs.put (hk : kOk k = true) (h1 : Dat K G b k.data) (h2 : Dat K G v d) {ys : List Ent} {kvs : List (D × D)} (t : DatKs K G ys kvs) : DatKs K G (putE ys k b v) (putKV kvs k.data d) := by
  unfold putE putKV
  rw [t.any hk]
  split
  · exact t.repl hk h2
  · exact t.snoc hk h1 h2
end
theorem keyK_ok {kvs : List (D × D)} {d : D} (h : keyK kvs d = true) : ∃ k, k.data = d ∧ kOk k = true ∧ ((tupK k = true ∧ (kvs.all fun p => isTupD p.1) = true) ∨ (numK k = true ∧ (kvs.all fun p => isIntD p.1) = true)) := by
  unfold keyK at h
  rw [Bool.or_eq_true, Bool.and_eq_true, Bool.and_eq_true] at h
  rcases h with ⟨h1, h2⟩ | ⟨h1, h2⟩
  · obtain ⟨k, xs, e, hk, ho⟩ := keyOk_ok h1
    refine ⟨k, hk, ho, .inl ⟨?_, h2⟩⟩
    rw [e] at hk
    cases k with
    | tup ks => rfl
    | none => simp [NestedKey.data] at hk
    | num i => simp [NestedKey.data] at hk
    | text x => simp [NestedKey.data] at hk
  · unfold isIntD at h1
    split at h1
    · rename_i i
      exact ⟨.num i, rfl, rfl, .inr ⟨rfl, h2⟩⟩
    · cases h1
theorem DatKs.alike {K : PySem.W.Frag} {G : Hp} {ys : List Ent} {kvs : List (D × D)} {k : NestedKey} (t : DatKs K G ys kvs) (h : (tupK k = true ∧ (kvs.all fun p => isTupD p.1) = true) ∨ (numK k = true ∧ (kvs.all fun p => isIntD p.1) = true)) : (tupK k = true ∧ ∀ y ∈ ys, tupK y.1 = true) ∨ (numK k = true ∧ ∀ y ∈ ys, numK y.1 = true) := by
  rcases h with ⟨h1, h2⟩ | ⟨h1, h2⟩
  · exact .inl ⟨h1, t.tups h2⟩
  · exact .inr ⟨h1, t.nums h2⟩
def alikeK (ys : List Ent) (k : NestedKey) : Prop := (tupK k = true ∧ ∀ y ∈ ys, tupK y.1 = true) ∨ (numK k = true ∧ ∀ y ∈ ys, numK y.1 = true)
def rSetN (K : PySem.W.Frag) : V → V → V → Hp → (Hp → Prop) → Prop := fun o i v H Q => ∃ p ys k G, o = .ref p ∧ H p = some (DictNO p ys) ∧ Same G H ∧ kOk k = true ∧ Dat K G i k.data ∧ KeysIn K G ys ∧ alikeK ys k ∧ ys.length < sizeLine ∧ Q (upd H p (DictNO p (putE ys k i v)))
theorem set_dic {X : Cx} (hu : X.A.units + 70 < cLine) : PSet X (rSetN X.K) := by
  intro pins s σ H o i v ov iv u Q I ro ri rv h
  obtain ⟨p, ys, k, G, rfl, hp, e, kk, hb, hk, al, hl, q⟩ := h
  cases ro
  have hlen : (putE ys k i v).length ≤ sizeLine := by
    have := putE_len ys k i v
    omega
  rcases al with ⟨kt, at'⟩ | ⟨kt, at'⟩
  · obtain ⟨b, rfl⟩ := dat_tup hb kt
    cases (show iv = Value.ref b from ri)
    obtain ⟨l, sm, xs, r, d⟩ := dicH I e hp hk at'
    have hz : xs.length ≤ sizeLine := by rw [← r.length]; exact l
    unfold kOk at kk
    obtain ⟨k1, k2⟩ := Bool.and_eq_true_iff.mp kk
    refine wpAny_setItem_heap (knd := nestedKind X.prog X.w) (hsz := hz) (show X.A.in1.units + 8 < cLine by rw [Around.in1_units]; omega) ⟨nested_of I e _ _ _ k1 hb rfl, of_decide_eq_true k2⟩ d fun h' dd' hs => ⟨_, ?_, q⟩
    obtain ⟨q1, es, ep, hq, rest⟩ := id dd'
    exact d_write I (by rw [hp]; exact True.intro) hs ⟨q1, hq⟩ (dic_obj (rawOf (r.put k b rv) dd' hlen sm))
  · obtain ⟨j, rfl, rfl⟩ := dat_num hb kt
    obtain ⟨tk, rfl⟩ : ∃ tk, iv = Value.int j tk := ri
    obtain ⟨l, sm, xs, r, d⟩ := dicI I hp hk at'
    have hz : xs.length ≤ sizeLine := by rw [← r.length]; exact l
    refine wpAny_setItem_pairs (knd := intKind X.prog X.w) (hsz := hz) (isInt_self j tk) d fun h' dd' hs => ⟨_, ?_, q⟩
    obtain ⟨q1, es, ep, hq, rest⟩ := id dd'
    exact d_write I (by rw [hp]; exact True.intro) hs ⟨q1, hq⟩ (dic_obj (rawOfI (r.put j rv) dd' hlen sm))
def tDNewN : TE := fun _ H Q => ∀ p, H p = none → Q (.ref p) (upd H p (DictNO p []))
theorem pe_dnewN {X : Cx} {pos : Pos} : PE X (.Dict [] [] pos) tDNewN := ⟨fun pins s σ H Q I h =>
  wpAny_Dict_empty ⟨.ref s.heap.objs.size, _, I.laid (a := s.heap.objs.size) (o := DictNO s.heap.objs.size []) (t' := s.toks) (fun _ _ q => Heap.get?_push_of_some _ q) (Nat.le_refl _)
    (dic_obj ⟨Nat.zero_le _, beq_eq_false_iff_ne.mpr (Ne.symm (Nat.ne_of_lt I.big)), List.nodup_nil, X.w, _, #[], 0, Heap.get?_push_size _ rfl, ⟨rfl, rfl, rfl⟩, rfl, .nil⟩), rfl, h _ (I.hok.fresh (Nat.le_refl _))⟩⟩
def tDisp1 (K : PySem.W.Frag) (tk tv : TE) : TE := fun σ H Q => ∀ p, H p = none → tk σ (upd H p (DictNO p [])) fun x H1 => tv σ H1 fun y H2 => H2 p = some (DictNO p []) ∧ ∃ k G, Same G H2 ∧ kOk k = true ∧ (tupK k = true ∨ numK k = true) ∧ Dat K G x k.data ∧ Q (.ref p) (upd H2 p (DictNO p [(k, x, y)]))
theorem pe_disp1 {X : Cx} {ke ve : Expr} {pos : Pos} {tk tv : TE} (hu : X.A.units + 70 < cLine) (hk : PE X ke tk) (hv : PE X ve tv) : PE X (.Dict [some ke] [ve] pos) (tDisp1 X.K tk tv) := by
  refine ⟨fun pins s σ H Q I q => ?_⟩
  have hn := I.hok.fresh (Nat.le_refl s.heap.objs.size)
  have I1 := I.laid (a := s.heap.objs.size) (o := DictNO s.heap.objs.size []) (h' := s.heap.push { cls := .type "dict", data := .dict #[] }) (t' := s.toks) (fun _ _ q => Heap.get?_push_of_some _ q) (Nat.le_refl _)
    (dic_obj ⟨Nat.zero_le _, beq_eq_false_iff_ne.mpr (Ne.symm (Nat.ne_of_lt I.big)), List.nodup_nil, X.w, _, #[], 0, Heap.get?_push_size _ rfl, ⟨rfl, rfl, rfl⟩, rfl, .nil⟩)
  refine wpAny_Dict_any rfl rfl (by simp) (by simp) (pairTrees_cons_walk (thn (hk.run pins _ σ _ _ I1 (q _ hn)) fun u s1 ⟨x, H1, I2, rx, q1⟩ => thn (hv.run pins s1 σ H1 _ I2 q1) fun w2 s2 ⟨y, H2, I3, ry, hp, k, G, e, kk, kd, hd, q2⟩ => pairTrees_nil_walk ?_))
  unfold storeAll
  have kin : KeysIn X.K G [] := fun y hy => by cases hy
  unfold kOk at kk
  obtain ⟨k1, k2⟩ := Bool.and_eq_true_iff.mp kk
  rcases kd with kt | kt
  · obtain ⟨b, rfl⟩ := dat_tup hd kt
    cases (show u = Value.ref b from rx)
    obtain ⟨l, sm, xs, r, d⟩ := dicH I3 e hp kin (fun y hy => by cases hy)
    cases r
    refine wpAny_storeAllH (knd := nestedKind X.prog X.w) (show X.A.units + 8 < cLine by omega) [(.ref b, w2)] [(k, b, w2)] [] s2 _ ⟨rfl, rfl, ⟨nested_of I3 e _ _ _ k1 hd rfl, of_decide_eq_true k2⟩, True.intro⟩ d (by rw [sizeLine_eq]; simp) fun h' tk dd' hs => ⟨.ref s.heap.objs.size, _, ?_, rfl, q2⟩
    obtain ⟨q1, es, ep, hq, rest⟩ := id dd'
    exact d_write I3 (by rw [hp]; exact True.intro) hs ⟨q1, hq⟩ (dic_obj (rawOf (.cons ⟨rfl, rfl, ry⟩ .nil) dd' (by rw [sizeLine_eq]; simp) sm))
  · obtain ⟨j, rfl, rfl⟩ := dat_num hd kt
    obtain ⟨tk, rfl⟩ : ∃ tk, u = Value.int j tk := rx
    obtain ⟨l, sm, xs, r, d⟩ := dicI I3 hp kin (fun y hy => by cases hy)
    cases r
    refine wpAny_storeAll (knd := intKind X.prog X.w) [(.int j tk, w2)] [(j, w2)] [] s2 _ ⟨isInt_self j tk, rfl, True.intro⟩ d (by rw [sizeLine_eq]; simp) fun h' dd' hs => ⟨.ref s.heap.objs.size, _, ?_, rfl, q2⟩
    obtain ⟨q1, es, ep, hq, rest⟩ := id dd'
    exact d_write I3 (by rw [hp]; exact True.intro) hs ⟨q1, hq⟩ (dic_obj (rawOfI (.cons ⟨rfl, rfl, ry⟩ .nil) dd' (by rw [sizeLine_eq]; simp) sm))
end
def zsort (xs : List V) (ds : List D) : List V := ((xs.zip ds).mergeSort fun a b => !PySem.W.dataLt b.2 a.2).map (·.1)
section
variable {K : PySem.W.Frag} {G H : Hp} {xs : List V} {ds : List D}
theorem Dats.mem : ∀ {xs : List V} {ds : List D}, Dats K G xs ds → ∀ p ∈ xs.zip ds, Dat K G p.1 p.2
  | _, _, .nil, p, h => by simp at h
  | _, _, .cons h1 t, p, h => by
    rcases List.mem_cons.mp h with rfl | h
    · exact h1
    · exact Dats.mem t p h
theorem Dats.of_mem : ∀ (L : List (V × D)), (∀ p ∈ L, Dat K G p.1 p.2) → Dats K G (L.map (·.1)) (L.map (·.2))
  | [], _ => .nil
  | p :: L, h => .cons (h p (List.mem_cons_self ..)) (Dats.of_mem L fun q hq => h q (List.mem_cons_of_mem _ hq))
theorem Dats.sort (t : Dats K G xs ds) : Dats K G (zsort xs ds) (sortD ds) := by
  have h := Dats.of_mem ((xs.zip ds).mergeSort fun a b => !PySem.W.dataLt b.2 a.2) fun p hp => t.mem p (List.mem_mergeSort.mp hp)
  have e : ((xs.zip ds).mergeSort fun a b => !PySem.W.dataLt b.2 a.2).map (·.2) = sortD ds := by
    unfold sortD
    rw [List.map_mergeSort (s := fun a b => !PySem.W.dataLt b a) (fun a _ b _ => rfl), List.map_snd_zip (by rw [t.length]; exact Nat.le_refl _)]
  rw [e] at h
  exact h
theorem zsort_len (h : xs.length = ds.length) : (zsort xs ds).length = ds.length := by
  unfold zsort
  rw [List.length_map, List.length_mergeSort, List.length_zip, h, Nat.min_self]
theorem sortOk_ok (h : sortOk ds = true) : ds.length ≤ 1000000 ∧ PySem.W.AllAlike ds ∧ PySem.W.Sortable ds ∧ ∀ d ∈ ds, okD d = true := by
  unfold sortOk lenOk at h
  simp only [Bool.and_eq_true, Bool.or_eq_true, decide_eq_true_eq, List.all_eq_true] at h
  obtain ⟨⟨⟨h1, h2⟩, h3⟩, h4⟩ := h
  refine ⟨h1, fun d hd d' hd' => h2 d hd d' hd', ?_, h4⟩
  rcases h3 with h3 | h3
  · refine .inl fun d hd => ?_
    have := h3 d hd
    unfold tupB at this
    split at this
    · exact ⟨_, _, rfl⟩
    · cases this
  · refine .inr fun d hd => ?_
    have := h3 d hd
    unfold ntupB at this
    split at this
    · cases this
    · cases this
    · rename_i q1 q2
      exact ⟨fun z => q2 z, fun zs z => q1 _ z⟩
end
open PySem.W in
theorem each_zip {h : Heap} : ∀ {xs : List V} {us : List Value} {ds : List D} {as : List Addr}, Vals xs us → ReadsAll h us ds as → EachIs (fun v (b : V × D) => RelV b.1 v) us (xs.zip ds) ∧ EachIs (fun v (b : V × D) => ∃ as, Reads h v b.2 as) us (xs.zip ds) ∧ (xs.zip ds).map (·.2) = ds ∧ us.length = ds.length
  | _, _, [], _, .nil, r => ⟨.nil, .nil, rfl, rfl⟩
  | _, _, [], _, .cons _ _, r => by cases r
  | _, _, d :: ds, _, .nil, r => by cases r
  | _, _, d :: ds, _, .cons r1 t, r => by
    cases r with
    | cons h1 h2 =>
      obtain ⟨a1, a2, a3, a4⟩ := each_zip t h2
      exact ⟨.cons r1 a1, .cons ⟨_, h1⟩ a2, by rw [List.zip_cons_cons, List.map_cons, a3], by simp [a4]⟩
open PySem.W in
theorem vals_each : ∀ {us : List Value} {L : List (V × D)}, EachIs (fun v (b : V × D) => RelV b.1 v) us L → Vals (L.map (·.1)) us
  | _, _, .nil => .nil
  | _, _, .cons h t => .cons h (vals_each t)
section
variable {X : Cx}
def rSortL (K : PySem.W.Frag) : List V → Hp → VK → Prop := fun vs H Q => ∃ a xs ds, vs = [.ref a] ∧ SqL K H a xs ∧ DpAll K H xs ds ∧ sortOk ds = true ∧ ∀ p, H p = none → Q (.ref p) (upd H p (.lst (zsort xs ds)))
theorem cr_sortL (hu : X.A.units + 70 < cLine) : CallR X (.builtin "sorted") (rSortL X.K) := by
  intro pins s σ H vs us Q I r h
  obtain ⟨a, xs, ds, rfl, hs, hd, ho, q⟩ := h
  obtain ⟨u, rfl, rx⟩ := vals1 r
  cases rx
  obtain ⟨its, rv, pl, hz⟩ := I.list hs
  obtain ⟨as, rd⟩ := Dp.readsAll I ds xs its hd rv
  obtain ⟨e1, e2, e3, e4⟩ := each_zip rv rd
  obtain ⟨h1, h2, h3, h4⟩ := sortOk_ok ho
  have hlen := rv.length
  have hzip : (xs.zip ds).length = ds.length := by rw [List.length_zip]; omega
  refine PySem.W.sorted_data (β := V × D) (enc := (·.2)) (R := fun v b => RelV b.1 v) pl.isList e1 e2 (by rw [e3]; exact h2) (by rw [e3]; exact h3) (by rw [hzip]; omega) (fun b hb => ?_) fun out hl eo => ?_
  · have hm : b.2 ∈ ds := by rw [← e3]; exact List.mem_map.mpr ⟨b, hb, rfl⟩
    have := SeqAt.depth_of_shaped (okD_sh (h4 _ hm))
    omega
  · obtain ⟨c, hc⟩ := PyProof.Rows.sortedAll_at s.heap its out.toArray
    have hv : Vals (zsort xs ds) out := vals_each eo
    have zl := zsort_len (xs := xs) (ds := ds) (by omega)
    refine ⟨.ref (s.heap.objs.size + 1), _, I.laid (t' := s.toks) (o := .lst (zsort xs ds)) (fun _ _ z => PyProof.Rows.sortedAll_old z) (Nat.le_succ _) ⟨by omega, out, c, hv, hc⟩, rfl, q _ (I.hok.fresh (Nat.le_succ _))⟩
theorem kdl_raw {prog : Program} {w : World} {d : Addr} {es : Array DictEntry} {ep : Nat} (lo : (d == sysModules) = false) : PySem.W.KdlSrc prog w "dict" d d es.size (fun i v => ∃ hi : i < es.size, v = es[i].key) (fun h => h.DictRaw d es ep) where
  type := fun _ hm => hm.typeIs
  there := fun _ hm => let ⟨_, ho, _⟩ := hm; ⟨Heap.lt_size ho, Heap.lt_size ho⟩
  keep := fun _ _ hm hk => hm.at fun o e => hk d (.inl rfl) o e
  notList := by decide
  notTuple := by decide
  hint := fun _ _ _ _ hm hq => PySem.W.kdl_hint_dict hm.typeIs hq
  iter := fun _ s hh hm => ⟨_, _, (fun _ _ hq => wpAny_pyIter_dict_raw lo hm hq), Walks.rawKeys hh _ d (Nat.ne_of_lt (let ⟨_, ho, _⟩ := hm; Heap.lt_size ho)) es ep, ⟨⟨_, Heap.get?_push_size _ rfl, rfl, rfl⟩, hm.at fun o e => Heap.get?_push_of_some _ e⟩⟩
def kRefs (ys : List Ent) : List V := ys.map fun y => y.2.1
theorem DatKs.dats {K : PySem.W.Frag} {G : Hp} : ∀ {ys : List Ent} {kvs : List (D × D)}, DatKs K G ys kvs → Dats K G (kRefs ys) (kvs.map (·.1))
  | _, _, .nil => .nil
  | _, _, .cons _ h1 _ t => .cons h1 (DatKs.dats t)
theorem DatKs.reads {pins : List (Addr × Obj)} {s : Shared} {σ : L2.St} {G H : Hp} (I : Inv X pins σ H s) (e : Same G H) : ∀ {ys : List Ent} {kvs : List (D × D)}, DatKs X.K G ys kvs → ∀ us, Vals (kRefs ys) us → ReadsAll s.heap us (kvs.map (·.1)) []
  | _, _, .nil, us, r => by cases r; exact .nil
  | _, _, .cons k h1 _ t, us, r => by
    cases r with
    | cons r1 t2 =>
      unfold kOk at k
      exact .cons (as := []) (reads_of I e _ _ _ (Bool.and_eq_true_iff.mp k).1 h1 r1) (DatKs.reads I e t _ t2)
theorem paired_at : ∀ {w : World} {ys : List Ent} {es : List DictEntry}, Paired (fun (y : Ent) (e : DictEntry) => e.hash = y.1.hash w ∧ RelV y.2.1 e.key ∧ RelV y.2.2 e.val) ys es → ∀ (i : Nat) (y : Ent) (e : DictEntry), ys[i]? = some y → es[i]? = some e → RelV y.2.1 e.key ∧ RelV y.2.2 e.val := by
  intro w ys es pr
  induction pr with
  | nil => intro i y e h; simp at h
  | cons h t ih =>
    intro i y e hy he
    cases i with
    | zero =>
      simp only [List.getElem?_cons_zero, Option.some.injEq] at hy he
      subst hy he
      exact h.2
    | succ i => exact ih i y e (by simpa using hy) (by simpa using he)
theorem rawAt {pins : List (Addr × Obj)} {s : Shared} {σ : L2.St} {H : Hp} {a : Addr} {ys : List Ent} (I : Inv X pins σ H s) (h : H a = some (DictNO a ys)) : ys.length ≤ sizeLine ∧ (a == sysModules) = false ∧ ∃ es ep, s.heap.DictRaw a es ep ∧ es.size = ys.length ∧ ∀ i (hi : i < es.size) y, ys[i]? = some y → RelV y.2.1 es[i].key := by
  obtain ⟨⟨l, sm, nd, w, o, es, ep, h1, h2, h3, pr⟩, _⟩ := (show ObjOk X.prog X.w H s.heap a (DictNO a ys) from I.hok a _ h)
  have hl : es.size = ys.length := by rw [← Array.length_toList]; exact (Paired.length pr).symm
  exact ⟨l, sm, es, ep, ⟨o, h1, h2, h3⟩, hl, fun i hi y hy => (paired_at pr i y es[i] hy (by rw [Array.getElem?_toList, Array.getElem?_eq_getElem hi])).1⟩
def rSortN (K : PySem.W.Frag) : List V → Hp → VK → Prop := fun vs H Q => ∃ a ys kvs G, vs = [.ref a] ∧ H a = some (DictNO a ys) ∧ Same G H ∧ DatKs K G ys kvs ∧ sortOk (kvs.map (·.1)) = true ∧ ∀ p, H p = none → Q (.ref p) (upd H p (.lst (zsort (kRefs ys) (kvs.map (·.1)))))
theorem cr_sortN (hcalm : X.calm = true) (hu : X.A.units + 70 < cLine) : CallR X (.builtin "sorted") (rSortN X.K) := by
  intro pins s σ H vs us Q I r h
  obtain ⟨a, ys, kvs, G, rfl, hd, e, t, ho, q⟩ := h
  obtain ⟨u, rfl, rx⟩ := vals1 r
  cases rx
  obtain ⟨l, lo, es, ep, raw, hl, hes⟩ := rawAt I hd
  obtain ⟨h1, h2, h3, h4⟩ := sortOk_ok ho
  have kl := t.length
  rw [List.length_map] at h1
  refine Calls.call_function_entry PyProof.Rows.kind_sorted PyProof.Rows.plain_sorted PyProof.Rows.entry_sorted (PyProof.Rows.args_sorted1 _) ?_
  unfold Builtin.«sorted»
  refine wpAny_bind (m := checkCount "sorted" 1 1 _) (wpAny_pure ?_)
  refine wpAny_bind (PySem.W.kdu_collect (A := X.A.in1) (kdl_raw (es := es) (ep := ep) lo) (I.ok.hd hcalm) raw (by rw [hl]; exact l) fun h' tk acc hk hacc => ?_)
  have hal : acc.toList.length = ys.length := by rw [Array.length_toList, hacc.1, hl]
  have hv : Vals (kRefs ys) acc.toList := by
    have key : ∀ (ys : List Ent) (us : List Value), us.length = ys.length → (∀ (j : Nat) (y : Ent), ys[j]? = some y → ∃ u, us[j]? = some u ∧ RelV y.2.1 u) → Vals (kRefs ys) us := by
      intro ys
      induction ys with
      | nil => intro us hl _; cases us with
        | nil => exact .nil
        | cons _ _ => simp at hl
      | cons y ys ih =>
        intro us hl hh
        cases us with
        | nil => simp at hl
        | cons u us =>
          obtain ⟨u', h0, h0'⟩ := hh 0 y rfl
          simp only [List.getElem?_cons_zero, Option.some.injEq] at h0
          subst h0
          exact .cons h0' (ih us (by simpa using hl) fun j y hj => by have := hh (j + 1) y (by simpa using hj); simpa using this)
    refine key ys acc.toList hal fun j y hj => ?_
    have jl : j < ys.length := get_lt hj
    have ja : j < acc.size := by rw [hacc.1, hl]; exact jl
    rw [Array.getElem?_toList, Array.getElem?_eq_getElem ja]
    obtain ⟨hi, hk2⟩ := hacc.2 j _ (Array.getElem?_eq_getElem ja)
    refine ⟨_, rfl, ?_⟩
    rw [hk2]
    exact hes j hi y hj
  have I1 : Inv X pins σ H { s with heap := h', toks := tk } := I.kept hk
  refine wpAny_bind (wpAny_newList ?_ (by rw [hal]; exact l))
  have hoL : (h'.push (seqObj "list" acc.toList.toArray 0)).get? h'.objs.size = some (seqObj "list" acc.toList.toArray 0) := Heap.get?_push_size _ rfl
  show wpAny _ _ _ _ _ { s with heap := h'.push (seqObj "list" acc.toList.toArray 0), toks := tk }
  have rd := DatKs.reads I1 e t _ hv
  obtain ⟨e1, e2, e3, e4⟩ := each_zip hv rd
  have hzip : ((kRefs ys).zip (kvs.map (·.1))).length = ys.length := by rw [List.length_zip]; unfold kRefs; simp; omega
  have e2' : PySem.W.EachIs (fun v (b : V × D) => ∃ as, Reads (h'.push (seqObj "list" acc.toList.toArray 0)) v b.2 as ∧ h'.objs.size ∉ as) acc.toList ((kRefs ys).zip (kvs.map (·.1))) := by
    have g : ∀ {us : List Value} {xs : List V} {ds : List D}, Vals xs us → ReadsAll h' us ds [] → PySem.W.EachIs (fun v (b : V × D) => ∃ as, Reads (h'.push (seqObj "list" acc.toList.toArray 0)) v b.2 as ∧ h'.objs.size ∉ as) us (xs.zip ds) := by
      intro us xs ds rv
      induction rv generalizing ds with
      | nil => intro _; cases ds <;> exact .nil
      | @cons x u xs us r t ih =>
        intro rd
        generalize hz : ([] : List Addr) = zz at rd
        cases rd with
        | @cons _ _ d ds' a1 a2 b1 b2 =>
          have hz' : a1 ++ a2 = [] := hz.symm
          obtain ⟨rfl, rfl⟩ := List.append_eq_nil_iff.mp hz'
          exact .cons ⟨[], PyProof.Rows.Reads.keeps (fun _ _ z => Heap.get?_push_of_some _ z) b1, by simp⟩ (ih b2)
    exact g hv rd
  refine wpAny_bind (wpAny_holding (PySem.W.list_sort_data (β := V × D) (enc := (·.2)) (R := fun v b => RelV b.1 v) (s := { s with heap := h'.push (seqObj "list" acc.toList.toArray 0), toks := tk }) hoL e1 e2' (by rw [e3]; exact h2) (by rw [e3]; exact h3) (by rw [hzip]; exact l) (fun b hb => ?_) fun out hl2 eo => ?_))
  · have hm : b.2 ∈ kvs.map (·.1) := by rw [← e3]; exact List.mem_map.mpr ⟨b, hb, rfl⟩
    have := SeqAt.depth_of_shaped (okD_sh (h4 _ hm))
    rw [Around.in1_units]
    omega
  · obtain ⟨c, hc⟩ := PyProof.Rows.sortedHeap_at (vs := acc.toList) (out := out.toArray) hoL
    have hv2 : Vals (zsort (kRefs ys) (kvs.map (·.1))) out := vals_each eo
    have zl := zsort_len (xs := kRefs ys) (ds := kvs.map (·.1)) (by unfold kRefs; simp; omega)
    rw [List.length_map] at zl
    refine wpAny_pure ⟨_, rfl, .ref h'.objs.size, upd H h'.objs.size (.lst (zsort (kRefs ys) (kvs.map (·.1)))), I1.laid (t' := tk) (fun b u z => ?_) (Nat.le_refl _) ⟨by omega, out, c, hv2, hc⟩, rfl, q _ (I1.hok.fresh (Nat.le_refl _))⟩
    have hb : b < h'.objs.size := Heap.lt_size z
    rw [PyProof.Rows.sortedHeap_old (Nat.ne_of_lt hb) (by rw [size_push']; exact Nat.lt_succ_of_lt hb)]
    exact Heap.get?_push_of_some _ z
end
end Vi
set_option maxHeartbeats 4000000
namespace Vi
open PySem PySem.Spec PyProof.Rows L2
def kSok (k : NestedKey) : Bool := plainKey k && decide (k.depth ≤ 8)
def KAt (h : Heap) (k : NestedKey) (a : Addr) : Prop := NestedIs h k (.ref a) ∧ kSok k = true
section
variable {P : Program} {w : World} {A : Around} {E : Value → Shared → Prop} {s : Shared}
theorem KAt.plain {h : Heap} {k : NestedKey} {a : Addr} (x : KAt h k a) : plainKey k = true := (Bool.and_eq_true_iff.mp x.2).1
theorem KAt.dep {h : Heap} {k : NestedKey} {a : Addr} (x : KAt h k a) : k.depth ≤ 8 := of_decide_eq_true (Bool.and_eq_true_iff.mp x.2).2
theorem KAt.grow {h h' : Heap} {k : NestedKey} {a : Addr} (x : KAt h k a) (g : ∀ c o, h.get? c = some o → h'.get? c = some o) : KAt h' k a :=
  ⟨NestedIs.at (fun b o _ _ e _ => g b o e) k _ x.1, x.2⟩
theorem KAt.same {h h' : Heap} {k : NestedKey} {b a : Addr} {o : Obj} {es : Array (Int × Value)} {ep : Nat} {t : SetTable} (x : KAt h k b) (ho : h.get? a = some o) (hd : o.data = .set es ep t) (hs : Heap.SameBut a h h') : KAt h' k b :=
  ⟨NestedIs.at (fun c u vs n hc hu => by
    refine (hs.2 c ?_).trans hc
    rintro rfl
    rw [ho] at hc
    cases hc
    rw [hd] at hu
    cases hu) k _ x.1, x.2⟩
mutual
theorem hbv : ∀ (k : NestedKey) (v : Value) (n : Nat) (Q : Bool → Shared → Prop), plainKey k = true → k.depth ≤ n → NestedIs s.heap k v → Q true s → wpAny (model P w) A (hashByValue n v) Q E s
  | .none, v, n, Q, _, _, h, q => by
    cases h
    cases n <;> exact wpAny_pure q
  | .num i, v, n, Q, _, _, h, q => by
    cases h <;> cases n <;> exact wpAny_pure q
  | .text x, v, n, Q, p, _, h, q => by simp [plainKey] at p
  | .tup ks, v, n, Q, p, d, h, q => by
    cases h with
    | @tup a o vs m _ ho hc hd hall =>
      rw [NestedKey.depth] at d
      obtain ⟨n, rfl⟩ : ∃ m, n = m + 1 := ⟨n - 1, by omega⟩
      have hT : s.TypeIs (.ref a) "tuple" := ⟨o, ho, hc⟩
      have each := hbvs ks vs.toList n (by simpa [plainKey] using p) (by omega) hall
      unfold hashByValue
      refine wpAny_bind (wpAny_specialOf hT F.slot_tuple_hash.lookup (wpAny_bind (wpAny_seqItems ho hd (wpAny_bind ?_))))
      show wpAny _ _ (forIn vs _ _) _ _ s
      rw [← Array.forIn_toList]
      refine wpAny_forIn_list _ (fun rest r s' => r.1 = none ∧ s' = s ∧ ∀ v ∈ rest, v ∈ vs.toList) _ ?_ ?_ _ _ ⟨rfl, rfl, fun v hv => hv⟩
      · rintro u rest r s' ⟨hr, rfl, hsub⟩
        refine wpAny_bind (each u (hsub u (by simp)) _ ?_)
        rw [Bool.not_true, if_neg Bool.false_ne_true]
        exact wpAny_pure ⟨rfl, rfl, fun v hv => hsub v (by simp [hv])⟩
      · rintro ⟨r1, r2⟩ s' ⟨hr, rfl, _⟩
        cases (show r1 = none from hr)
        exact wpAny_pure q
theorem hbvs : ∀ (ks : List NestedKey) (vs : List Value) (n : Nat), plainKeys ks = true → NestedKey.depthAll ks ≤ n → NestedAll s.heap ks vs → ∀ v ∈ vs, ∀ Q : Bool → Shared → Prop, Q true s → wpAny (model P w) A (hashByValue n v) Q E s
  | [], vs, n, _, _, h, v, hv, Q, q => by
    cases h
    cases hv
  | k :: ks, vs, n, p, d, h, v, hv, Q, q => by
    cases h with
    | cons h1 t =>
      simp only [plainKeys, Bool.and_eq_true] at p
      rw [NestedKey.depthAll] at d
      rcases List.mem_cons.mp hv with rfl | hv
      · exact hbv k _ n Q p.1 (by omega) h1 q
      · exact hbvs ks _ n p.2 (by omega) t v hv Q q
end
mutual
theorem oac : ∀ (k : NestedKey) (v : Value) (n : Nat) (Q : Bool → Shared → Prop), plainKey k = true → k.depth ≤ n → NestedIs s.heap k v → Q false s → wpAny (model P w) A (ofAClassStatement n v) Q E s
  | .none, v, n, Q, _, _, h, q => by
    cases h
    cases n <;> exact wpAny_pure q
  | .num i, v, n, Q, _, _, h, q => by
    cases h <;> cases n <;> exact wpAny_pure q
  | .text x, v, n, Q, p, _, h, q => by simp [plainKey] at p
  | .tup ks, v, n, Q, p, d, h, q => by
    cases h with
    | @tup a o vs m _ ho hc hd hall =>
      rw [NestedKey.depth] at d
      obtain ⟨n, rfl⟩ : ∃ m, n = m + 1 := ⟨n - 1, by omega⟩
      have hT : s.TypeIs (.ref a) "tuple" := ⟨o, ho, hc⟩
      have each := oacs ks vs.toList n (by simpa [plainKey] using p) (by omega) hall
      have et : (("tuple" : String) == "tuple") = true := by decide
      unfold ofAClassStatement
      refine wpAny_bind (wpAny_typeOf hT ?_)
      dsimp only
      simp only [et, if_true, Bool.not_true, Bool.false_eq_true, if_false]
      try refine wpAny_bind (wpAny_pure ?_)
      try simp only [Bool.not_true, Bool.false_eq_true, if_false]
      refine wpAny_bind (wpAny_seqItems ho hd (wpAny_bind ?_))
      show wpAny _ _ (forIn vs _ _) _ _ s
      rw [← Array.forIn_toList]
      refine wpAny_forIn_list _ (fun rest r s' => r.1 = none ∧ s' = s ∧ ∀ v ∈ rest, v ∈ vs.toList) _ ?_ ?_ _ _ ⟨rfl, rfl, fun v hv => hv⟩
      · rintro u rest r s' ⟨hr, rfl, hsub⟩
        refine wpAny_bind (each u (hsub u (by simp)) _ ?_)
        rw [if_neg Bool.false_ne_true]
        exact wpAny_pure ⟨rfl, rfl, fun v hv => hsub v (by simp [hv])⟩
      · rintro ⟨r1, r2⟩ s' ⟨hr, rfl, _⟩
        cases (show r1 = none from hr)
        exact wpAny_pure q
theorem oacs : ∀ (ks : List NestedKey) (vs : List Value) (n : Nat), plainKeys ks = true → NestedKey.depthAll ks ≤ n → NestedAll s.heap ks vs → ∀ v ∈ vs, ∀ Q : Bool → Shared → Prop, Q false s → wpAny (model P w) A (ofAClassStatement n v) Q E s
  | [], vs, n, _, _, h, v, hv, Q, q => by
    cases h
    cases hv
  | k :: ks, vs, n, p, d, h, v, hv, Q, q => by
    cases h with
    | cons h1 t =>
      simp only [plainKeys, Bool.and_eq_true] at p
      rw [NestedKey.depthAll] at d
      rcases List.mem_cons.mp hv with rfl | hv
      · exact oac k _ n Q p.1 (by omega) h1 q
      · exact oacs ks _ n p.2 (by omega) t v hv Q q
end
theorem not_seen {k : NestedKey} {b : Addr} {Q : Bool → Shared → Prop} (hk : KAt s.heap k b) {ys : List Value} (hy : ∀ y ∈ ys, ∃ k' c, y = Value.ref c ∧ KAt s.heap k' c) (q : Q false s) :
    wpAny (model P w) A (searchCouldBeSeen (.ref b) ys) Q E s := by
  unfold searchCouldBeSeen
  refine wpAny_bind (wpAny_forIn_list _ (fun rest r s' => r.1 = none ∧ s' = s ∧ ∀ y ∈ rest, y ∈ ys) _ ?_ ?_ _ _ ⟨rfl, rfl, fun y h => h⟩)
  · rintro v rest r s' ⟨hr, rfl, hsub⟩
    obtain ⟨k', c, rfl, hc⟩ := hy v (hsub v (by simp))
    have go : ∀ y ∈ rest, y ∈ ys := fun y h => hsub y (by simp [h])
    dsimp only
    split
    · exact wpAny_pure ⟨rfl, rfl, go⟩
    · refine wpAny_bind ((nestedKind P w).quiet ⟨hk.1, hk.dep⟩ ?_)
      rw [Bool.not_true, if_neg Bool.false_ne_true]
      refine wpAny_bind ((nestedKind P w).quiet ⟨hc.1, hc.dep⟩ ?_)
      rw [Bool.not_true, if_neg Bool.false_ne_true]
      refine wpAny_bind (oac k _ 8 _ hk.plain hk.dep hk.1 ?_)
      rw [if_neg Bool.false_ne_true]
      refine wpAny_bind (oac k' _ 8 _ hc.plain hc.dep hc.1 ?_)
      rw [if_neg Bool.false_ne_true]
      exact wpAny_pure ⟨rfl, rfl, go⟩
  · rintro ⟨r1, r2⟩ s' ⟨hr, rfl, _⟩
    cases (show r1 = none from hr)
    exact wpAny_pure q
end
abbrev pb (t : SetTable) (h : Int) (c : Nat) : SetTable.Probe := nth t.mask (runAt t.mask (SetTable.bits h % (t.mask + 1)) (SetTable.bits h)) c
theorem pb_add (t : SetTable) (h : Int) (c q : Nat) : nth t.mask (pb t h c) q = pb t h (c + q) := (nth_add t.mask c _ q).symm
theorem pb_dummy (t : SetTable) (h : Int) (c : Nat) : (pb t h c).dummy = none := by
  have key : ∀ (n : Nat) (p : SetTable.Probe), p.dummy = none → (nth t.mask p n).dummy = none := fun n => by
    induction n with
    | zero => exact fun p z => z
    | succ n ih => exact fun p z => ih (adv t.mask p) (by unfold adv; split <;> exact z)
  exact key c _ rfl
theorem probe_cases {t : SetTable} {hs : List Int} (T : TabOk t hs) {h : Int} {K c : Nat} (hc : c ≤ K) (hf : K < 10 * SetTable.turns t.mask) (hK : way t.mask h K ∉ t.place.toList) (hb : ∀ q, q < K → way t.mask h q ∈ t.place.toList) (hashAt : Nat → Int) :
    (∃ q i, c ≤ q ∧ q < K ∧ t.place.toList[i]? = some (way t.mask h q) ∧ hashAt i = h ∧ (∀ q' i', c ≤ q' → q' < q → t.place.toList[i']? = some (way t.mask h q') → hashAt i' ≠ h) ∧ t.probe hashAt h (pb t h c) = some (.candidate (way t.mask h q) i (pb t h (q + 1)))) ∨
    ((∀ q' i', c ≤ q' → q' < K → t.place.toList[i']? = some (way t.mask h q') → hashAt i' ≠ h) ∧ t.probe hashAt h (pb t h c) = some (.empty (way t.mask h K) none)) := by
  have e : ∀ q, (nth t.mask (pb t h c) q).j = way t.mask h (c + q) := fun q => congrArg SetTable.Probe.j (pb_add t h c q)
  have back : ∀ q', c ≤ q' → c + (q' - c) = q' := fun q' z => by omega
  rcases go_spec t T.ris T.dm hashAt h (10 * SetTable.turns t.mask) (K - c) (pb t h c) (pb_dummy t h c) (by omega) (fun q hq => by rw [e]; exact hb _ (by omega)) (by rw [e, back K hc]; exact hK) with ⟨q, i, h1, h2, h3, h4, h5⟩ | ⟨h4, h5⟩
  · rw [e] at h2 h5
    rw [pb_add] at h5
    exact .inl ⟨c + q, i, by omega, by omega, h2, h3, fun q' i' a b z => h4 (q' - c) i' (by omega) (by rw [e, back q' a]; exact z), h5⟩
  · rw [e, back K hc] at h5
    exact .inr ⟨fun q' i' a b z => h4 (q' - c) i' (by omega) (by rw [e, back q' a]; exact z), h5⟩
abbrev Lk2 := List (Addr × NestedKey)
def hsh (w : World) (p : Addr × NestedKey) : Int := p.2.hash w
def ent (w : World) (p : Addr × NestedKey) : Int × Value := (hsh w p, .ref p.1)
structure Tb (w : World) (h : Heap) (a : Addr) (L : Lk2) (es : Array (Int × Value)) (ep : Nat) (t : SetTable) : Prop where
  ob : ∃ o, h.get? a = some o ∧ o.ExactSet ∧ o.data = .set es ep t
  rows : es.toList = L.map (ent w)
  tab : TabOk t (L.map (hsh w))
  nd : (L.map (·.2)).Nodup
  key : ∀ p ∈ L, KAt h p.2 p.1
  plain : t.plain = true
  led : w.params.followText "set-order" = true ∨ t.led = true
  room : L.length * 5 < t.mask * 3
  few : L.length < 64
section
variable {P : Program} {w : World} {A : Around} {E : Value → Shared → Prop} {s : Shared} {a : Addr} {L : Lk2} {es : Array (Int × Value)} {ep : Nat} {t : SetTable}
theorem rows_size (h : es.toList = L.map (ent w)) : es.size = L.length := by
  have := congrArg List.length h
  simpa using this
theorem fits_of (h1 : t.place.size = es.size) (h2 : t.dummies = #[]) (h3 : es.size ≤ t.mask) : t.fits es.size = true := by
  unfold SetTable.fits SetTable.fill
  rw [h2, Bool.and_eq_true, beq_iff_eq, decide_eq_true_eq]
  exact ⟨h1, by show t.place.size + 0 ≤ t.mask; omega⟩
theorem Tb.fits (R : Tb w s.heap a L es ep t) : t.fits es.size = true := by
  have z := rows_size R.rows
  have y := R.tab.sz
  rw [List.length_map] at y
  have := R.room
  exact fits_of (by omega) R.tab.dm (by omega)
theorem Tb.at (R : Tb w s.heap a L es ep t) {i : Nat} {p : Addr × NestedKey} (h : L[i]? = some p) : es[i]? = some (ent w p) := by
  rw [← Array.getElem?_toList, R.rows, List.getElem?_map, h]
  rfl
theorem Tb.gw (R : Tb w s.heap a L es ep t) : ¬ t.gaveWay = true := by
  unfold SetTable.gaveWay
  rw [mask_odd R.tab.mok]
  decide
theorem find_go (R : Tb w s.heap a L es ep t) {x : Addr} {k : NestedKey} (hx : KAt s.heap k x) (hu : A.units + 8 < cLine) {K : Nat} (hf : K < 10 * SetTable.turns t.mask)
    (hK : way t.mask (k.hash w) K ∉ t.place.toList) (hb : ∀ c, c < K → way t.mask (k.hash w) c ∈ t.place.toList) {Q : SetFound → Shared → Prop}
    (yes : k ∈ L.map (·.2) → Q (.there none) s) (no : k ∉ L.map (·.2) → Q (.free (way t.mask (k.hash w) K) false) s) :
    ∀ (f c : Nat) (stand : Option SetTable.Probe), stand.getD (t.probeStart (k.hash w)) = pb t (k.hash w) c → c ≤ K → K - c < f →
      (∀ (i : Nat) p, L[i]? = some p → p.2 = k → ∃ c', c ≤ c' ∧ c' < K ∧ t.place.toList[i]? = some (way t.mask (k.hash w) c')) →
      wpAny (model P w) A (setSearchFrom a (.ref x) (k.hash w) true f stand) Q E s
  | 0, c, _, _, _, z, _ => by omega
  | f + 1, c, stand, hst, hc, z, here => by
    obtain ⟨o, ho, hex, hd⟩ := R.ob
    have hl1 := R.tab.sz
    rw [List.length_map] at hl1
    have hashAt : ∀ (i : Nat) p, L[i]? = some p → (fun i => (es[i]?.map (·.1)).getD 0) i = hsh w p := fun i p hp => by
      show (es[i]?.map (·.1)).getD 0 = _
      rw [R.at hp]
      rfl
    rw [setSearchFrom_succ]
    refine wpAny_bind (wpAny_setState_of ho hd R.fits ?_)
    dsimp only
    refine wp_if_neg R.gw ?_
    try refine wpAny_bind (wpAny_pure ?_)
    rw [hst]
    rcases probe_cases R.tab hc hf hK hb (fun i => (es[i]?.map (·.1)).getD 0) with ⟨q, i, cq, qK, hi, _, hno, e⟩ | ⟨hno, e⟩
    · rw [e]
      dsimp only
      have iL : i < L.length := by
        have := get_lt hi
        rw [Array.length_toList] at this
        omega
      have hp : L[i]? = some L[i] := List.getElem?_eq_getElem iL
      generalize L[i] = p at hp
      have pm : p ∈ L := List.mem_of_getElem? hp
      have pk := R.key p pm
      have on : wpAny (model P w) A (searchRest a (.ref x) (k.hash w) true f es t (way t.mask (k.hash w) q) i (pb t (k.hash w) (q + 1))) Q E s := by
        unfold searchRest
        rw [R.at hp]
        dsimp only [ent]
        refine wpAny_bind (wpAny_holding ((nestedKind P w).eqBool hu ⟨pk.1, pk.dep⟩ ⟨hx.1, hx.dep⟩ (wpAny_bind (wpAny_setState_of ho hd R.fits ?_))))
        dsimp only
        by_cases kk : p.2 = k
        · exact wp_if_pos (by simp [kk]) (wpAny_pure (yes (List.mem_map.mpr ⟨p, pm, kk⟩)))
        · refine wp_if_neg (by simp [kk]) ?_
          try refine wpAny_bind (wpAny_pure ?_)
          rw [sameMem]
          dsimp only
          have sl := slot_live R.tab.ris hi
          simp only [if_true, sl, R.at hp, ent]
          refine wpAny_bind (wpAny_isSame_ref_self (wpAny_bind (wpAny_pure ?_)))
          simp only [if_true]
          refine wp_if_neg (by simp [kk]) (find_go R hx hu hf hK hb yes no f (q + 1) _ rfl (by omega) (by omega) fun i0 p0 h0 k0 => ?_)
          obtain ⟨c', a1, a2, a3⟩ := here i0 p0 h0 k0
          refine ⟨c', ?_, a2, a3⟩
          by_cases lt : c' < q
          · exact (hno c' i0 a1 lt a3 ((hashAt i0 p0 h0).trans (congrArg (NestedKey.hash w) k0))).elim
          · by_cases eq : c' = q
            · subst eq
              have s0 := slot_live R.tab.ris a3
              rw [sl] at s0
              injection s0 with s0
              rw [← s0, hp] at h0
              cases h0
              exact (kk k0).elim
            · omega
      by_cases ld : t.led = true
      · refine wp_if_neg (by simp [ld]) ?_
        try refine wpAny_bind (wpAny_pure ?_)
        exact on
      · refine wp_if_pos (by simp [ld]) (wpAny_bind (not_seen hx (fun y hy => ?_) (wp_if_neg (by decide) ?_)))
        · obtain ⟨u, hu1, rfl⟩ := List.mem_map.mp hy
          have hu2 : u ∈ es.toList := by
            have : u ∈ es ∧ u.1 = k.hash w := by simpa using hu1
            simpa using this.1
          rw [R.rows] at hu2
          obtain ⟨p2, hp2, rfl⟩ := List.mem_map.mp hu2
          exact ⟨p2.2, p2.1, rfl, R.key p2 hp2⟩
        · try refine wpAny_bind (wpAny_pure ?_)
          exact on
    · rw [e]
      dsimp only
      refine wpAny_pure (no fun hm => ?_)
      obtain ⟨p0, h0, k0⟩ := List.mem_map.mp hm
      obtain ⟨i0, hi0, rfl⟩ := List.getElem_of_mem h0
      have h00 : L[i0]? = some L[i0] := List.getElem?_eq_getElem hi0
      obtain ⟨c', a1, a2, a3⟩ := here i0 _ h00 k0
      exact hno c' i0 a1 a2 a3 ((hashAt i0 _ h00).trans (congrArg (NestedKey.hash w) k0))
theorem find_at (R : Tb w s.heap a L es ep t) {x : Addr} {k : NestedKey} (hx : KAt s.heap k x) (hu : A.units + 8 < cLine) {Q : SetFound → Shared → Prop} (yes : k ∈ L.map (·.2) → Q (.there none) s)
    (no : ∀ K, k ∉ L.map (·.2) → way t.mask (k.hash w) K ∉ t.place.toList → (∀ c, c < K → way t.mask (k.hash w) c ∈ t.place.toList) → Q (.free (way t.mask (k.hash w) K) false) s) :
    wpAny (model P w) A (setSearch a (.ref x) (k.hash w) true) Q E s := by
  have room := R.room
  obtain ⟨K, hf, hK, hb⟩ := R.tab.first (by rw [List.length_map]; omega) (k.hash w)
  have lt : K < 100000 := by
    have : SetTable.turns t.mask ≤ 142 := by
      unfold SetTable.turns
      rcases R.tab.mok with z | z | z <;> omega
    omega
  unfold setSearch
  refine find_go R hx hu hf hK hb yes (fun z => no K z hK hb) 100000 0 none rfl (Nat.zero_le _) (by omega) fun i p hp hk => ?_
  have hi : (L.map (hsh w))[i]? = some (k.hash w) := by
    rw [List.getElem?_map, hp, ← hk]
    rfl
  have sz := R.tab.sz
  rw [List.length_map] at sz
  have il : i < t.place.toList.length := by
    rw [Array.length_toList]
    have := get_lt hp
    omega
  have hj := List.getElem?_eq_getElem il
  obtain ⟨c, c1, c2⟩ := R.tab.before hK hi hj
  exact ⟨c, Nat.zero_le _, c1, by rw [hj, c2]⟩
theorem range_pick {α : Type} (L : List α) : (List.range L.length).filterMap (fun i => L[i]?) = L := by
  have key : ∀ n, n ≤ L.length → (List.range n).filterMap (fun i => L[i]?) = L.take n := fun n => by
    induction n with
    | zero => exact fun _ => rfl
    | succ n ih =>
      intro hn
      have lt : n < L.length := hn
      rw [List.range_succ, List.filterMap_append, ih (Nat.le_of_lt lt), List.take_succ_eq_append_getElem lt]
      simp [List.getElem?_eq_getElem lt]
  have := key _ (Nat.le_refl _)
  rwa [List.take_length] at this
theorem laid_rows {order : Array Nat} (hr : es.toList = L.map (ent w)) (hp : order.toList.Perm (List.range L.length)) :
    ∃ L2 : Lk2, (order.filterMap (es[·]?)).toList = L2.map (ent w) ∧ L2.Perm L ∧ L2.map (hsh w) = order.toList.map fun i => (es.map (·.1)).getD i 0 := by
  have at' : ∀ i : Nat, es[i]? = (L[i]?).map (ent w) := fun i => by rw [← Array.getElem?_toList, hr, List.getElem?_map]
  refine ⟨order.toList.filterMap fun i => L[i]?, ?_, ?_, ?_⟩
  · rw [List.map_filterMap]
    simp only [Array.toList_filterMap, at']
  · have := hp.filterMap fun i => L[i]?
    rwa [range_pick] at this
  · have inr : ∀ i ∈ order.toList, i < L.length := fun i hi => List.mem_range.mp (hp.mem_iff.mp hi)
    generalize order.toList = l at inr
    induction l with
    | nil => rfl
    | cons i l ih =>
      have hi := inr i (by simp)
      rw [List.filterMap_cons_some (List.getElem?_eq_getElem hi), List.map_cons, List.map_cons, ih fun j hj => inr j (by simp [hj])]
      congr 1
      have : (es.map (·.1))[i]? = some (hsh w L[i]) := by
        rw [Array.getElem?_map, at', List.getElem?_eq_getElem hi]
        rfl
      rw [Array.getD_eq_getD_getElem?, this]
      rfl
theorem relay_to {o : Obj} (ho : s.heap.get? a = some o) (hex : o.ExactSet) (hd : o.data = .set es ep t) (hr : es.toList = L.map (ent w)) (h1 : t.place.size = es.size) (h2 : t.dummies = #[]) (h3 : es.size ≤ t.mask)
    (nd : (L.map (·.2)).Nodup) (hk : ∀ p ∈ L, KAt s.heap p.2 p.1) (pl : t.plain = true) (ld : w.params.followText "set-order" = true ∨ t.led = true) (few : L.length < 64) {n M : Nat}
    (hw : SetTable.sizeAbove n - 1 = M) (hM : MaskOk M) (hw2 : SetTable.sizeAbove n ≤ 128) (hn : L.length * 5 < M * 3) {Q : Unit → Shared → Prop}
    (q : ∀ h' L' es' ep' t', Heap.SameBut a s.heap h' → Tb w h' a L' es' ep' t' → L'.Perm L → Q () { s with heap := h' }) : wpAny (model P w) A (setRelay a n) Q E s := by
  have sz := rows_size hr
  obtain ⟨t', order, e, hp, T, e1, e2, e3, e4⟩ := relaid_ok t (hs := es.map (·.1)) (wanted := n) hw hM (by rw [Array.size_map]; omega)
  rw [Array.size_map, sz] at hp
  obtain ⟨L2, r1, r2, r3⟩ := laid_rows hr hp
  rw [← r3] at T
  have sz2 : (order.filterMap (es[·]?)).size = es.size := by rw [rows_size r1, r2.length_eq, sz]
  rw [setRelay_eq]
  refine wpAny_bind (wpAny_setState_of ho hd (fits_of h1 h2 h3) ?_)
  dsimp only
  refine wp_if_neg (by rw [sizeLine_eq]; omega) ?_
  try refine wpAny_bind (wpAny_pure ?_)
  rw [e]
  dsimp only
  refine wpAny_bind (wp_if_neg (by rw [sz2]; simp) ?_)
  try refine wpAny_bind (wpAny_pure ?_)
  refine wpAny_pure ?_
  dsimp only
  refine wpAny_storeSet_of ho hd ?_ (by rw [sz2, sz, sizeLine_eq]; omega)
  have sb : Heap.SameBut a s.heap (s.heap.update a (Obj.putSet (order.filterMap (es[·]?)) t')) := Heap.SameBut.update ..
  exact q _ L2 _ (ep + 1) t' sb ⟨⟨_, store_at ho hd, ⟨hex.1, hex.2.1, hex.2.2⟩, rfl⟩, r1, T, (r2.map (·.2)).nodup_iff.mpr nd, fun p z => (hk p (r2.mem_iff.mp z)).same ho hd sb, by rw [e3]; exact pl, by rw [e2]; exact ld, by rw [r2.length_eq, e1]; exact hn, by rw [r2.length_eq]; exact few⟩ r2
theorem cut_perm {α : Type} (L : List α) (p : Nat) (x : α) : (L.take p ++ x :: L.drop p).Perm (x :: L) := by
  have := List.perm_middle (a := x) (l₁ := L.take p) (l₂ := L.drop p)
  rwa [List.take_append_drop] at this
theorem put_in (R : Tb w s.heap a L es ep t) {x : Addr} {k : NestedKey} (hx : KAt s.heap k x) (hu : A.units + 8 < cLine) (few : L.length + 1 < 64) {Q : Bool → Shared → Prop}
    (q : ∀ b h' L' es' ep' t', Heap.SameBut a s.heap h' → Tb w h' a L' es' ep' t' → (k ∈ L.map (·.2) → L' = L) → (k ∉ L.map (·.2) → L'.Perm ((x, k) :: L)) → Q b { s with heap := h' }) :
    wpAny (model P w) A (setAddHashed a (.ref x) (k.hash w)) Q E s := by
  obtain ⟨o, ho, hex, hd⟩ := R.ob
  have sz := rows_size R.rows
  have room := R.room
  unfold setAddHashed
  refine wpAny_holding ?_
  rw [show (100000 : Nat) = 99999 + 1 from rfl, setAddHashedIn_succ]
  refine wpAny_bind (wpAny_setState_of ho hd R.fits ?_)
  dsimp only
  refine wp_if_neg (by simp [byScan, Value.scannable]) ?_
  try refine wpAny_bind (wpAny_pure ?_)
  refine wpAny_bind (find_at R hx hu (fun hm => ?_) fun K hm hK hb => ?_)
  · exact wpAny_pure (q false s.heap L es ep t (Heap.SameBut.refl a s.heap) R (fun _ => rfl) fun z => (z hm).elim)
  dsimp only
  refine wpAny_bind (wpAny_setState_of ho hd R.fits ?_)
  dsimp only
  obtain ⟨q1, q2, q3, q4, q5, q6, _, _, q9⟩ := R.tab.put hK hb
  have pl1 : (t.put (way t.mask (k.hash w) K)).1.plain = true := q6.trans R.plain
  generalize t.put (way t.mask (k.hash w) K) = pt at q1 q3 q4 q5 q6 q9 pl1 ⊢
  obtain ⟨t1, p⟩ := pt
  dsimp only at q1 q3 q4 q5 q6 q9 pl1 ⊢
  subst q1
  have hbk := fun (Q' : Bool → Shared → Prop) (z : Q' true s) => hbv (P := P) (w := w) (A := A) (E := E) (s := s) k (.ref x) 8 Q' hx.plain hx.dep hx.1 z
  first
    | (refine wpAny_bind (wp_if_pos pl1 (hbk _ ?_)))
    | (refine wp_if_pos pl1 (wpAny_bind (hbk _ ?_)))
  simp only [if_true]
  generalize SetTable.below t.place (way t.mask (k.hash w) K) = p at q2 q3 ⊢
  have pm := cut_perm L p (x, k)
  have hin : (SetTable.insertAt es p (k.hash w, Value.ref x)).toList = (L.take p ++ (x, k) :: L.drop p).map (ent w) := by
    rw [SetTable.toList_insertAt, R.rows, List.map_append, List.map_cons, List.map_take, List.map_drop]
    rfl
  have hhs : (L.take p ++ (x, k) :: L.drop p).map (hsh w) = (L.map (hsh w)).take p ++ k.hash w :: (L.map (hsh w)).drop p := by
    rw [List.map_append, List.map_cons, List.map_take, List.map_drop]
    rfl
  rw [← hhs] at q3
  have len1 : (L.take p ++ (x, k) :: L.drop p).length = L.length + 1 := pm.length_eq
  have nd1 : ((L.take p ++ (x, k) :: L.drop p).map (·.2)).Nodup := (pm.map (·.2)).nodup_iff.mpr (by rw [List.map_cons]; exact List.nodup_cons.mpr ⟨hm, R.nd⟩)
  have sz1 := rows_size hin
  generalize SetTable.insertAt es p (k.hash w, Value.ref x) = es1 at hin sz1 ⊢
  generalize L.take p ++ (x, k) :: L.drop p = L1 at pm len1 q3 nd1 hin sz1
  refine wpAny_bind (wpAny_storeSet_of ho hd ?_ (by rw [sizeLine_eq]; omega))
  have sb : Heap.SameBut a s.heap (s.heap.update a (Obj.putSet es1 t1)) := Heap.SameBut.update ..
  have ho1 := store_at (es' := es1) (t' := t1) ho hd
  generalize s.heap.update a (Obj.putSet es1 t1) = h1 at sb ho1 ⊢
  have key1 : ∀ p ∈ L1, KAt h1 p.2 p.1 := fun p hp => by
    rcases List.mem_cons.mp (pm.mem_iff.mp hp) with rfl | hp
    · exact hx.same ho hd sb
    · exact (R.key p hp).same ho hd sb
  have ld1 : w.params.followText "set-order" = true ∨ t1.led = true := by rw [q5]; exact R.led
  have szp : t1.place.size = es1.size := by
    have := q3.sz
    rw [List.length_map] at this
    omega
  rw [List.length_map] at q9
  by_cases full : t1.tooFull = true
  · have ge : (L.length + 1) * 5 ≥ t1.mask * 3 := by
      have := full
      unfold SetTable.tooFull at this
      rwa [decide_eq_true_eq, q9] at this
    rw [q4] at ge
    first
      | (refine wpAny_bind (wp_if_pos (by simp [full]) ?_))
      | (refine wp_if_pos (by simp [full]) (wpAny_bind ?_))
    rw [sz]
    have two : (t.mask = 7 ∧ L.length = 4) ∨ (t.mask = 31 ∧ L.length = 18) := by
      rcases R.tab.mok with z | z | z
      · exact .inl ⟨z, by rw [z] at ge room; omega⟩
      · exact .inr ⟨z, by rw [z] at ge room; omega⟩
      · rw [z] at ge; omega
    have go : ∀ M, SetTable.sizeAbove (SetTable.grown (L.length + 1)) - 1 = M → MaskOk M → SetTable.sizeAbove (SetTable.grown (L.length + 1)) ≤ 128 → (L.length + 1) * 5 < M * 3 →
        wpAny (model P w) A (setRelay a (SetTable.grown (L.length + 1))) (fun _ s' => wpAny (model P w) A (pure true) Q E s') E { s with heap := h1 } := fun M z1 z2 z3 z4 =>
      relay_to (s := { s with heap := h1 }) ho1 ⟨hex.1, hex.2.1, hex.2.2⟩ rfl hin szp q3.dm (by rw [q4]; rcases two with ⟨z, z'⟩ | ⟨z, z'⟩ <;> omega) nd1 key1 pl1 ld1 (by omega) z1 z2 z3 (by omega) fun h2 L2 es2 ep2 t2 sb2 R2 pm2 =>
        wpAny_pure (q true h2 L2 es2 ep2 t2 (sb.trans sb2) R2 (fun z => (hm z).elim) fun _ => pm2.trans pm)
    rcases two with ⟨_, z⟩ | ⟨_, z⟩
    · exact go 31 (by rw [z, size_20]) (.inr (.inl rfl)) (by rw [z, size_20]; decide) (by omega)
    · exact go 127 (by rw [z, size_76]) (.inr (.inr rfl)) (by rw [z, size_76]; decide) (by omega)
  · have lt : ¬ (L.length + 1) * 5 ≥ t1.mask * 3 := by
      have := full
      unfold SetTable.tooFull at this
      rwa [decide_eq_true_eq, q9] at this
    first
      | refine wp_if_neg (by simp [full]) ?_
      | (refine wpAny_bind (wp_if_neg (by simp [full]) (wpAny_pure ?_)))
    exact wpAny_pure (q true h1 L1 es1 (ep + 1) t1 sb ⟨⟨_, ho1, ⟨hex.1, hex.2.1, hex.2.2⟩, rfl⟩, hin, q3, nd1, key1, pl1, ld1, by omega, by omega⟩ (fun z => (hm z).elim) fun _ => pm)
structure Gt (ks : Lk2) (i : Nat) (L : Lk2) : Prop where
  sub : ∀ p ∈ L, p ∈ ks.take i
  all : ∀ p ∈ ks.take i, p.2 ∈ L.map (·.2)
  len : L.length ≤ i
theorem take_snoc {α : Type} {l : List α} {i : Nat} {x : α} (h : l[i]? = some x) : l.take (i + 1) = l.take i ++ [x] := by
  rw [List.take_succ, h]
  rfl
theorem Gt.next {ks L L' : Lk2} {i : Nat} {x : Addr × NestedKey} (g : Gt ks i L) (h : ks[i]? = some x) (c1 : x.2 ∈ L.map (·.2) → L' = L) (c2 : x.2 ∉ L.map (·.2) → L'.Perm (x :: L)) : Gt ks (i + 1) L' := by
  have e := take_snoc h
  by_cases c : x.2 ∈ L.map (·.2)
  · rw [c1 c]
    refine ⟨fun p hp => by rw [e]; exact List.mem_append_left _ (g.sub p hp), fun p hp => ?_, Nat.le_succ_of_le g.len⟩
    rw [e] at hp
    rcases List.mem_append.mp hp with z | z
    · exact g.all p z
    · rw [List.mem_singleton.mp z]; exact c
  · have pm := c2 c
    refine ⟨fun p hp => ?_, fun p hp => ?_, by rw [pm.length_eq, List.length_cons]; exact Nat.succ_le_succ g.len⟩
    · rw [e]
      rcases List.mem_cons.mp (pm.mem_iff.mp hp) with z | z
      · rw [z]; simp
      · exact List.mem_append_left _ (g.sub p z)
    · rw [(pm.map (·.2)).mem_iff, List.map_cons]
      rw [e] at hp
      rcases List.mem_append.mp hp with z | z
      · exact List.mem_cons_of_mem _ (g.all p z)
      · rw [List.mem_singleton.mp z]; simp
theorem Tb.keep {h h' : Heap} (R : Tb w h a L es ep t) (ha : ∀ o, h.get? a = some o → h'.get? a = some o) (hk : ∀ p ∈ L, KAt h' p.2 p.1) : Tb w h' a L es ep t := by
  obtain ⟨o, ho, r⟩ := R.ob
  exact ⟨⟨o, ha o ho, r⟩, R.rows, R.tab, R.nd, hk, R.plain, R.led, R.room, R.few⟩
abbrev newS (w : World) : SetTable := .fresh 0 0 (!w.params.followText "set-order")
theorem tb_new {h : Heap} (ho : h.get? a = some { cls := .type "set", dict := none, data := .set #[] 0 (newS w) }) : Tb w h a [] #[] 0 (newS w) where
  ob := ⟨_, ho, ⟨rfl, rfl, rfl⟩, rfl⟩
  rows := rfl
  tab := ⟨List.Pairwise.nil, rfl, rfl, .inl rfl, fun x z => (by cases z), fun i h j z => (by simp at z)⟩
  nd := List.nodup_nil
  key := fun p z => by cases z
  plain := rfl
  led := by
    show _ ∨ (!w.params.followText "set-order") = true
    cases w.params.followText "set-order" <;> simp
  room := by show 0 * 5 < 7 * 3; decide
  few := by show 0 < 64; decide
theorem upd_loop {I : Addr} {fp wr : List Addr} {G : Array GenState → Array GenState → Prop} {n : Nat} {Pv : Nat → Value → Prop} {St : Nat → Shared → Prop} {R : Result → Shared → Prop}
    (W : WalksS P w A.in1 I fp wr G n Pv St) (S : Addr) (nf : S ∉ fp) (ks : Lk2) (hn : n = ks.length) (few : ks.length < 64) (hv : ∀ i v, Pv i v → ∃ p, ks[i]? = some p ∧ v = .ref p.1)
    (h0 : Heap) (hk : ∀ p ∈ ks, KAt h0 p.2 p.1) (hS0 : h0.get? S = none) (hw0 : ∀ b ∈ wr, h0.get? b = none) (hu : A.in1.units + 8 < cLine) :
    ∀ (m i : Nat) (s : Shared), n - i = m → i ≤ n → St i s → (∀ b o, h0.get? b = some o → s.heap.get? b = some o) → (∃ L es ep t, Tb w s.heap S L es ep t ∧ Gt ks i L) →
      (∀ s' L es ep t, Moved (S :: wr) G s s' → Tb w s'.heap S L es ep t → Gt ks n L → (∀ b o, h0.get? b = some o → s'.heap.get? b = some o) → R (.ok (.ret .none)) s') →
      codeAny (model P w) A (.builtin "set.update.loop" ⟨[.ref S, .ref I], []⟩) R s := by
  have nw : S ∉ wr := fun z => nf (W.sub _ z)
  have more : ∀ b ∈ wr, b ∈ S :: wr := fun b z => List.mem_cons_of_mem _ z
  have kept : ∀ {s s' : Shared}, Moved wr G s s' → (∀ b o, h0.get? b = some o → s.heap.get? b = some o) → ∀ b o, h0.get? b = some o → s'.heap.get? b = some o := fun mv k b o e =>
    mv.heap b o (fun z => by rw [hw0 b z] at e; cases e) (k b o e)
  have from_ : ∀ {L : Lk2} {i : Nat}, Gt ks i L → ∀ p ∈ L, p ∈ ks := fun g p z => List.mem_of_mem_take (g.sub p z)
  intro m
  induction m with
  | zero =>
    rintro i s hm hi st kp ⟨L, es, ep, t, T, g⟩ fin
    obtain rfl : i = n := by omega
    refine codeAny_builtin F.entry_set_update_loop ?_
    rw [Around.under_plainId F.plain_set_update_loop _]
    refine wpAny_bind (W.done s _ _ st fun s' mv => ?_)
    have kp' := kept mv kp
    exact wpAny_pure (fin s' L es ep t (mv.mono more) (T.keep (fun o e => mv.heap S o nw e) fun p z => (hk p (from_ g p z)).grow kp') g kp')
  | succ m ih =>
    rintro i s hm hi st kp ⟨L, es, ep, t, T, g⟩ fin
    have lt : i < n := by omega
    refine codeAny_builtin F.entry_set_update_loop ?_
    rw [Around.under_plainId F.plain_set_update_loop _]
    refine wpAny_bind (W.item i s _ _ lt st fun v s' hP st' mv => ?_)
    obtain ⟨p, hp, rfl⟩ := hv i v hP
    have kp' := kept mv kp
    have T' : Tb w s'.heap S L es ep t := T.keep (fun o e => mv.heap S o nw e) fun q z => (hk q (from_ g q z)).grow kp'
    have hx : KAt s'.heap p.2 p.1 := (hk p (List.mem_of_getElem? hp)).grow kp'
    refine wpAny_bind (wpAny_holding ?_)
    unfold setAdd
    refine wpAny_holding (wpAny_bind ((nestedKind P w).pyHash hu ⟨hx.1, hx.dep⟩ ?_))
    refine put_in (s := { s' with toks := s'.toks + p.2.draws }) T' hx hu (by have := g.len; omega) fun b h' L' es' ep' t' sb T2 c1 c2 => ?_
    have kp2 : ∀ b o, h0.get? b = some o → h'.get? b = some o := fun b o e => (sb.2 b fun z => by rw [z, hS0] at e; cases e).trans (kp' b o e)
    refine wpAny_pure ⟨plainId_quiet F.plain_set_update_loop _, ih (i + 1) _ (by omega) lt (W.frame _ s' _ _ st' (Nat.le_add_right _ _) fun b z o e => ?_) kp2 ⟨L', es', ep', t', T2, g.next hp c1 c2⟩ fun s3 L3 es3 ep3 t3 mv3 T3 g3 kp3 => ?_⟩
    · exact (sb.2 b fun (y : b = S) => nf (y ▸ z)).trans e
    · refine fin s3 L3 es3 ep3 t3 (Moved.trans W.gtrans ((mv.mono more).then_heap (Nat.le_add_right _ _) fun b o z e => ?_) mv3) T3 g3 kp3
      exact (sb.2 b fun (y : b = S) => z (by rw [y]; simp)).trans e
set_option maxHeartbeats 8000000 in
theorem call_setL {l : Addr} {its : Array Value} (ks : Lk2) {Q : Value → Shared → Prop} (hh : A.handled = none) (hl : s.heap.IsList l its) (hit : its.toList = ks.map fun p => Value.ref p.1)
    (hk : ∀ p ∈ ks, KAt s.heap p.2 p.1) (few : ks.length < 64) (hu : A.units + 13 < cLine)
    (q : ∀ (h' : Heap) (tk : Nat) L es ep t, Tb w h' s.heap.objs.size L es ep t → Gt ks ks.length L → (∀ b o, s.heap.get? b = some o → h'.get? b = some o) → Q (.ref s.heap.objs.size) { s with heap := h', toks := tk }) :
    wpAny (model P w) A (call (.type "set") [.ref l]) Q E s := by
  obtain ⟨N, hN⟩ : ∃ N : Obj, N = { cls := .type "set", dict := none, data := .set #[] 0 (newS w) } := ⟨_, rfl⟩
  have lt : l < s.heap.objs.size := let ⟨_, ho, _⟩ := hl; Heap.lt_size ho
  have sz : its.size = ks.length := by
    have := congrArg List.length hit
    simpa using this
  have hS : (s.heap.push N).get? s.heap.objs.size = some N := Heap.get?_push_size _ (by rw [hN]; rfl)
  obtain ⟨c, tl, hmro⟩ := F.called_set.mro
  have hmade := F.called_set.made
  have hsub := F.called_set.sub
  refine wpAny_call (codeAny_of_tree ?_)
  show wpAny _ _ (callAny (.type "set") _) _ _ _
  refine wpAny_pure ⟨Code.quiet_builtin _ (by decide +kernel), codeAny_builtin F.entry_type_call ?_⟩
  rw [Around.under_plain (weight_type_call_type "set" [.ref l] []) rfl]
  have g1 := F.called_set.notType
  have g2 := F.called_set.canCreate
  have g3 := F.typeCall_set_1 (.ref l)
  repeat (any_goals (first | assumption | wp_step))
  refine codeAny_mono (code_set_led1 (.ref l) (E := E) (Q₁ := fun obj s1 => obj = .ref s.heap.objs.size ∧ s1 = { s with heap := s.heap.push N }) ⟨rfl, by rw [hN]⟩) fun r s1 hr => ?_
  match r, hr with
  | .error _, hr => exact hr
  | .ok (.ret obj), hr =>
    obtain ⟨rfl, rfl⟩ := hr
    have hT : Shared.TypeIs { s with heap := s.heap.push N } (.ref s.heap.objs.size) "set" := ⟨N, hS, by rw [hN]⟩
    have g4 := F.called_set.init.lookup
    have g5 := F.called_set.init.bind (.ref s.heap.objs.size)
    repeat (any_goals (first | assumption | wp_step))
    refine codeAny_mono (codeAny_call_builtin (R := wants (fun r s2 => r = .none ∧ ∃ h' tk L es ep t, s2 = { s with heap := h', toks := tk } ∧ Tb w h' s.heap.objs.size L es ep t ∧ Gt ks ks.length L ∧ ∀ b o, s.heap.get? b = some o → h'.get? b = some o) E) F.called_set.init.plain F.entry_set_init (check_set_init_1 hT ?_)) fun r2 s2 hr2 => ?_
    · have hl0 : (s.heap.push N).IsList l its := hl.push _
      obtain ⟨⟨ocls, odict, odata, oslots⟩, ho, hc, nl, hd⟩ := hl
      cases (show ocls = .type "list" from hc)
      cases (show odata = .seq its nl from hd)
      have ho' := Heap.get?_push_of_some N ho
      have g6 := F.sub_list_set
      have g7 := F.sub_list_frozenset
      have g8 : (Value.type "list" == Value.type "dict") = false := by decide
      subst hN
      unfold Builtin.«set.__init__» noKeywords Builtin.Frozenset.updateFrom
      generalize hPI : pyIter = PI
      wp_walk
      subst hPI
      refine wpAny_pyIter_list hl0 ?_
      refine wpAny_bind (wpAny_runValue ?_)
      have hh3 : A.in1.in1.in1.handled = none := by simp [hh]
      have z1 : (s.heap.push { cls := .type "set", dict := none, data := .set #[] 0 (newS w) }).objs.size = s.heap.objs.size + 1 := Heap.size_push ..
      have none_of' : ∀ b, s.heap.objs.size ≤ b → s.heap.get? b = none := fun b hb => by
        cases e : s.heap.get? b with
        | none => rfl
        | some o => exact (Nat.lt_irrefl _ (Nat.lt_of_lt_of_le (Heap.lt_size e) hb)).elim
      refine upd_loop ((Walks.list hh3 _ l (by rw [z1]; exact Nat.ne_of_lt (Nat.lt_succ_of_lt lt)) its).toS) s.heap.objs.size (by rw [z1]; simp only [List.mem_cons, List.not_mem_nil, or_false, not_or]; exact ⟨Nat.ne_of_lt (Nat.lt_succ_self _), Nat.ne_of_gt lt⟩) ks sz few (fun i v hv => ?_) s.heap hk (none_of' _ (Nat.le_refl _))
        (fun b hb => none_of' b (by rw [List.mem_singleton.mp hb, z1]; exact Nat.le_succ _)) (by simp; omega) (its.size - 0) 0 _ (by omega) (Nat.zero_le _)
        ⟨⟨_, Heap.get?_push_size _ rfl, rfl, rfl⟩, hl0.push _⟩ (fun b o e => Heap.get?_push_of_some _ (Heap.get?_push_of_some _ e)) ⟨[], #[], 0, _, tb_new (Heap.get?_push_of_some _ hS), ⟨fun p z => (by cases z), fun p z => (by simp at z), Nat.le_refl _⟩⟩ ?_
      · have e : its.toList[i]? = some v := by rw [Array.getElem?_toList]; exact hv
        rw [hit, List.getElem?_map] at e
        obtain ⟨p, hp, rfl⟩ := Option.map_eq_some_iff.mp e
        exact ⟨p, hp, rfl⟩
      · intro s' L es ep t mv T g kp
        obtain ⟨h', gn, dr, tk', os'⟩ := s'
        cases (show gn = s.gens from mv.gens)
        cases (show dr = s.drawn from mv.drawn)
        cases (show os' = s.os from mv.os)
        refine wpAny_pure ?_
        show wpAny _ _ (ret Value.none) _ _ _
        rw [sz] at g
        exact wpAny_pure ⟨rfl, h', tk', L, es, ep, t, rfl, T, g, kp⟩
    · match r2, hr2 with
      | .error _, hr2 => exact hr2
      | .ok (.ret r), hr2 =>
        obtain ⟨rfl, h', tk, L, es, ep, t, rfl, T, g, kp⟩ := hr2
        repeat (any_goals (first | assumption | wp_step))
        exact q _ _ _ _ _ _ T g kp
end
end Vi
set_option maxHeartbeats 4000000
namespace Vi
open PySem PySem.Spec PyProof.Rows L2
open PySem.W in
mutual
theorem dlt_tri : ∀ a b : NestedKey, plainKey a = true → plainKey b = true → alike a.data b.data = true → dataLt a.data b.data = false → dataLt b.data a.data = false → a = b
  | .none, .none, _, _, _, _, _ => rfl
  | .num i, .num j, _, _, _, h1, h2 => by
    rw [NestedKey.data, NestedKey.data, dataLt_int] at h1 h2
    simp only [decide_eq_false_iff_not] at h1 h2
    congr 1
    omega
  | .tup a, .tup b, p, q, h, h1, h2 => by
    rw [NestedKey.data, NestedKey.data] at h h1 h2
    rw [dataLt_tuple] at h1 h2
    rw [alike] at h
    rw [dlt_tris a b (by simpa [plainKey] using p) (by simpa [plainKey] using q) h h1 h2]
  | .none, .num _, _, _, h, _, _ => by simp [NestedKey.data, alike] at h
  | .none, .tup _, _, _, h, _, _ => by simp [NestedKey.data, alike] at h
  | .num _, .none, _, _, h, _, _ => by simp [NestedKey.data, alike] at h
  | .num _, .tup _, _, _, h, _, _ => by simp [NestedKey.data, alike] at h
  | .tup _, .none, _, _, h, _, _ => by simp [NestedKey.data, alike] at h
  | .tup _, .num _, _, _, h, _, _ => by simp [NestedKey.data, alike] at h
  | .text _, _, p, _, _, _, _ => by simp [plainKey] at p
  | _, .text _, _, p, _, _, _ => by simp [plainKey] at p
theorem dlt_tris : ∀ a b : List NestedKey, plainKeys a = true → plainKeys b = true → alikeAll (NestedKey.datas a) (NestedKey.datas b) = true → lexLt itemOrd (keyToksAll (NestedKey.datas a)) (keyToksAll (NestedKey.datas b)) = false → lexLt itemOrd (keyToksAll (NestedKey.datas b)) (keyToksAll (NestedKey.datas a)) = false → a = b
  | [], [], _, _, _, _, _ => rfl
  | [], y :: ys, _, _, _, h, _ => by
    rw [NestedKey.datas, NestedKey.datas, toks_all_cons, keyToksAll, lex_atom (by simp), lex_one] at h
    cases h
  | x :: xs, [], _, _, _, _, h => by
    rw [NestedKey.datas, NestedKey.datas, toks_all_cons, keyToksAll, lex_atom (by simp), lex_one] at h
    cases h
  | x :: xs, y :: ys, p, q, h, h1, h2 => by
    simp only [plainKeys, Bool.and_eq_true] at p q
    rw [NestedKey.datas, NestedKey.datas] at h h1 h2
    obtain ⟨a1, a2⟩ := alike_all_cons h
    have a1' : alike y.data x.data = true := by rw [alike_comm]; exact a1
    rw [dataLt_cons a1] at h1
    rw [dataLt_cons a1'] at h2
    have e1 := eqv_key x y p.1 q.1
    have e2 := eqv_key y x q.1 p.1
    by_cases e : x = y
    · subst e
      rw [e1, NestedKey.beq_self, if_pos rfl] at h1
      rw [e1, NestedKey.beq_self, if_pos rfl] at h2
      rw [dlt_tris xs ys p.2 q.2 a2 h1 h2]
    · have n1 : NestedKey.beq x y = false := by rw [← NestedKey.decide_eq]; exact decide_eq_false e
      have n2 : NestedKey.beq y x = false := by rw [← NestedKey.decide_eq]; exact decide_eq_false fun z => e z.symm
      rw [e1, n1, if_neg Bool.false_ne_true] at h1
      rw [e2, n2, if_neg Bool.false_ne_true] at h2
      exact (e (dlt_tri x y p.1 q.1 a1 h1 h2)).elim
end
theorem le_trans' (a b c : D) (h1 : (!PySem.W.dataLt b a) = true) (h2 : (!PySem.W.dataLt c b) = true) : (!PySem.W.dataLt c a) = true := by
  rw [Bool.not_eq_true'] at *
  by_cases h : PySem.W.dataLt c a = true
  · rcases lex_negTrans (O := itemOrd) _ (PySem.W.keyToks b) _ h with z | z
    · exact absurd (show PySem.W.dataLt c b = true from z) (by rw [h2]; decide)
    · exact absurd (show PySem.W.dataLt b a = true from z) (by rw [h1]; decide)
  · simpa using h
theorem le_total' (a b : D) : ((!PySem.W.dataLt b a) || (!PySem.W.dataLt a b)) = true := by
  cases h : PySem.W.dataLt b a with
  | false => rfl
  | true =>
    cases h2 : PySem.W.dataLt a b with
    | false => rfl
    | true =>
      have h3 : PySem.W.dataLt a a = true := lex_trans (O := itemOrd) _ _ _ h2 h
      have h4 : PySem.W.dataLt a a = false := lex_irrefl (O := itemOrd) _
      rw [h4] at h3
      cases h3
theorem key_anti {a b : D} (ha : keyOk a = true) (hb : keyOk b = true) (hl : PySem.W.alike a b = true) (h1 : (!PySem.W.dataLt b a) = true) (h2 : (!PySem.W.dataLt a b) = true) : a = b := by
  obtain ⟨k, _, _, e1, k1⟩ := keyOk_ok ha
  obtain ⟨j, _, _, e2, k2⟩ := keyOk_ok hb
  rw [Bool.not_eq_true'] at h1 h2
  unfold kOk at k1 k2
  subst e1 e2
  rw [dlt_tri k j (Bool.and_eq_true_iff.mp k1).1 (Bool.and_eq_true_iff.mp k2).1 hl h2 h1]
theorem sort_one {xs ys : List D} (p : xs.Perm ys) (hk : ∀ x ∈ xs, keyOk x = true) (hl : ∀ x ∈ xs, ∀ y ∈ xs, PySem.W.alike x y = true) : sortD xs = sortD ys := by
  have p1 : (sortD xs).Perm xs := List.mergeSort_perm _ _
  have p2 : (sortD ys).Perm ys := List.mergeSort_perm _ _
  refine List.Perm.eq_of_pairwise (le := fun a b => (!PySem.W.dataLt b a) = true) (fun a b ha hb h1 h2 => ?_) (List.pairwise_mergeSort le_trans' le_total' xs) (List.pairwise_mergeSort le_trans' le_total' ys) (p1.trans (p.trans p2.symm))
  have ma := p1.mem_iff.mp ha
  have mb := p.mem_iff.mpr (p2.mem_iff.mp hb)
  exact key_anti (hk a ma) (hk b mb) (hl a ma b mb) h1 h2
theorem key_eqv {a b : D} (ha : keyOk a = true) (hb : keyOk b = true) : PyData.eqv a b = true ↔ a = b := by
  obtain ⟨k, _, _, e1, k1⟩ := keyOk_ok ha
  obtain ⟨j, _, _, e2, k2⟩ := keyOk_ok hb
  rw [← e1, ← e2, eqv_dec k1 k2, decide_eq_true_eq]
  constructor
  · intro h; rw [h]
  · intro h
    have := eqv_dec k1 k1
    rw [decide_eq_true rfl] at this
    rw [h] at this
    have h2 := eqv_dec k2 k1
    rw [← h] at h2
    by_cases e : k = j
    · exact e
    · have h3 := eqv_dec k1 k2
      rw [← h] at h3
      rw [eqv_dec k1 k1] at h3
      simpa [e] using h3
theorem dedup_sub : ∀ {xs : List D} {x : D}, x ∈ dedup xs → x ∈ xs
  | x :: xs, y, h => by
    unfold dedup at h
    split at h
    · exact List.mem_cons_of_mem _ (dedup_sub h)
    · rcases List.mem_cons.mp h with rfl | h
      · simp
      · exact List.mem_cons_of_mem _ (dedup_sub h)
theorem dedup_mem {xs : List D} (hk : ∀ x ∈ xs, keyOk x = true) : ∀ x, x ∈ xs → x ∈ dedup xs := by
  induction xs with
  | nil => intro x h; cases h
  | cons y ys ih =>
    have ih := ih fun x h => hk x (by simp [h])
    intro x h
    unfold dedup
    split
    · rename_i e
      obtain ⟨z, hz, e⟩ := List.any_eq_true.mp e
      have : z = y := (key_eqv (hk z (by simp [dedup_sub hz])) (hk y (by simp))).mp e
      subst this
      rcases List.mem_cons.mp h with rfl | h
      · exact hz
      · exact ih x h
    · rcases List.mem_cons.mp h with rfl | h
      · simp
      · exact List.mem_cons_of_mem _ (ih x h)
theorem dedup_nd {xs : List D} (hk : ∀ x ∈ xs, keyOk x = true) : (dedup xs).Nodup := by
  induction xs with
  | nil => exact List.nodup_nil
  | cons y ys ih =>
    have ih := ih fun x h => hk x (by simp [h])
    unfold dedup
    split
    · exact ih
    · rename_i e
      refine List.nodup_cons.mpr ⟨fun hy => e (List.any_eq_true.mpr ⟨y, hy, ?_⟩), ih⟩
      exact (key_eqv (hk y (by simp)) (hk y (by simp))).mpr rfl
theorem dedup_perm {xs ys : List D} (hk : ∀ x ∈ xs, keyOk x = true) (nd : ys.Nodup) (h1 : ∀ y ∈ ys, y ∈ xs) (h2 : ∀ x ∈ xs, x ∈ ys) : ys.Perm (dedup xs) :=
  (List.perm_ext_iff_of_nodup nd (dedup_nd hk)).mpr fun x => ⟨fun h => dedup_mem hk x (h1 x h), fun h => h2 x (dedup_sub h)⟩
theorem setOk_ok {xs : List D} (h : setOk xs = true) : xs.length < 64 ∧ (∀ x ∈ xs, keyOk x = true) ∧ (∀ x ∈ xs, ∀ y ∈ xs, PySem.W.alike x y = true) ∧ sortOk (dedup xs) = true := by
  unfold setOk at h
  simp only [Bool.and_eq_true, decide_eq_true_eq, List.all_eq_true] at h
  exact ⟨h.1.1.1, h.1.1.2, h.1.2, h.2⟩
theorem perm_pre {α β : Type} (f : α → β) : ∀ {l : List β} {L : List α}, l.Perm (L.map f) → ∃ L' : List α, L'.Perm L ∧ l = L'.map f
  | [], L, h => by
    have := h.length_eq
    cases L with
    | nil => exact ⟨[], .refl _, rfl⟩
    | cons _ _ => simp at this
  | x :: l, L, h => by
    have hx : x ∈ L.map f := h.mem_iff.mp (by simp)
    obtain ⟨y, hy, rfl⟩ := List.mem_map.mp hx
    obtain ⟨s, t, rfl⟩ := List.append_of_mem hy
    have h2 : l.Perm ((s ++ t).map f) := by
      have : (f y :: l).Perm (f y :: (s ++ t).map f) := h.trans (by rw [List.map_append, List.map_cons, List.map_append]; exact List.perm_middle)
      exact List.Perm.cons_inv this
    obtain ⟨L', p, rfl⟩ := perm_pre f h2
    exact ⟨y :: L', (List.Perm.cons y p).trans List.perm_middle.symm, rfl⟩
structure SetK0 (w : World) (h : Heap) (a : Addr) (L : Lk2) : Prop where
  ex : ∃ (es : Array (Int × Value)) (ep : Nat) (t : SetTable), (∃ o, h.get? a = some o ∧ o.ExactSet ∧ o.data = .set es ep t) ∧ es.toList = L.map (ent w) ∧ TabOk t (L.map (hsh w)) ∧ (L.map (·.2)).Nodup ∧ t.plain = true ∧
    (w.params.followText "set-order" = true ∨ t.led = true) ∧ L.length * 5 < t.mask * 3 ∧ L.length < 64
def SetKO (w : World) (a : Addr) (L : Lk2) : HO := .ext fun h => SetK0 w h a L
theorem setKO_new {P : Program} {w : World} {H : Hp} {h : Heap} {a : Addr} {L : Lk2} {es : Array (Int × Value)} {ep : Nat} {t : SetTable} (T : Tb w h a L es ep t) : ObjOk P w H h a (SetKO w a L) := by
  have R : SetK0 w h a L := ⟨es, ep, t, T.ob, T.rows, T.tab, T.nd, T.plain, T.led, T.room, T.few⟩
  obtain ⟨o, ho, _⟩ := T.ob
  refine ⟨R, ⟨o, ho⟩, fun h1 h2 ⟨p⟩ k => ?_⟩
  obtain ⟨es, ep, t, ⟨o, ho, r⟩, q⟩ := p
  exact ⟨es, ep, t, ⟨o, k o ho, r⟩, q⟩
section
variable {X : Cx}
def rSetK (K : PySem.W.Frag) (w : World) : List V → Hp → VK → Prop := fun vs H Q => ∃ l xs ds G, vs = [.ref l] ∧ SqL K H l xs ∧ Same G H ∧ Dats K G xs ds ∧ setOk ds = true ∧
  ∀ p L, H p = none → (L.map (·.2)).Nodup → (∀ q ∈ L, kOk q.2 = true ∧ Dat K G (.ref q.1) q.2.data ∧ q.2.data ∈ ds) → (∀ d ∈ ds, ∃ q ∈ L, q.2.data = d) → Q (.ref p) (upd H p (SetKO w p L))
theorem keys_of {K : PySem.W.Frag} {G : Hp} : ∀ {xs : List V} {ds : List D}, Dats K G xs ds → (∀ d ∈ ds, keyOk d = true) → ∃ ks : Lk2, xs = ks.map (fun q => V.ref q.1) ∧ ds = ks.map (fun q => q.2.data) ∧ ∀ q ∈ ks, kOk q.2 = true ∧ Dat K G (.ref q.1) q.2.data
  | _, _, .nil, _ => ⟨[], rfl, rfl, fun q z => (by cases z)⟩
  | _, _, .cons (v := v) (d := d) h t, hk => by
    obtain ⟨ks, e1, e2, e3⟩ := keys_of t fun d z => hk d (by simp [z])
    obtain ⟨k, ys, e, ek, ok⟩ := keyOk_ok (hk d (by simp))
    subst e
    cases h with
    | @tup a us _ h1 h2 =>
      refine ⟨(a, k) :: ks, by rw [e1]; rfl, by rw [e2, List.map_cons, ek], fun q z => ?_⟩
      rcases List.mem_cons.mp z with rfl | z
      · exact ⟨ok, by rw [ek]; exact .tup h1 h2⟩
      · exact e3 q z
theorem kAt_of {pins : List (Addr × Obj)} {σ : L2.St} {G H : Hp} {s : Shared} {q : Addr × NestedKey} (I : Inv X pins σ H s) (e : Same G H) (h : kOk q.2 = true ∧ Dat X.K G (.ref q.1) q.2.data) : KAt s.heap q.2 q.1 :=
  ⟨nested_of I e q.2 (.ref q.1) (.ref q.1) (Bool.and_eq_true_iff.mp h.1).1 h.2 rfl, h.1⟩
theorem vals_refs : ∀ {ks : Lk2} {us : List Value}, Vals (ks.map fun q => V.ref q.1) us → us = ks.map fun q => Value.ref q.1
  | [], _, .nil => rfl
  | q :: ks, _, .cons r t => by
    cases r
    rw [vals_refs t]
    rfl
theorem refs_vals : ∀ (ks : Lk2), Vals (ks.map fun q => V.ref q.1) (ks.map fun q => Value.ref q.1)
  | [] => .nil
  | q :: ks => .cons rfl (refs_vals ks)
theorem cr_setK (hc : X.calm = true) (hu : X.A.units + 70 < cLine) : CallR X (.type "set") (rSetK X.K X.w) := by
  intro pins s σ H vs us Q I r h
  obtain ⟨l, xs, ds, G, rfl, hs, e, t, ho, q⟩ := h
  obtain ⟨h1, h2, h3, _⟩ := setOk_ok ho
  obtain ⟨ks, rfl, rfl, hk⟩ := keys_of t h2
  obtain ⟨u, rfl, rx⟩ := vals1 r
  cases rx
  obtain ⟨its, rv, pl, hz⟩ := I.list hs
  have hn : H s.heap.objs.size = none := I.hok.fresh (Nat.le_refl _)
  refine call_setL (P := X.prog) (w := X.w) ks (I.ok.hd hc) pl.isList (by simpa using vals_refs rv) (fun p hp => kAt_of I e (hk p hp)) (by simpa using h1) (by omega) fun h' tk L es ep t T g kp => ?_
  have all : ∀ p ∈ ks, p.2 ∈ L.map (·.2) := fun p hp => g.all p (by rw [List.take_length]; exact hp)
  have sub : ∀ p ∈ L, p ∈ ks := fun p hp => List.mem_of_mem_take (g.sub p hp)
  refine ⟨.ref s.heap.objs.size, upd H s.heap.objs.size (SetKO X.w s.heap.objs.size L), I.laid (t' := tk) kp (Nat.le_refl _) (setKO_new T), rfl, q _ L hn T.nd (fun p hp => ⟨(hk p (sub p hp)).1, (hk p (sub p hp)).2, List.mem_map.mpr ⟨p, sub p hp, rfl⟩⟩) fun d hd => ?_⟩
  obtain ⟨p, hp, rfl⟩ := List.mem_map.mp hd
  obtain ⟨p', hp', e'⟩ := List.mem_map.mp (all p hp)
  exact ⟨p', hp', by rw [e']⟩
def rSortS (K : PySem.W.Frag) (w : World) : List V → Hp → VK → Prop := fun vs H Q => ∃ a L G, vs = [.ref a] ∧ H a = some (SetKO w a L) ∧ Same G H ∧ (∀ q ∈ L, kOk q.2 = true ∧ Dat K G (.ref q.1) q.2.data) ∧ sortOk (L.map fun q => q.2.data) = true ∧
  ∀ p (L' : Lk2), H p = none → L'.Perm L → Q (.ref p) (upd H p (.lst (zsort (L'.map fun q => .ref q.1) (L'.map fun q => q.2.data))))
theorem perm_ok {xs ys : List D} (p : ys.Perm xs) (h : sortOk xs = true) : sortOk ys = true := by
  unfold sortOk at *
  simp only [Bool.and_eq_true, Bool.or_eq_true, List.all_eq_true] at *
  obtain ⟨⟨⟨h1, h2⟩, h3⟩, h4⟩ := h
  refine ⟨⟨⟨by rw [p.length_eq]; exact h1, fun a ha b hb => h2 a (p.mem_iff.mp ha) b (p.mem_iff.mp hb)⟩, ?_⟩, fun a ha => h4 a (p.mem_iff.mp ha)⟩
  rcases h3 with h3 | h3
  · exact .inl fun a ha => h3 a (p.mem_iff.mp ha)
  · exact .inr fun a ha => h3 a (p.mem_iff.mp ha)
theorem reads_keys {pins : List (Addr × Obj)} {s : Shared} {σ : L2.St} {G H : Hp} (I : Inv X pins σ H s) (e : Same G H) : ∀ {L : Lk2}, (∀ q ∈ L, kOk q.2 = true ∧ Dat X.K G (.ref q.1) q.2.data) → ReadsAll s.heap (L.map fun q => Value.ref q.1) (L.map fun q => q.2.data) []
  | [], _ => .nil
  | q :: L, h => .cons (as := []) (reads_of I e _ _ _ (Bool.and_eq_true_iff.mp (h q (by simp)).1).1 (h q (by simp)).2 rfl) (reads_keys I e fun p z => h p (by simp [z]))
theorem cr_sortS (hc : X.calm = true) (hu : X.A.units + 70 < cLine) : CallR X (.builtin "sorted") (rSortS X.K X.w) := by
  intro pins s σ H vs us Q I r h
  obtain ⟨a, L, G, rfl, ha, e, hk, ho, q⟩ := h
  obtain ⟨u, rfl, rx⟩ := vals1 r
  cases rx
  obtain ⟨es, ep, t, ⟨o, g1, g2, g3⟩, rows, T, nd, pl, ld, room, few⟩ := (show SetK0 X.w s.heap a L from (I.hok a _ ha).1).ex
  have sz := rows_size rows
  have tz := T.sz
  rw [List.length_map] at tz
  refine Calls.call_function_entry kind_sorted plain_sorted entry_sorted (args_sorted1 _) ?_
  unfold Builtin.«sorted»
  refine wpAny_bind (m := checkCount "sorted" 1 1 _) (wpAny_pure ?_)
  refine wpAny_bind (collect_set (A := X.A.in1) (I.ok.hd hc) ⟨o, g1, g2.1, g3⟩ (fits_of (by omega) T.dm (by omega)) (by unfold scanBound; omega) T.ris ld fun s1 out k1 hz gn os pm => ?_)
  have em : es.toList.map (·.2) = L.map fun q => Value.ref q.1 := by rw [rows, List.map_map]; rfl
  rw [em] at pm
  obtain ⟨L', pL, rfl⟩ := perm_pre (fun q : Addr × NestedKey => Value.ref q.1) pm
  have hk' : ∀ q ∈ L', kOk q.2 = true ∧ Dat X.K G (.ref q.1) q.2.data := fun q z => hk q (pL.mem_iff.mp z)
  have ho' : sortOk (L'.map fun q => q.2.data) = true := perm_ok (pL.map _) ho
  obtain ⟨h1, h2, h3, h4⟩ := sortOk_ok ho'
  have I1 : Inv X pins σ H { s with heap := s1.heap, gens := s1.gens, drawn := s1.drawn, toks := s1.toks } := I.call (ch := []) (Un.kept k1) (I.hok.kept k1) (by rw [gn]; exact I.bare) (fun _ z => nomatch z)
  have e1 : s1 = { s with heap := s1.heap, gens := s1.gens, drawn := s1.drawn, toks := s1.toks } := by
    cases s1; cases s; cases os; rfl
  rw [e1]
  generalize s1.heap = h' at *
  generalize s1.toks = tk at *
  generalize s1.gens = g' at *
  generalize s1.drawn = d' at *
  clear e1
  have lenL : (L'.map fun q => Value.ref q.1).length = L.length := by rw [List.length_map, pL.length_eq]
  have hv := refs_vals L'
  refine wpAny_bind (wpAny_newList ?_ (by rw [lenL, sizeLine_eq]; omega))
  have hoL : (h'.push (seqObj "list" (L'.map fun q => Value.ref q.1).toArray 0)).get? h'.objs.size = some (seqObj "list" (L'.map fun q => Value.ref q.1).toArray 0) := Heap.get?_push_size _ rfl
  show wpAny _ _ _ _ _ { s with heap := h'.push (seqObj "list" (L'.map fun q => Value.ref q.1).toArray 0), gens := g', drawn := d', toks := tk }
  have rd := reads_keys I1 e hk'
  obtain ⟨a1, a2, a3, a4⟩ := each_zip hv rd
  have hzip : ((L'.map fun q => V.ref q.1).zip (L'.map fun q => q.2.data)).length = L.length := by rw [List.length_zip]; simp [pL.length_eq]
  have a2' : PySem.W.EachIs (fun v (b : V × D) => ∃ as, Reads (h'.push (seqObj "list" (L'.map fun q => Value.ref q.1).toArray 0)) v b.2 as ∧ h'.objs.size ∉ as) (L'.map fun q => Value.ref q.1) ((L'.map fun q => V.ref q.1).zip (L'.map fun q => q.2.data)) := by
    have g : ∀ (M : Lk2), (∀ q ∈ M, q ∈ L') → PySem.W.EachIs (fun v (b : V × D) => ∃ as, Reads (h'.push (seqObj "list" (L'.map fun q => Value.ref q.1).toArray 0)) v b.2 as ∧ h'.objs.size ∉ as) (M.map fun q => Value.ref q.1) ((M.map fun q => V.ref q.1).zip (M.map fun q => q.2.data)) := by
      intro M
      induction M with
      | nil => intro _; exact .nil
      | cons q M ih =>
        intro hM
        have k := hk' q (hM q (by simp))
        exact .cons ⟨[], PyProof.Rows.Reads.keeps (fun _ _ z => Heap.get?_push_of_some _ z) (reads_of I1 e q.2 (.ref q.1) (.ref q.1) (Bool.and_eq_true_iff.mp k.1).1 k.2 rfl), by simp⟩ (ih fun r z => hM r (by simp [z]))
    exact g L' fun q z => z
  refine wpAny_bind (wpAny_holding (PySem.W.list_sort_data (β := V × D) (enc := (·.2)) (R := fun v b => RelV b.1 v) (s := { s with heap := h'.push (seqObj "list" (L'.map fun q => Value.ref q.1).toArray 0), gens := g', drawn := d', toks := tk }) hoL a1 a2' (by rw [a3]; exact h2) (by rw [a3]; exact h3) (by rw [hzip, sizeLine_eq]; omega) (fun b hb => ?_) fun out hl2 eo => ?_))
  · have hm : b.2 ∈ L'.map fun q => q.2.data := by rw [← a3]; exact List.mem_map.mpr ⟨b, hb, rfl⟩
    have := SeqAt.depth_of_shaped (okD_sh (h4 _ hm))
    rw [Around.in1_units]
    omega
  · obtain ⟨c, hc⟩ := PyProof.Rows.sortedHeap_at (vs := L'.map fun q => Value.ref q.1) (out := out.toArray) hoL
    have hv2 : Vals (zsort (L'.map fun q => V.ref q.1) (L'.map fun q => q.2.data)) out := vals_each eo
    have zl := zsort_len (xs := L'.map fun q => V.ref q.1) (ds := L'.map fun q => q.2.data) (by simp)
    rw [List.length_map, pL.length_eq] at zl
    refine wpAny_pure ⟨_, rfl, .ref h'.objs.size, upd H h'.objs.size (.lst (zsort (L'.map fun q => V.ref q.1) (L'.map fun q => q.2.data))), I1.laid (t' := tk) (fun b u z => ?_) (Nat.le_refl _) ⟨by rw [sizeLine_eq]; omega, out, c, hv2, hc⟩, rfl, q _ L' (I1.hok.fresh (Nat.le_refl _)) pL⟩
    have hb : b < h'.objs.size := Heap.lt_size z
    rw [PyProof.Rows.sortedHeap_old (Nat.ne_of_lt hb) (by rw [size_push']; exact Nat.lt_succ_of_lt hb)]
    exact Heap.get?_push_of_some _ z
end
end Vi
set_option maxHeartbeats 4000000
namespace Vi
open PySem PySem.Spec PyProof.Rows L2
section
variable {X : Cx} {pins : List (Addr × Obj)} {σ : L2.St} {H : Hp} {s : Shared} {l : Addr} {xs : List V}
theorem Inv.rdL (I : Inv X pins σ H s) (h : SqL X.K H l xs) : xs.length ≤ sizeLine ∧ ∃ (its : List Value) (n : Nat) (sl : Array (Option Value)), Vals xs its ∧ xs.length = its.length ∧ s.heap.get? l = some { cls := .type "list", dict := none, data := .seq its.toArray n, slots := sl } := by
  rcases h with h | ⟨o, its, n, hk, hc, hd, hs, hz, r⟩
  · obtain ⟨z, its, n, r, e⟩ := h.ok I.hok
    exact ⟨z, its, n, _, r, r.length, e⟩
  · obtain ⟨cls, dd, data, sl⟩ := o
    simp only at hc hd hs
    subst hc hd hs
    have e := r.length
    simp only [Array.length_toList] at e
    exact ⟨by omega, its.toList, n, sl, r, by simp; omega, I.kIn _ _ hk⟩
theorem int_rmulW (a : Int) (t : Tok) (l : Addr) (items : Array Value) (n : Nat) (sl : Array (Option Value)) :
    Meets (Builtin.«int.__rmul__» ⟨[.int a t, .ref l], []⟩) (fun _ R s => s.heap.get? l = some { cls := .type "list", dict := none, data := .seq items n, slots := sl } ∧ R (.ok (.ret Value.notImplemented)) s) :=
  .of_wp fun prog w A R s h => by obtain ⟨hp, g, d, tk, os⟩ := s; obtain ⟨hl, h⟩ := h; wp_walk; exact ⟨_, rfl, h⟩
theorem list_mulW (l : Addr) (items : Array Value) (n : Nat) (sl : Array (Option Value)) (x : Int) (u : Tok) (hc0 : ¬(!Builtin.List.listFitsIndex x) = true) (hc1 : ¬items.size * x.toNat > (2 ^ 63 - 1) / 8) (hc2 : ¬Builtin.List.listTooLong (items.size * x.toNat) = true) :
    Meets (Builtin.«list.__mul__» ⟨[.ref l, .int x u], []⟩) (fun _ R s => s.heap.get? l = some { cls := .type "list", dict := none, data := .seq items n, slots := sl } ∧ R (.ok (.ret (Value.ref s.heap.objs.size))) { s with heap := s.heap.push { cls := Value.type "list", data := Data.seq (List.foldl (fun x1 x2 => x1 ++ x2) #[] (List.replicate (if items.isEmpty = true then 0 else x.toNat) items)) }, toks := s.toks }) :=
  .of_wp fun prog w A R s h => by
    obtain ⟨hp, g, d, tk, os⟩ := s; obtain ⟨hl, h⟩ := h
    have hsz := AutoListH.joined_fits hc2
    wp_walk; refine wpAny_ite_false (decide_eq_false (Nat.not_lt.mpr hsz)) ?_; wp_walk; exact ⟨_, rfl, h⟩
def rCatR (K : PySem.W.Frag) : R2 := fun x y H Q => ∃ l b xs zs, x = .ref l ∧ y = .ref b ∧ SqL K H l xs ∧ SqL K H b zs ∧ xs.length + zs.length ≤ sizeLine ∧ ∀ p, H p = none → Q (.ref p) (upd H p (.lst (xs ++ zs)))
theorem op_catR : OpR X (binaryOp .Add) (rCatR X.K) := by
  intro pins s σ H x y v u Q I rx ry h
  obtain ⟨l, b, xs, zs, rfl, rfl, hH, hB, hz, q⟩ := h
  cases rx
  cases ry
  obtain ⟨z, its, n, sl, r, hl, e⟩ := Inv.rdL I hH
  obtain ⟨z2, its2, n2, sl2, r2, hl2, e2⟩ := Inv.rdL I hB
  have ea : its.toArray ++ its2.toArray = (its ++ its2).toArray := by simp
  refine concat_meets ⟨_, e, rfl⟩ ⟨_, e2, rfl⟩ noFill_list_add seq_list_add PySem.F.slot_list_add PySem.F.entry_list_add (PySem.F.args_list_add_2 _ _) (list_addW l b its.toArray its2.toArray n n2 none none sl sl2 (by rw [List.size_toArray, List.size_toArray]; omega)) ⟨e, e2, ?_⟩
  rw [ea]
  exact ⟨.ref _, _, I.lnew (t' := s.toks) (r.append r2) (by rw [List.length_append]; omega), rfl, q _ I.fresh⟩
def rRepR (K : PySem.W.Frag) : R2 := fun x y H Q => ∃ l k xs, x = .ref l ∧ y = .int k ∧ SqL K H l xs ∧ -(2 ^ 63) ≤ k ∧ k < 2 ^ 63 ∧ xs.length * k.toNat ≤ sizeLine ∧
  ∀ p, H p = none → Q (.ref p) (upd H p (.lst (List.replicate k.toNat xs).flatten))
theorem op_repR : OpR X (binaryOp .Mult) (rRepR X.K) := by
  intro pins s σ H x y v u Q I rx ry h
  obtain ⟨l, k, xs, rfl, rfl, hH, h1, h2, hz, q⟩ := h
  cases rx
  obtain ⟨t, rfl⟩ := ry
  obtain ⟨z, its, n, sl, r, hl, e⟩ := Inv.rdL I hH
  have hlen : its.toArray.size * k.toNat ≤ sizeLine := by rw [List.size_toArray, ← hl]; exact hz
  have hcap : ¬ its.toArray.size * k.toNat > (2 ^ 63 - 1) / 8 := by
    have : (sizeLine : Nat) ≤ (2 ^ 63 - 1) / 8 := by decide
    omega
  have hfit : ¬ (!Builtin.List.listFitsIndex k) = true := by
    rw [fitsIndex_both h1 h2]
    exact Bool.false_ne_true
  have hlong : ¬ Builtin.List.listTooLong (its.toArray.size * k.toNat) = true := by
    rw [notLongL hlen]
    exact Bool.false_ne_true
  have hnew : List.foldl (fun x1 x2 => x1 ++ x2) #[] (List.replicate (if its.toArray.isEmpty = true then 0 else k.toNat) its.toArray) = (List.replicate k.toNat its).flatten.toArray := by
    have f0 : ∀ m : Nat, List.foldl (fun x1 x2 => x1 ++ x2) #[] (List.replicate m its.toArray) = (List.replicate m its).flatten.toArray := fun m => by
      have := foldl_rep its m []
      rw [List.nil_append] at this
      exact this
    rw [f0]
    cases its with
    | nil => simp
    | cons a r' => rw [if_neg (by simp)]
  refine wpAny_binaryOp_repeat_ref (T := "list") (U := "int") (by decide) ⟨_, e, rfl⟩ (fun s' => typeIs_int s' k t) noFill_list_mul F.fills_int_mul F.slot_int_rmul repeat_list F.slot_int_index.lookup
    (call_meets F.slot_int_rmul (typeIs_int s k t) F.entry_int_rmul (F.args_int_rmul_2 _ _) (int_rmulW k t l its.toArray n sl)
      ⟨e, rfl, ⟨_, e, rfl⟩, call_meets F.slot_list_mul ⟨_, e, rfl⟩ F.entry_list_mul (F.args_list_mul_2 _ _) (list_mulW l its.toArray n sl k t hfit hcap hlong) ⟨e, ?_⟩⟩)
  rw [hnew]
  exact ⟨.ref _, _, I.lnew (t' := s.toks) (r.rep k.toNat) (by rw [PyProof.Rows.lm_len_rep_flat, Nat.mul_comm]; exact hz), rfl, q _ I.fresh⟩
theorem tuple_mulS (l : Addr) (items : Array Value) (n : Nat) (dd : Option Addr) (sl : Array (Option Value)) (x : Int) (u : Tok) (c0 : (decide (x < -(2 ^ 63)) || decide (x ≥ 2 ^ 63)) = false) (c1 : (items.isEmpty || x == 1) = true) :
    Meets (Builtin.«tuple.__mul__» ⟨[.ref l, .int x u], []⟩) (fun _ R s => s.heap.get? l = some { cls := .type "tuple", dict := dd, data := .seq items n, slots := sl } ∧ R (.ok (.ret (.ref l))) s) :=
  .of_wp fun prog w A R s h => by
    obtain ⟨hp, g, d, tk, os⟩ := s
    obtain ⟨hl, h⟩ := h
    have f1 := AutoSeq1.idx_int
    wp_walk using wpAny_loadPart' hl
    repeat (first
      | (refine wpAny_ite_false (decide_eq_false (by rw [c0]; exact Bool.false_ne_true)) ?_; wp_walk using wpAny_loadPart' hl)
      | (refine wpAny_ite_true (decide_eq_true c1) ?_; wp_walk using wpAny_loadPart' hl))
    exact ⟨_, rfl, h⟩
def rRepS (K : PySem.W.Frag) : R2 := fun x y H Q => ∃ l k xs, x = .ref l ∧ y = .int k ∧ SqT K H l xs ∧ (xs = [] ∨ k = 1) ∧ -1000 ≤ k ∧ k ≤ 1000 ∧ Q (.ref l) H
theorem op_repS : OpR X (binaryOp .Mult) (rRepS X.K) := by
  intro pins s σ H x y v u Q I rx ry h
  obtain ⟨l, k, xs, rfl, rfl, hT, hne, h1, h2, q⟩ := h
  cases rx
  obtain ⟨t, rfl⟩ := ry
  obtain ⟨its, r, ⟨⟨cls, dd, data, sl⟩, ho, hc, n, hd⟩, hs⟩ := I.tuple hT
  simp only at hc hd
  subst hc hd
  have c0 : (decide (k < -(2 ^ 63)) || decide (k ≥ 2 ^ 63)) = false := by
    rw [decide_eq_false (by omega), decide_eq_false (by omega)] <;> rfl
  have c1 : (its.toArray.isEmpty || k == 1) = true := by
    rcases hne with e | e
    · subst e; cases r; rfl
    · subst e; simp
  refine wpAny_binaryOp_repeat_ref (T := "tuple") (U := "int") (by decide) ⟨_, ho, rfl⟩ (fun s' => typeIs_int s' k t) noFill_tuple_mul F.fills_int_mul F.slot_int_rmul repeat_tuple F.slot_int_index.lookup
    (call_meets F.slot_int_rmul (typeIs_int s k t) F.entry_int_rmul (F.args_int_rmul_2 _ _) (int_rmul_tuple k t l its.toArray n dd sl)
      ⟨ho, rfl, ⟨_, ho, rfl⟩, call_meets F.slot_tuple_mul ⟨_, ho, rfl⟩ F.entry_tuple_mul (F.args_tuple_mul_2 _ _) (tuple_mulS l its.toArray n dd sl k t c0 c1) ⟨ho, ?_⟩⟩)
  exact ⟨.ref l, H, I, rfl, q⟩
end
section
variable {X : Cx}
theorem Inv.ftup {pins : List (Addr × Obj)} {σ : L2.St} {H : Hp} {s : Shared} {xs : List V} {us : List Value} (I : Inv X pins σ H s) (r : Vals xs us) (z : xs.length ≤ sizeLine) :
    Inv X pins σ (upd H s.heap.objs.size (.frz { cls := .type "tuple", data := .seq us.toArray } (.tup xs))) { s with heap := s.heap.push { cls := .type "tuple", data := .seq us.toArray } } :=
  I.laid (t' := s.toks) (fun b u e => Heap.get?_push_of_some _ e) (Nat.le_refl _) ⟨Heap.get?_push_size _ rfl, z, us, r, ⟨_, Heap.get?_push_size _ rfl, rfl, _, rfl⟩⟩
def tTupF (t : TA) : TE := fun σ H Q => t σ H fun xs H1 => xs.length ≤ sizeLine ∧ ∀ p o, H1 p = none → o.dict = none → Q (.ref p) (upd H1 p (.frz o (.tup xs)))
theorem pe_tupF {es : List Expr} {t : TA} {pos : Pos} {x1} (h : PA X es t) : PE X (.Tuple es x1 pos) (tTupF t) := by
  refine ⟨fun pins s σ H Q I hq => ?_⟩
  refine wpAny_Tuple_spliced (thn (h.run pos pins s σ H _ I hq) fun us s1 ⟨xs, H1, I1, r, z, q⟩ => ⟨by rw [← r.length]; exact z, ?_⟩)
  exact ⟨.ref s1.heap.objs.size, _, Inv.ftup I1 r z, rfl, q _ _ (I1.hok.fresh (Nat.le_refl _)) rfl⟩
def rCatF (K : PySem.W.Frag) : R2 := fun x y H Q => ∃ a b xs ys, x = .ref a ∧ y = .ref b ∧ SqT K H a xs ∧ SqT K H b ys ∧ xs.length + ys.length ≤ sizeLine ∧
  (xs = [] → Q (.ref b) H) ∧ (xs ≠ [] → ys = [] → Q (.ref a) H) ∧ (xs ≠ [] → ys ≠ [] → ∀ p o, H p = none → o.dict = none → Q (.ref p) (upd H p (.frz o (.tup (xs ++ ys)))))
theorem op_catF : OpR X (binaryOp .Add) (rCatF X.K) := by
  intro pins s σ H x y v u Q I rx ry h
  obtain ⟨a, b, xs, ys, rfl, rfl, ha, hb, hz, q0, q1, q2⟩ := h
  cases rx
  cases ry
  obtain ⟨its, r1, p1, _⟩ := I.tuple ha
  obtain ⟨its2, r2, p2, _⟩ := I.tuple hb
  by_cases hx : xs = []
  · subst hx
    cases r1
    exact L2.cat_tup0 p1 p2 ⟨.ref b, H, I, rfl, q0 rfl⟩
  · refine HT.cat_tup p1 p2 (fun z => hx (r1.nil_iff.mp z)) (fun z => ⟨.ref a, H, I, rfl, q1 hx (r2.nil_iff.mp z)⟩) (fun z => ?_) (by rw [← r1.length, ← r2.length]; exact hz)
    exact ⟨.ref s.heap.objs.size, _, Inv.ftup I (r1.append r2) (by rw [List.length_append]; exact hz), rfl, q2 hx (fun w => z (r2.nil_iff.mpr w)) _ _ (I.hok.fresh (Nat.le_refl _)) rfl⟩
def rSlF (K : PySem.W.Frag) : V → Option Int → Option Int → Hp → VK → Prop := fun x lo hi H Q => ∃ a xs, x = .ref a ∧ SqT K H a xs ∧
  (HT.sIx xs.length 0 lo = 0 ∧ HT.sIx xs.length xs.length hi = xs.length → Q (.ref a) H) ∧ (¬ (HT.sIx xs.length 0 lo = 0 ∧ HT.sIx xs.length xs.length hi = xs.length) → ∀ p o, H p = none → o.dict = none → Q (.ref p) (upd H p (.frz o (.tup (cutV xs lo hi)))))
theorem sl_tupF : SlR X (rSlF X.K) := by
  intro pins s σ H x v vl vu lo hi sl Q I rx hs pl pu h
  obtain ⟨a, xs, rfl, hx, q1, q2⟩ := h
  cases rx
  obtain ⟨its, r, ht, hz⟩ := I.tuple hx
  have hlen : its.toArray.size = xs.length := by rw [List.size_toArray]; exact r.length.symm
  refine ⟨"tuple", _, PyProof.Rows.slot_tuple_getitem.lookup, ht.typeIs, ?_⟩
  by_cases hw : HT.sIx xs.length 0 lo = 0 ∧ HT.sIx xs.length xs.length hi = xs.length
  · exact L2.getItem_tuple_whole ht hs pl pu (by rw [hlen]; exact hw) ⟨.ref a, H, I, rfl, q1 hw⟩
  · refine HT.getItem_tuple_cut ht hs pl pu (by rw [hlen]; exact hw) ?_ (by rw [hlen]; exact hz)
    rw [hlen]
    exact ⟨.ref s.heap.objs.size, _, Inv.ftup I ((r.drop (HT.sIx xs.length 0 lo)).take (HT.sIx xs.length xs.length hi - HT.sIx xs.length 0 lo)) (Nat.le_trans (cutV_length xs lo hi) hz), rfl, q2 hw _ _ (I.hok.fresh (Nat.le_refl _)) rfl⟩
end
section
variable {prog : Program} {w : World} {A : Around} {E : Value → Shared → Prop} {s : Shared}
theorem places_rev (n : Nat) : Builtin.Slice.slicePlaces ((n : Int) - 1) (-1) (-1) = n := by
  unfold Builtin.Slice.slicePlaces
  simp
  try omega
theorem adjust_rev (n : Nat) : Builtin.Slice.sliceAdjust none none (-1) (n : Int) = ((n : Int) - 1, -1) := by
  unfold Builtin.Slice.sliceAdjust
  simp
theorem sliceApplied_rev {sl : Addr} {vk : Value} {n : Nat} {Q : Int × Int × Nat → Shared → Prop} (hs : s.heap.IsSliceOf sl .none .none vk) (pk : IsPart vk (some (-1)))
    (h : Q ((n : Int) - 1, -1, n) s) : wpAny (model prog w) A (Builtin.Slice.sliceApplied (.ref sl) (pure (n : Int))) Q E s := by
  obtain ⟨os, hos, hcs, hds⟩ := id hs
  cases pk
  rename_i u
  unfold Builtin.Slice.sliceApplied Builtin.Slice.sliceFields
  refine wpAny_bind (wpAny_bind (wpAny_field hos hds (x := .none) rfl (wpAny_bind (wpAny_field hos hds (x := .none) rfl (wpAny_bind (wpAny_field hos hds (x := .int (-1) u) rfl (wpAny_pure ?_)))))))
  refine wpAny_bind (slicePart_int ?_)
  show wpAny _ _ (if ((-1 : Int) == 0) = true then _ else _) _ _ s
  rw [if_neg (by decide)]
  refine wpAny_bind (slicePart_none (wpAny_bind (slicePart_none (wpAny_bind (wpAny_pure ?_)))))
  show wpAny _ _ (match Builtin.Slice.sliceAdjust none none (-1) (n : Int) with | (lo, hi) => pure (lo, (-1 : Int), Builtin.Slice.slicePlaces lo hi (-1))) _ _ s
  rw [adjust_rev n]
  show wpAny _ _ (pure ((n : Int) - 1, (-1 : Int), Builtin.Slice.slicePlaces ((n : Int) - 1) (-1) (-1))) _ _ s
  rw [places_rev]
  exact wpAny_pure h
theorem pick_rev (xs : Array Value) : ((List.range xs.size).filterMap fun (m : Nat) => xs[((xs.size : Int) - 1 + (m : Int) * (-1)).toNat]?).toArray = xs.toList.reverse.toArray := by
  have e : (fun (m : Nat) => xs[((xs.size : Int) - 1 + (m : Int) * (-1)).toNat]?) = (fun k => xs[k]?) ∘ fun m => xs.size - 1 - m := by
    funext m
    show xs[((xs.size : Int) - 1 + (m : Int) * (-1)).toNat]? = xs[xs.size - 1 - m]?
    have : ((xs.size : Int) - 1 + (m : Int) * (-1)).toNat = xs.size - 1 - m := by omega
    rw [this]
  rw [e, ← List.filterMap_map, PySem.W.krv_range, List.filterMap_reverse, PySem.W.krv_all]
theorem getItem_tuple_rev {t sl : Addr} {items : Array Value} {vk : Value} {Q : Value → Shared → Prop} (ht : IsTup s.heap t items) (hs : s.heap.IsSliceOf sl .none .none vk) (pk : IsPart vk (some (-1)))
    (h : Q (.ref s.heap.objs.size) { s with heap := s.heap.push { cls := .type "tuple", data := .seq items.toList.reverse.toArray } })
    (hsz : items.size ≤ sizeLine) : wpAny (model prog w) A (getItem (.ref t) (.ref sl)) Q E s := by
  have htake : sizeOk (.seq items.toList.reverse.toArray) := by
    show items.toList.reverse.toArray.size ≤ sizeLine
    rw [List.size_toArray, List.length_reverse, Array.length_toList]
    exact hsz
  obtain ⟨os, hos, hcs, hds⟩ := id hs
  have hTs : s.TypeIs (.ref sl) "slice" := ⟨os, hos, hcs⟩
  unfold getItem
  try with_reducible refine wpAny_holding ?_
  first | refine wpAny_bind (wpAny_pure ?_) | skip
  refine wpAny_bind (wpAny_sequenceKey ht.typeIs (by decide) ?_)
  refine wpAny_bind (wpAny_callSpecial?_slot (name := Str.ofString "__getitem__") ht.typeIs PyProof.Rows.slot_tuple_getitem
    (wpAny_call_entry PyProof.Rows.slot_tuple_getitem ht.typeIs entry_tuple_getitem ?_ (args_tuple_getitem _ _)))
  show wpAny _ _ (Builtin.Tuple.tupleItemsOf (.ref t) >>= _) _ _ s
  refine wpAny_bind (tupleItemsOf_ ht ?_)
  refine wpAny_bind (wpAny_typeOf hTs ?_)
  rw [if_pos (by decide)]
  refine wpAny_bind (sliceApplied_rev hs pk ?_)
  show wpAny _ _ (if (((items.size : Int) - 1) == 0 && (-1 : Int) == 1 && items.size == items.size) = true then _ else _) _ _ s
  rw [if_neg (by simp), pick_rev]
  first
    | exact wpAny_bind (m := Builtin.Tuple.tupleExact _) (wpAny_newObj_type (wpAny_pure ⟨_, rfl, wpAny_pure h⟩) htake)
    | exact wpAny_bind (m := Builtin.Tuple.tupleExact _) (wpAny_newObj_type (wpAny_bind (wpAny_pure (wpAny_pure ⟨_, rfl, wpAny_pure h⟩))) htake)
    | exact wpAny_bind (wpAny_bind (m := Builtin.Tuple.tupleExact _) (wpAny_newObj_type (wpAny_pure (wpAny_pure ⟨_, rfl, wpAny_pure h⟩)) htake))
    | exact wpAny_bind (wpAny_bind (m := Builtin.Tuple.tupleExact _) (wpAny_newObj_type (wpAny_pure ⟨_, rfl, wpAny_pure h⟩) htake))
end
section
variable {X : Cx}
theorem Vals.rev {xs : List V} {us : List Value} (r : Vals xs us) : Vals xs.reverse us.reverse := by
  induction r with
  | nil => exact .nil
  | cons h t ih => rw [List.reverse_cons, List.reverse_cons]; exact ih.append (.cons h .nil)
def tRevS (K : PySem.W.Frag) (te : TE) (ts : TO) : TE := fun σ H Q => te σ H fun x H1 => ts σ H1 fun o H2 => o = some (-1) ∧ ((∃ a xs, x = .ref a ∧ SqT K H2 a xs ∧ ∀ p o, H2 p = none → o.dict = none → Q (.ref p) (upd H2 p (.frz o (.tup xs.reverse)))) ∨
  ∃ a xs, x = .ref a ∧ SqL K H2 a xs ∧ ∀ p, H2 p = none → Q (.ref p) (upd H2 p (.lst xs.reverse)))
theorem pe_revS {e : Expr} {st : Expr} {te : TE} {ts : TO} {p2 pos : Pos} (he : PE X e te) (hs : PO X (some st) ts) : PE X (.Subscript e (.Slice none none (some st) p2) pos) (tRevS X.K te ts) := by
  refine ⟨fun pins s σ H Q I h => ?_⟩
  refine Subscript_ (thn (he.run pins s σ H _ I h) fun v s1 ⟨x, H1, I1, r1, q1⟩ => ?_)
  refine wpAny_Slice ?_
  rw [evalPart_none]
  refine wpAny_pure (wpAny_pure ?_)
  refine thn (hs.run pins s1 σ H1 _ I1 q1) fun vk s3 ⟨o, H3, I3, pk, eo, q3⟩ => ?_
  subst eo
  have I4 : Inv X pins σ H3 { s3 with heap := s3.heap.push { cls := .type "slice", data := .fields #[.none, .none, vk] } } := I3.kept (t' := s3.toks) fun b ob q => Heap.get?_push_of_some _ q
  show wpAny (model X.prog X.w) X.A (subscriptTail e (.Slice none none (some st) p2) v (.ref s3.heap.objs.size)) (EP X pins σ Q) X.xe { s3 with heap := s3.heap.push { cls := .type "slice", data := .fields #[.none, .none, vk] } }
  have hsl := Heap.IsSliceOf.new s3.heap .none .none vk
  rcases q3 with ⟨a, xs, rfl, hx, q⟩ | ⟨a, xs, rfl, hx, q⟩
  · cases r1
    obtain ⟨its, r, ht, hz⟩ := I4.tuple hx
    refine tail_any (ops := [.ref a, .ref s3.heap.objs.size]) ht.typeIs PyProof.Rows.slot_tuple_getitem.lookup (getItem_tuple_rev ht hsl pk ?_ (by have := r.length; simp; omega)) (by with_unfolding_all rfl)
    exact ⟨.ref _, _, Inv.ftup I4 (Vals.rev r) (by rw [List.length_reverse]; exact hz), rfl, q _ _ (I4.hok.fresh (Nat.le_refl _)) rfl⟩
  · cases r1
    obtain ⟨its, r, pl, hz⟩ := I4.list hx
    refine tail_any (ops := [.ref a, .ref s3.heap.objs.size]) pl.isList.typeIs list_getitem_lookup (wpAny_getItem_list_slice pl.isList hsl .none .none pk (by decide) ?_ (by have := r.length; simp; omega)) (by with_unfolding_all rfl)
    rw [PySem.W.krv_pick]
    exact ⟨.ref _, _, I4.laid (t' := s3.toks) (o := .lst xs.reverse) (fun b u e => Heap.get?_push_of_some _ e) (Nat.le_refl _) ⟨by rw [List.length_reverse]; exact hz, its.reverse, 0, Vals.rev r, Heap.get?_push_size _ rfl⟩, rfl, q _ (I4.hok.fresh (Nat.le_refl _))⟩
end
section
variable {X : Cx}
def rRepF (K : PySem.W.Frag) : R2 := fun x y H Q => ∃ l k xs, x = .ref l ∧ y = .int k ∧ SqT K H l xs ∧ xs ≠ [] ∧ 2 ≤ k ∧ k ≤ 1000 ∧ xs.length ≤ 1000 ∧ ∀ p o, H p = none → o.dict = none → Q (.ref p) (upd H p (.frz o (.tup (List.replicate k.toNat xs).flatten)))
theorem op_repF : OpR X (binaryOp .Mult) (rRepF X.K) := by
  intro pins s σ H x y v u Q I rx ry h
  obtain ⟨l, k, xs, rfl, rfl, hT, hne, h1, h2, hz, q⟩ := h
  cases rx
  obtain ⟨t, rfl⟩ := ry
  obtain ⟨its, r, ⟨⟨cls, dd, data, sl⟩, ho, hc, n, hd⟩, hs⟩ := I.tuple hT
  simp only at hc hd
  subst hc hd
  have hle : its.length = xs.length := r.length.symm
  have hn : its ≠ [] := fun e => hne (by
    rw [e] at hle
    exact List.eq_nil_of_length_eq_zero hle.symm)
  have hi : its.toArray.isEmpty = false := by
    cases its with
    | nil => exact absurd rfl hn
    | cons a b => rfl
  have hsz0 : its.toArray.size = xs.length := by rw [List.size_toArray, hle]
  have hm : ((its.toArray.size : Nat) : Int) * k ≤ 1000000 := by
    rw [hsz0]
    have a1 : ((xs.length : Nat) : Int) * k ≤ 1000 * k := Int.mul_le_mul_of_nonneg_right (by omega) (by omega)
    omega
  have fl : (List.replicate k.toNat xs).flatten.length ≤ sizeLine := by
    rw [PyProof.Rows.lm_len_rep_flat, sizeLine_eq]
    have a1 : k.toNat * xs.length ≤ 1000 * 1000 := Nat.mul_le_mul (by omega) hz
    omega
  have flen : (List.replicate k.toNat its).flatten.length ≤ sizeLine := by
    rw [PyProof.Rows.lm_len_rep_flat, hle, sizeLine_eq]
    have a1 : k.toNat * xs.length ≤ 1000 * 1000 := Nat.mul_le_mul (by omega) hz
    omega
  have c0 : (decide (k < -(2 ^ 63)) || decide (k ≥ 2 ^ 63)) = false := by
    rw [decide_eq_false (by omega), decide_eq_false (by omega)] <;> rfl
  have c1 : (its.toArray.isEmpty || k == 1) = false := by
    rw [hi, Bool.false_or]
    exact beq_eq_false_iff_ne.mpr (by omega)
  have c2 : (decide (k ≤ 0) || its.toArray.isEmpty) = false := by
    rw [hi, Bool.or_false]
    exact decide_eq_false (by omega)
  have c4 : Builtin.Tuple.tupleTooMany (((its.toArray.size : Nat) : Int) * k) = false := by
    unfold Builtin.Tuple.tupleTooMany
    rw [sizeLine_eq]
    exact decide_eq_false (by omega)
  refine wpAny_binaryOp_repeat_ref (T := "tuple") (U := "int") (by decide) ⟨_, ho, rfl⟩ (fun s' => typeIs_int s' k t) noFill_tuple_mul F.fills_int_mul F.slot_int_rmul repeat_tuple F.slot_int_index.lookup
    (call_meets F.slot_int_rmul (typeIs_int s k t) F.entry_int_rmul (F.args_int_rmul_2 _ _) (int_rmul_tuple k t l its.toArray n dd sl)
      ⟨ho, rfl, ⟨_, ho, rfl⟩, call_meets F.slot_tuple_mul ⟨_, ho, rfl⟩ F.entry_tuple_mul (F.args_tuple_mul_2 _ _) (tuple_mulW l its.toArray n dd sl k t c0 c1 c2 (by omega) c4 (by rw [size_rep, List.size_toArray]; exact flen)) ⟨ho, ?_⟩⟩)
  rw [size_rep]
  exact ⟨.ref s.heap.objs.size, _, Inv.ftup I (r.rep k.toNat) fl, rfl, q _ _ (I.hok.fresh (Nat.le_refl _)) rfl⟩
def rTupF (K : PySem.W.Frag) : List V → Hp → VK → Prop := fun xs H Q => ∃ p ys, xs = [.ref p] ∧ ((SqL K H p ys ∧ ∀ l o, H l = none → o.dict = none → Q (.ref l) (upd H l (.frz o (.tup ys)))) ∨ (SqT K H p ys ∧ Q (.ref p) H))
theorem call_tupleF : CallR X (.type "tuple") (rTupF X.K) := by
  intro pins s σ H xs us Q I r h
  obtain ⟨p, ys, rfl, h⟩ := h
  obtain ⟨u, rfl, rx⟩ := vals1 r
  cases rx
  rcases h with ⟨hq, q⟩ | ⟨hq, q⟩
  · obtain ⟨its, r', pl, hz⟩ := I.list hq
    have hlen := r'.length
    refine call_tuple_list pl.isList (fun h' kp => ?_) (by simp only [List.size_toArray] <;> omega)
    have I1 : Inv X pins σ H { s with heap := h' } := I.kept (t' := s.toks) kp
    exact ⟨.ref h'.objs.size, _, Inv.ftup I1 r' hz, rfl, q _ _ (I1.hok.fresh (Nat.le_refl _)) rfl⟩
  · obtain ⟨its, r', pl, hz⟩ := I.tuple hq
    exact call_tuple_same pl ⟨.ref p, H, I, rfl, q⟩
end
def CMulB (i j : Int) : Prop := i.natAbs < 2 ^ 64 ∨ j.natAbs < 2 ^ 64 ∨ i.natAbs.log2 + j.natAbs.log2 < 100000000
theorem CMulB.ok {i j : Int} (h : CMulB i j) : IntMulOk i j := by
  have b : ∀ x : Int, Builtin.Int.intBits x ≤ x.natAbs.log2 + 1 := fun x => by
    unfold Builtin.Int.intBits
    split <;> omega
  have h1 := b i
  have h2 := b j
  rcases h with h | h | h3
  · exact .of_left (by have := intBits_le h; omega)
  · exact .of_right (by have := intBits_le h; omega)
  have e : bitsLine = 134217728 := by decide
  unfold IntMulOk
  intro z
  rw [Bool.and_eq_true] at z
  have z2 := z.2
  unfold Builtin.Int.intTooBig at z2
  have z3 := of_decide_eq_true z2
  rw [e] at z3
  omega
def CPowB (i j : Int) : Prop := 0 ≤ j ∧ (i.natAbs.log2 + 1) * j.toNat ≤ 2 ^ 27
theorem CPowB.ok {i j : Int} (h : CPowB i j) : (Builtin.Int.intBits i : Int) * j ≤ 2 ^ 27 := by
  obtain ⟨h0, h⟩ := h
  have b : Builtin.Int.intBits i ≤ i.natAbs.log2 + 1 := by
    unfold Builtin.Int.intBits
    split <;> omega
  obtain ⟨n, rfl⟩ := Int.eq_ofNat_of_zero_le h0
  have h2 : (i.natAbs.log2 + 1) * n ≤ 2 ^ 27 := h
  have h3 : Builtin.Int.intBits i * n ≤ 2 ^ 27 := Nat.le_trans (Nat.mul_le_mul_right n b) h2
  exact_mod_cast h3
def CDivB (_ j : Int) : Prop := j ≠ 0 ∧ j.natAbs.log2 < 9000
section
variable {X : Cx}
theorem op_mulB : OpR X (binaryOp .Mult) (rI CMulB fun i j => .int (i * j)) := opI fun _ _ _ _ _ _ _ hc q => mul_int q hc.ok
theorem op_powB : OpR X (binaryOp .Pow) (rI CPowB fun i j => .int (i ^ j.toNat)) := opI fun _ _ _ _ _ _ _ hc q => pow_int hc.1 hc.ok q
theorem op_fdivB : OpR X (binaryOp .FloorDiv) (rI CDivB fun i j => .int (i.fdiv j)) := opI fun _ _ _ _ _ _ _ hc q => floordiv_int hc.1 q (.inl (PyProof.noPylong_of_log2 hc.2))
end
def Rdb (K : PySem.W.Frag) (G H : Hp) (v : V) (d : D) : Prop := Dat K G v d ∨ ∃ p o, v = .ref p ∧ G p = none ∧ ObAt K G H p o ∧ d = o.toD
def RvIs (K : PySem.W.Frag) (G R : Hp) (ρ : En) (σ : L2.St) (H : Hp) : Rv → V → Prop
  | .dat d, v => Dat K G v d
  | .new o, v => ∃ p, v = .ref p ∧ G p = none ∧ R p = none ∧ Nown ρ σ p ∧ ObAt K G H p o
  | .ref i, v => σ[i]? = some (some v) ∧ ∃ f o, ρ[i]? = some (.own f o)
def Res (K : PySem.W.Frag) (M : Mk) (R G : Hp) (ρ : En) (σ : L2.St) (a : Rv) (Q : VK) : Prop :=
  ∀ G' H' v, Same G G' → Rel K M R G' ρ σ H' → RvIs K G' R ρ σ H' a v → Q v H'
section
variable {K : PySem.W.Frag} {M : Mk} {R G G' H H' : Hp} {ρ : En} {σ : L2.St} {v x y : V} {d dx dy : D} {Q : VK} {a : Rv}
theorem Res.mono (h : Res K M R G ρ σ a Q) (e : Same G G') : Res K M R G' ρ σ a Q := fun G1 H1 v1 e1 => h G1 H1 v1 (e.trans e1)
theorem Res.now (h : Res K M R G ρ σ a Q) (r : Rel K M R G ρ σ H) (q : RvIs K G R ρ σ H a v) : Q v H := h G H v (Same.refl _) r q
theorem Res.mk {p : Addr} {u : HO} (h : Res K M R G ρ σ (.dat d) Q) (r : Rel K M R G ρ σ H) (hp : H p = none) (q : Dat K (upd G p u) (.ref p) d) : Q (.ref p) (upd H p u) :=
  h _ _ _ (same_new (none_of r.fz hp)) (r.alloc hp) q
theorem Res.mkL {p : Addr} {vs : List V} {xs : List D} (h : Res K M R G ρ σ (.new (.lst xs)) Q) (r : Rel K M R G ρ σ H) (hp : H p = none) (q : Dats K G vs xs) : Q (.ref p) (upd H p (.lst vs)) :=
  h _ _ _ (Same.refl _) (r.make hp) ⟨p, rfl, none_of r.fz hp, none_of r.rs hp, r.nown_free hp, vs, upd_same, q⟩
theorem Rdb.of (h : Dat K G v d) : Rdb K G H v d := .inl h
theorem Rdb.int {i : Int} (h : Rdb K G H v (.int i)) : v = .int i := by
  rcases h with h | ⟨p, o, _, _, _, h⟩
  · cases h; rfl
  · cases o <;> cases h
theorem Rdb.bl {b : Bool} (h : Rdb K G H v (.bool b)) : v = .bl b := by
  rcases h with h | ⟨p, o, _, _, _, h⟩
  · cases h; rfl
  · cases o <;> cases h
theorem Rdb.str {z : Str} (h : Rdb K G H v (.str z)) : v = .str z := by
  rcases h with h | ⟨p, o, _, _, _, h⟩
  · cases h; rfl
  · cases o <;> cases h
theorem Rdb.non (h : Rdb K G H v .none) : v = .non := by
  rcases h with h | ⟨p, o, _, _, _, h⟩
  · cases h; rfl
  · cases o <;> cases h
theorem Rdb.lst {xs : List D} (e : Same G H) (h : Rdb K G H v (.list xs)) : ∃ p vs, v = .ref p ∧ SqL K H p vs ∧ Dats K G vs xs := by
  rcases h with h | ⟨p, o, rfl, _, h4, h⟩
  · cases h with
    | lst h t => exact ⟨_, _, rfl, sqL_mono e h, t⟩
  · cases o with
    | lst ys =>
      cases h
      obtain ⟨vs, h1, t⟩ := h4
      exact ⟨_, _, rfl, .inl (.inl h1), t⟩
    | dic _ => cases h
theorem Rdb.tup {xs : List D} (e : Same G H) (h : Rdb K G H v (.tuple xs)) : ∃ p vs, v = .ref p ∧ SqT K H p vs ∧ Dats K G vs xs ∧ Dat K G v (.tuple xs) := by
  rcases h with h | ⟨p, o, rfl, _, h4, h⟩
  · have h0 := h
    cases h with
    | tup h t => exact ⟨_, _, rfl, (h.mono e).sq, t, h0⟩
  · cases o <;> cases h
theorem Rdb.dp (e : Same G H) (h : Rdb K G H v d) (n : noDic d = true) : Dp K H v d := by
  rcases h with h | ⟨p, o, rfl, _, h4, rfl⟩
  · exact (h.mono e).dp n
  · cases o with
    | lst ys =>
      obtain ⟨vs, h1, t⟩ := h4
      exact .lst (.inl (.inl h1)) ((t.mono e).dp (by simpa [Ob.toD, noDic] using n))
    | dic _ => simp [Ob.toD, noDic] at n
theorem Rdb.dic {kvs : List (D × D)} (e : Same G H) (h : Rdb K G H v (.dict kvs)) : ∃ p ys, v = .ref p ∧ H p = some (DictNO p ys) ∧ DatKs K G ys kvs := by
  rcases h with h | ⟨p, o, rfl, _, h4, h⟩
  · cases h with
    | dic h1 t => exact ⟨_, _, rfl, e _ _ h1, t⟩
  · cases o with
    | lst _ => cases h
    | dic _ =>
      cases h
      obtain ⟨ys, h1, t⟩ := h4
      exact ⟨_, ys, rfl, h1, t⟩
theorem noDics_of : ∀ {ds : List D}, (∀ d ∈ ds, okD d = true) → noDics ds = true
  | [], _ => rfl
  | d :: ds, h => by rw [noDics, okD_nd (h d (List.mem_cons_self ..)), noDics_of fun x hx => h x (List.mem_cons_of_mem _ hx)]; rfl
theorem Rdb.ref {p : Addr} {o : Ob} (h1 : G p = none) (h : ObAt K G H p o) : Rdb K G H (.ref p) o.toD := .inr ⟨p, o, rfl, h1, h, rfl⟩
def rBin (K : PySem.W.Frag) : Bop → R2
  | .add => fun x y H Q => rI0 (fun i j => .int (i + j)) x y H Q ∨ rCatF K x y H Q ∨ rCatR K x y H Q
  | .sub => rI0 fun i j => .int (i - j)
  | .mul => fun x y H Q => rI CMulB (fun i j => .int (i * j)) x y H Q ∨ rRepR K x y H Q ∨ rRepF K x y H Q ∨ rRepS K x y H Q
  | .fdiv => rI CDivB fun i j => .int (i.fdiv j)
  | .mod => rI (fun _ j => j ≠ 0) fun i j => .int (i.fmod j)
  | .pow => rI CPowB fun i j => .int (i ^ j.toNat)
def Bop.op : Bop → Operator
  | .add => .Add
  | .sub => .Sub
  | .mul => .Mult
  | .fdiv => .FloorDiv
  | .mod => .Mod
  | .pow => .Pow
theorem op_bin {X : Cx} : ∀ b : Bop, OpR X (binaryOp b.op) (rBin X.K b)
  | .add => op_add.or (op_catF.or op_catR)
  | .sub => op_sub
  | .mul => op_mulB.or (op_repR.or (op_repF.or op_repS))
  | .fdiv => op_fdivB
  | .mod => op_modN
  | .pow => op_powB
theorem sz_of {n : Nat} (h : lenOk n = true) : n ≤ sizeLine := by
  have h : n ≤ 1000000 := of_decide_eq_true h
  rw [sizeLine_eq]; omega
theorem bin_ok {b : Bop} (hb : binD b dx dy = some a) (r : Rel K M R G ρ σ H) (hx : Rdb K G H x dx) (hy : Rdb K G H y dy) (h : Res K M R G ρ σ a Q) : rBin K b x y H Q := by
  unfold binD at hb
  split at hb
  · cases hb; cases hx.int; cases hy.int
    exact .inl ⟨_, _, rfl, rfl, h.now r (.int _)⟩
  · cases hb; cases hx.int; cases hy.int
    exact ⟨_, _, rfl, rfl, h.now r (.int _)⟩
  · split at hb
    · rename_i c
      cases hb; cases hx.int; cases hy.int
      exact .inl ⟨_, _, rfl, rfl, (by unfold CMulB; exact of_decide_eq_true c), h.now r (.int _)⟩
    · cases hb
  · split at hb
    · rename_i c
      cases hb; cases hx.int; cases hy.int
      have c' : _ ∧ _ := Bool.and_eq_true_iff.mp c
      exact ⟨_, _, rfl, rfl, ⟨of_decide_eq_true c'.1, of_decide_eq_true c'.2⟩, h.now r (.int _)⟩
    · cases hb
  · split at hb
    · rename_i c
      cases hb; cases hx.int; cases hy.int
      exact ⟨_, _, rfl, rfl, of_decide_eq_true c, h.now r (.int _)⟩
    · cases hb
  · split at hb
    · rename_i c
      cases hb; cases hx.int; cases hy.int
      have c' := Bool.and_eq_true_iff.mp c
      exact ⟨_, _, rfl, rfl, ⟨of_decide_eq_true c'.1, of_decide_eq_true c'.2⟩, h.now r (.int _)⟩
    · cases hb
  · split at hb
    · rename_i xs ys c
      cases hb
      obtain ⟨p, vs, rfl, h1, t1, d1⟩ := hx.tup r.fz
      obtain ⟨q, ws, rfl, h2, t2, d2⟩ := hy.tup r.fz
      refine .inr (.inl ⟨p, q, vs, ws, rfl, rfl, h1, h2, ?_, fun e => ?_, fun _ e => ?_, fun _ _ p o hp ho => ?_⟩)
      · rw [t1.length, t2.length]; exact sz_of c
      · subst e; cases t1; exact h.now r d2
      · subst e; cases t2
        rw [List.append_nil] at h
        exact h.now r d1
      · exact h.mk r hp (.tup (.new ho) ((t1.append t2).mono (same_new (none_of r.fz hp))))
    · cases hb
  · split at hb
    · rename_i xs ys c
      cases hb
      obtain ⟨p, vs, rfl, h1, t1⟩ := hx.lst r.fz
      obtain ⟨q, ws, rfl, h2, t2⟩ := hy.lst r.fz
      refine .inr (.inr ⟨p, q, vs, ws, rfl, rfl, h1, h2, ?_, fun p hp => ?_⟩)
      · rw [t1.length, t2.length]; exact sz_of c
      · exact h.mkL r hp (t1.append t2)
    · cases hb
  · split at hb
    · rename_i xs k c
      cases hb; cases hy.int
      obtain ⟨p, vs, rfl, h1, t1⟩ := hx.lst r.fz
      have c' : (_ ∧ _) ∧ _ := (Bool.and_eq_true_iff.mp c).imp Bool.and_eq_true_iff.mp id
      have c1 := of_decide_eq_true c'.1.1
      have c2 := of_decide_eq_true c'.1.2
      have c3 := sz_of c'.2
      refine .inr (.inl ⟨p, k, vs, rfl, rfl, h1, by omega, by omega, ?_, fun p hp => ?_⟩)
      · rw [t1.length]
        exact Nat.le_trans (Nat.mul_le_mul (Nat.le_refl _) (by omega)) c3
      · exact h.mkL r hp (t1.rep _)
    · cases hb
  · split at hb
    · rename_i xs k c
      cases hb; cases hy.int
      obtain ⟨p, vs, rfl, h1, t1, d1⟩ := hx.tup r.fz
      have c' : (_ ∧ _) ∧ _ := (Bool.and_eq_true_iff.mp c).imp Bool.and_eq_true_iff.mp id
      have c1 := of_decide_eq_true c'.1.1
      have c2 := of_decide_eq_true c'.1.2
      have c3 := of_decide_eq_true c'.2
      by_cases e : vs = [] ∨ k = 1
      · refine .inr (.inr (.inr ⟨p, k, vs, rfl, rfl, h1, e, by omega, c2, ?_⟩))
        have e2 : (List.replicate k.toNat xs).flatten = xs := by
          rcases e with e | e
          · subst e; cases t1; simp
          · subst e; simp
        rw [e2] at h
        exact h.now r d1
      · refine .inr (.inr (.inl ⟨p, k, vs, rfl, rfl, h1, fun z => e (.inl z), ?_, c2, by rw [t1.length]; exact c3, fun p o hp ho => ?_⟩))
        · have : k ≠ 1 := fun z => e (.inr z)
          omega
        · exact h.mk r hp (.tup (.new ho) ((t1.rep _).mono (same_new (none_of r.fz hp))))
    · cases hb
  · cases hb
end
def pairLt (xs ys : List D) (j : Nat) : Bool := match xs[j]?, ys[j]? with
  | some x, some y => ltB x y
  | _, _ => false
theorem lexAt_shift {e r : Nat → Bool} {z : Bool} : ∀ (k i : Nat), Ob.lexAt e r z (i + 1) k = Ob.lexAt (fun j => e (j + 1)) (fun j => r (j + 1)) z i k
  | 0, _ => rfl
  | k + 1, i => by rw [Ob.lexAt_succ, Ob.lexAt_succ, lexAt_shift k (i + 1)]
theorem lexAt_ltBs : ∀ xs ys : List D, Ob.lexAt (SeqAt.pairEq xs ys) (pairLt xs ys) (decide (xs.length < ys.length)) 0 (min xs.length ys.length) = ltBs xs ys
  | [], [] => rfl
  | [], _ :: _ => by simp [Ob.lexAt, ltBs]
  | _ :: _, [] => by simp [Ob.lexAt, ltBs]
  | x :: xs, y :: ys => by
    have h := lexAt_ltBs xs ys
    have e : min (x :: xs).length (y :: ys).length = min xs.length ys.length + 1 := by simp only [List.length_cons]; omega
    rw [e, Ob.lexAt_succ, lexAt_shift]
    have e1 : SeqAt.pairEq (x :: xs) (y :: ys) 0 = PyData.eqv x y := rfl
    have e2 : (fun j => SeqAt.pairEq (x :: xs) (y :: ys) (j + 1)) = SeqAt.pairEq xs ys := rfl
    have e3 : (fun j => pairLt (x :: xs) (y :: ys) (j + 1)) = pairLt xs ys := by funext j; simp [pairLt]
    have e4 : pairLt (x :: xs) (y :: ys) 0 = ltB x y := rfl
    have e5 : decide ((x :: xs).length < (y :: ys).length) = decide (xs.length < ys.length) := by simp
    rw [e1, e2, e3, e4, e5, h, ltBs]
mutual
theorem rc_lt : ∀ (d e : D) (A : Around) (s : Shared) (u v : Value) (as bs : List Addr), cmpb d e = true → Reads s.heap u d as → Reads s.heap v e bs → d.canLay0 = true → e.canLay0 = true → A.units + d.depth + 1 < cLine → Ob.RcOp .Lt A s u v (ltB d e)
  | .int i, .int j, A, s, _, _, _, _, _, ra, rb, _, _, _ => by
    cases ra; cases rb
    exact Ob.RcOp.lt_int _ _ _ _
  | .str i, .str j, A, s, _, _, _, _, _, ra, rb, _, _, _ => by
    cases ra; cases rb
    exact fun _ _ _ _ h => lt_str h
  | .tuple xs, .tuple ys, A, s, _, _, _, _, hc, ra, rb, ha, hb, hu => by
    cases ra with
    | tuple ho hcl hd hr =>
      rename_i a o vs n
      cases rb with
      | tuple ho2 hcl2 hd2 hr2 =>
        rename_i b o2 vs2 n2
        have ha' : PyData.canLayAll0 xs = true := by simpa [PyData.canLay0] using ha
        have hb' : PyData.canLayAll0 ys = true := by simpa [PyData.canLay0] using hb
        have hdp : A.units + 1 + PyData.depthAll xs + 1 < cLine := by
          have : PyData.depth (.tuple xs) = PyData.depthAll xs + 1 := by simp [PyData.depth]
          omega
        have l1 : vs.size = xs.length := by have := SeqAt.ReadsAll.length _ _ _ hr; simpa using this
        have l2 : vs2.size = ys.length := by have := SeqAt.ReadsAll.length _ _ _ hr2; simpa using this
        have hin : A.in1.units = A.units + 1 := rfl
        have z := Ob.RcOp.tuples_lt (A := A) (s := s) (e := SeqAt.pairEq xs ys) (r := pairLt xs ys) ⟨o, ho, hcl, n, hd⟩ ⟨o2, ho2, hcl2, n2, hd2⟩ (by omega)
          (fun j h1 h2 => SeqAt.eqAt_readsAll xs ys A.in1 s vs.toList vs2.toList _ _ hr hr2 ha' hb' (by rw [hin]; omega) j (by simpa using h1) (by simpa using h2))
          (fun j h1 h2 he => rcs_lt xs ys A.in1 s vs.toList vs2.toList _ _ (by simpa [cmpb] using hc) hr hr2 ha' hb' (by rw [hin]; omega) j (by simpa using h1) (by simpa using h2) he)
        rw [l1, l2, lexAt_ltBs] at z
        simpa [ltB] using z
  | .none, _, _, _, _, _, _, _, h, _, _, _, _, _ => by simp [cmpb] at h
  | .bool _, _, _, _, _, _, _, _, h, _, _, _, _, _ => by simp [cmpb] at h
  | .list _, _, _, _, _, _, _, _, h, _, _, _, _, _ => by simp [cmpb] at h
  | .dict _, _, _, _, _, _, _, _, h, _, _, _, _, _ => by simp [cmpb] at h
  | .int _, .none, _, _, _, _, _, _, h, _, _, _, _, _ => by simp [cmpb] at h
  | .int _, .bool _, _, _, _, _, _, _, h, _, _, _, _, _ => by simp [cmpb] at h
  | .int _, .str _, _, _, _, _, _, _, h, _, _, _, _, _ => by simp [cmpb] at h
  | .int _, .list _, _, _, _, _, _, _, h, _, _, _, _, _ => by simp [cmpb] at h
  | .int _, .tuple _, _, _, _, _, _, _, h, _, _, _, _, _ => by simp [cmpb] at h
  | .int _, .dict _, _, _, _, _, _, _, h, _, _, _, _, _ => by simp [cmpb] at h
  | .str _, .none, _, _, _, _, _, _, h, _, _, _, _, _ => by simp [cmpb] at h
  | .str _, .bool _, _, _, _, _, _, _, h, _, _, _, _, _ => by simp [cmpb] at h
  | .str _, .int _, _, _, _, _, _, _, h, _, _, _, _, _ => by simp [cmpb] at h
  | .str _, .list _, _, _, _, _, _, _, h, _, _, _, _, _ => by simp [cmpb] at h
  | .str _, .tuple _, _, _, _, _, _, _, h, _, _, _, _, _ => by simp [cmpb] at h
  | .str _, .dict _, _, _, _, _, _, _, h, _, _, _, _, _ => by simp [cmpb] at h
  | .tuple _, .none, _, _, _, _, _, _, h, _, _, _, _, _ => by simp [cmpb] at h
  | .tuple _, .bool _, _, _, _, _, _, _, h, _, _, _, _, _ => by simp [cmpb] at h
  | .tuple _, .int _, _, _, _, _, _, _, h, _, _, _, _, _ => by simp [cmpb] at h
  | .tuple _, .str _, _, _, _, _, _, _, h, _, _, _, _, _ => by simp [cmpb] at h
  | .tuple _, .list _, _, _, _, _, _, _, h, _, _, _, _, _ => by simp [cmpb] at h
  | .tuple _, .dict _, _, _, _, _, _, _, h, _, _, _, _, _ => by simp [cmpb] at h
theorem rcs_lt : ∀ (xs ys : List D) (A : Around) (s : Shared) (vs ws : List Value) (as bs : List Addr), cmpbs xs ys = true → ReadsAll s.heap vs xs as → ReadsAll s.heap ws ys bs → PyData.canLayAll0 xs = true → PyData.canLayAll0 ys = true →
    A.units + PyData.depthAll xs + 1 < cLine → ∀ j (h1 : j < vs.length) (h2 : j < ws.length), SeqAt.pairEq xs ys j = false → Ob.RcOp .Lt A s vs[j] ws[j] (pairLt xs ys j)
  | [], _, _, _, _, _, _, _, _, ra, _, _, _, _, j, h1, _, _ => by cases ra; exact absurd h1 (Nat.not_lt_zero _)
  | _ :: _, [], _, _, _, _, _, _, _, _, rb, _, _, _, j, _, h2, _ => by cases rb; exact absurd h2 (Nat.not_lt_zero _)
  | x :: xs, y :: ys, A, s, _, _, _, _, hc, ra, rb, ha, hb, hu, j, h1, h2, he => by
    have ha' : x.canLay0 = true ∧ PyData.canLayAll0 xs = true := by simpa [PyData.canLayAll0] using ha
    have hb' : y.canLay0 = true ∧ PyData.canLayAll0 ys = true := by simpa [PyData.canLayAll0] using hb
    have hc' : (PyData.eqv x y = true ∨ cmpb x y = true) ∧ cmpbs xs ys = true := by simpa [cmpbs] using hc
    have hd : x.depth ≤ PyData.depthAll (x :: xs) ∧ PyData.depthAll xs ≤ PyData.depthAll (x :: xs) := by
      simp only [PyData.depthAll]; omega
    cases ra with
    | cons r1 r2 =>
      cases rb with
      | cons q1 q2 =>
        cases j with
        | zero =>
          have he' : PyData.eqv x y = false := he
          have hcm : cmpb x y = true := by
            rcases hc'.1 with z | z
            · rw [he'] at z; cases z
            · exact z
          exact rc_lt x y A s _ _ _ _ hcm r1 q1 ha'.1 hb'.1 (by omega)
        | succ j =>
          have z := rcs_lt xs ys A s _ _ _ _ hc'.2 r2 q2 ha'.2 hb'.2 (by omega) j (by simpa using h1) (by simpa using h2) he
          have e3 : pairLt (x :: xs) (y :: ys) (j + 1) = pairLt xs ys j := by simp [pairLt]
          rw [e3]
          simpa using z
end
def rLtD (K : PySem.W.Frag) : R2 := fun x y H Q => ∃ d e, Dp K H x d ∧ Dp K H y e ∧ SeqAt.shaped d = true ∧ SeqAt.shaped e = true ∧ cmpb d e = true ∧ Q (.bl (ltB d e)) H
theorem op_ltD {X : Cx} (hu : X.A.units + 70 < cLine) : OpR X (compareOp .Lt) (rLtD X.K) := by
  intro pins s σ H x y v u Q I rx ry h
  obtain ⟨d, e, hd, he, sd, se, hc, q⟩ := h
  obtain ⟨as, r1⟩ := Dp.reads I d x v hd rx
  obtain ⟨bs, r2⟩ := Dp.reads I e y u he ry
  have h1 := SeqAt.depth_of_shaped sd
  have z : wpAny (model X.prog X.w) X.A (compareOp .Lt v u) (EP X pins σ Q) X.xe s := rc_lt d e X.A s v u as bs hc r1 r2 (SeqAt.canLay_of_shaped sd) (SeqAt.canLay_of_shaped se) (by omega) X.prog X.w X.xe _ ⟨.bl _, H, I, rfl, q⟩
  exact z
def rInT (K : PySem.W.Frag) : R2 := fun x y H Q => ∃ d ds, Dp K H x d ∧ Dp K H y (.tuple ds) ∧ SeqAt.shaped d = true ∧ SeqAt.shaped (.tuple ds) = true ∧ Q (.bl (ds.any fun z => PyData.eqv z d)) H
def rNotInT (K : PySem.W.Frag) : R2 := fun x y H Q => ∃ d ds, Dp K H x d ∧ Dp K H y (.tuple ds) ∧ SeqAt.shaped d = true ∧ SeqAt.shaped (.tuple ds) = true ∧ Q (.bl (!ds.any fun z => PyData.eqv z d)) H
theorem op_inT {X : Cx} (hu : X.A.units + 65 < cLine) : OpR X (compareOp .In) (rInT X.K) := by
  intro pins s σ H x y v u Q I rx ry h
  obtain ⟨d, ds, hd, he, sd, se, q⟩ := h
  obtain ⟨as, r1⟩ := Dp.reads I d x v hd rx
  obtain ⟨bs, r2⟩ := Dp.reads I (.tuple ds) y u he ry
  exact SeqAt.in_tuple_reads r2 r1 (SeqAt.canLay_of_shaped se) (SeqAt.canLay_of_shaped sd) (room_in_shaped sd hu) ⟨.bl _, H, I, rfl, q⟩
theorem op_notInT {X : Cx} (hu : X.A.units + 65 < cLine) : OpR X (compareOp .NotIn) (rNotInT X.K) := by
  intro pins s σ H x y v u Q I rx ry h
  obtain ⟨d, ds, hd, he, sd, se, q⟩ := h
  obtain ⟨as, r1⟩ := Dp.reads I d x v hd rx
  obtain ⟨bs, r2⟩ := Dp.reads I (.tuple ds) y u he ry
  exact SeqAt.notIn_tuple_reads r2 r1 (SeqAt.canLay_of_shaped se) (SeqAt.canLay_of_shaped sd) (room_in_shaped sd hu) ⟨.bl _, H, I, rfl, q⟩
def rCmp (K : PySem.W.Frag) : Cop → R2
  | .eq => rEqD K
  | .ne => rNeD K
  | .lt => fun x y H Q => rI0 (fun i j => .bl (decide (i < j))) x y H Q ∨ rLtD K x y H Q
  | .le => rI0 fun i j => .bl (decide (i ≤ j))
  | .gt => rI0 fun i j => .bl (decide (j < i))
  | .ge => rI0 fun i j => .bl (decide (j ≤ i))
  | .is => fun x y H Q => y = .non ∧ Q (.bl (decide (x = .non))) H
  | .isn => fun x y H Q => y = .non ∧ Q (.bl (!decide (x = .non))) H
  | .isin => fun x y H Q => rInD K x y H Q ∨ rInT K x y H Q
  | .nin => fun x y H Q => rNotInD K x y H Q ∨ rNotInT K x y H Q
def Cop.op : Cop → CmpOp
  | .eq => .Eq
  | .ne => .NotEq
  | .lt => .Lt
  | .le => .LtE
  | .gt => .Gt
  | .ge => .GtE
  | .is => .Is
  | .isn => .IsNot
  | .isin => .In
  | .nin => .NotIn
theorem op_cmp {X : Cx} (hu : X.A.units + 70 < cLine) : ∀ c : Cop, OpR X (compareOp c.op) (rCmp X.K c)
  | .eq => op_eqD (by omega)
  | .ne => op_neD (by omega)
  | .lt => op_lt.or (op_ltD hu)
  | .le => op_le
  | .gt => op_gt
  | .ge => op_ge
  | .is => op_isN
  | .isn => op_notN
  | .isin => (op_inD (by omega)).or (op_inT (by omega))
  | .nin => (op_notInD (by omega)).or (op_notInT (by omega))
section
variable {K : PySem.W.Frag} {M : Mk} {R G G' H H' : Hp} {ρ : En} {σ : L2.St} {v x y : V} {d dx dy : D} {Q : VK} {a : Rv}
theorem Rdb.isNon (h : Rdb K G H v d) : decide (v = .non) = Vi.isNon d := by
  rcases h with h | ⟨p, o, rfl, _, _, rfl⟩
  · cases h <;> rfl
  · cases o <;> rfl
theorem ba2 {a b : Bool} (h : (a && b) = true) : a = true ∧ b = true := Bool.and_eq_true_iff.mp h
theorem cmp_ok {c : Cop} {k : Bool} (hb : cmpD c dx dy = some k) (e : Same G H) (hx : Rdb K G H x dx) (hy : Rdb K G H y dy) (h : Q (.bl k) H) : rCmp K c x y H Q := by
  unfold cmpD at hb
  split at hb
  · split at hb
    · rename_i c; cases hb
      exact ⟨_, _, hx.dp e (okD_nd (ba2 c).1), hy.dp e (okD_nd (ba2 c).2), okD_sh (ba2 c).1, okD_sh (ba2 c).2, h⟩
    · cases hb
  · split at hb
    · rename_i c; cases hb
      exact ⟨_, _, hx.dp e (okD_nd (ba2 c).1), hy.dp e (okD_nd (ba2 c).2), okD_sh (ba2 c).1, okD_sh (ba2 c).2, h⟩
    · cases hb
  · cases hb; cases hx.int; cases hy.int; exact .inl ⟨_, _, rfl, rfl, h⟩
  · cases hb; cases hx.int; cases hy.int; exact ⟨_, _, rfl, rfl, h⟩
  · cases hb; cases hx.int; cases hy.int; exact ⟨_, _, rfl, rfl, h⟩
  · cases hb; cases hx.int; cases hy.int; exact ⟨_, _, rfl, rfl, h⟩
  · split at hb
    · rename_i c; cases hb
      exact .inr ⟨_, _, hx.dp e (okD_nd (ba2 (ba2 c).1).1), hy.dp e (okD_nd (ba2 (ba2 c).1).2), okD_sh (ba2 (ba2 c).1).1, okD_sh (ba2 (ba2 c).1).2, by simpa [cmpb] using (ba2 c).2, by simpa [ltB] using h⟩
    · cases hb
  · cases hb; exact ⟨hy.non, by rw [hx.isNon]; exact h⟩
  · cases hb; exact ⟨hy.non, by rw [hx.isNon]; exact h⟩
  · split at hb
    · rename_i c; cases hb
      exact .inl ⟨_, _, hx.dp e (okD_nd (ba2 c).1), hy.dp e (okD_nd (ba2 c).2), okD_sh (ba2 c).1, okD_sh (ba2 c).2, h⟩
    · cases hb
  · split at hb
    · rename_i c; cases hb
      exact .inl ⟨_, _, hx.dp e (okD_nd (ba2 c).1), hy.dp e (okD_nd (ba2 c).2), okD_sh (ba2 c).1, okD_sh (ba2 c).2, h⟩
    · cases hb
  · split at hb
    · rename_i c; cases hb
      exact .inr ⟨_, _, hx.dp e (okD_nd (ba2 c).1), hy.dp e (okD_nd (ba2 c).2), okD_sh (ba2 c).1, okD_sh (ba2 c).2, h⟩
    · cases hb
  · split at hb
    · rename_i c; cases hb
      exact .inr ⟨_, _, hx.dp e (okD_nd (ba2 c).1), hy.dp e (okD_nd (ba2 c).2), okD_sh (ba2 c).1, okD_sh (ba2 c).2, h⟩
    · cases hb
  · cases hb
theorem atI_get2 {α β : Type} {xs : List α} {ys : List β} (hl : xs.length = ys.length) {i : Int} {y : β} (h : atI ys i = some y) : ∃ j, ixN ys.length i = some j ∧ ys[j]? = some y ∧ ∀ x, xs[j]? = some x → atI xs i = some x := by
  unfold atI at h ⊢
  rw [hl]
  cases e : ixN ys.length i with
  | none => rw [e] at h; cases h
  | some j =>
    rw [e] at h
    exact ⟨j, rfl, h, fun x hx => hx⟩
theorem idx_ok (hb : idxD dx dy = some d) (r : Rel K M R G ρ σ H) (hx : Rdb K G H x dx) (hy : Rdb K G H y dy) (h : Res K M R G ρ σ (.dat d) Q) : rIx K x y H Q := by
  unfold idxD at hb
  split at hb
  · cases hy.int
    obtain ⟨p, vs, rfl, h1, t1⟩ := hx.lst r.fz
    obtain ⟨j, _, hj, ha⟩ := atI_get2 t1.length hb
    obtain ⟨v, hv, hd⟩ := t1.get hj
    exact .inl ⟨p, vs, _, v, rfl, rfl, h1, ha v hv, h.now r hd⟩
  · cases hy.int
    obtain ⟨p, vs, rfl, h1, t1, _⟩ := hx.tup r.fz
    obtain ⟨j, _, hj, ha⟩ := atI_get2 t1.length hb
    obtain ⟨v, hv, hd⟩ := t1.get hj
    exact .inr (.inl ⟨p, vs, _, v, rfl, rfl, h1, ha v hv, h.now r hd⟩)
  · cases hb
def rSlc (K : PySem.W.Frag) : V → Option Int → Option Int → Hp → VK → Prop := fun x lo hi H Q => rSlL K x lo hi H Q ∨ rSlF K x lo hi H Q
theorem sl_slc {X : Cx} : SlR X (rSlc X.K) := sl_list.or sl_tupF
theorem Dats.cut {vs : List V} {xs : List D} (t : Dats K G vs xs) (lo hi : Option Int) : Dats K G (cutV vs lo hi) (cutD xs lo hi) := by
  unfold cutV cutD
  rw [t.length]
  exact (t.drop' _).take _
theorem cutD_whole {xs : List D} {lo hi : Option Int} (h : HT.sIx xs.length 0 lo = 0 ∧ HT.sIx xs.length xs.length hi = xs.length) : cutD xs lo hi = xs := by
  unfold cutD
  rw [h.1, h.2]
  simp
theorem slc_ok {lo hi : Option Int} (hb : slcD dx lo hi = some a) (r : Rel K M R G ρ σ H) (hx : Rdb K G H x dx) (h : Res K M R G ρ σ a Q) : rSlc K x lo hi H Q := by
  unfold slcD at hb
  split at hb
  · cases hb
    obtain ⟨p, vs, rfl, h1, t1⟩ := hx.lst r.fz
    exact .inl ⟨p, vs, rfl, h1, fun q hq => h.mkL r hq (t1.cut _ _)⟩
  · cases hb
    obtain ⟨p, vs, rfl, h1, t1, d1⟩ := hx.tup r.fz
    refine .inr ⟨p, vs, rfl, h1, fun w => ?_, fun _ q o hq ho => ?_⟩
    · rw [cutD_whole (by rw [← t1.length]; exact w)] at h
      exact h.now r d1
    · exact h.mk r hq (.tup (.new ho) ((t1.cut _ _).mono (same_new (none_of r.fz hq))))
  · cases hb
theorem dats_emp {vs : List V} {xs : List D} (t : Dats K G vs xs) : vs.isEmpty = xs.isEmpty := by cases t <;> rfl
theorem tru_okD {k : Bool} (hb : truthy d = some k) (e : Same G H) (hx : Rdb K G H v d) : TruV K v H k := by
  unfold truthy at hb
  split at hb
  · cases hb; cases hx.non; show false = false; rfl
  · cases hb; cases hx.bl; show _ = _; rfl
  · cases hb; cases hx.int; show _ = _; rfl
  · cases hb
    obtain ⟨p, vs, rfl, h1, t1⟩ := hx.lst e
    exact .inl ⟨vs, h1, by rw [dats_emp t1]⟩
  · cases hb
    obtain ⟨p, vs, rfl, h1, t1, _⟩ := hx.tup e
    exact .inr (.inl ⟨vs, h1, by rw [dats_emp t1]⟩)
  · cases hb
  · cases hb
end
section
variable {K : PySem.W.Frag} {M : Mk} {R G G' H H' : Hp} {ρ : En} {σ : L2.St} {v x y : V} {d dx dy : D} {Q : VK} {a : Rv}
abbrev Rdbs (K : PySem.W.Frag) (G H : Hp) : List V → List D → Prop := Paired fun v d => Rdb K G H v d
theorem Rdbs.one {vs : List V} {d : D} (h : Rdbs K G H vs [d]) : ∃ v, vs = [v] ∧ Rdb K G H v d := by
  cases h with
  | cons h t => cases t; exact ⟨_, rfl, h⟩
theorem Rdbs.two {vs : List V} {d e : D} (h : Rdbs K G H vs [d, e]) : ∃ v w, vs = [v, w] ∧ Rdb K G H v d ∧ Rdb K G H w e := by
  cases h with
  | cons h t =>
    obtain ⟨w, rfl, q⟩ := Rdbs.one t
    exact ⟨_, w, rfl, h, q⟩
theorem boolsD_vals : ∀ {xs : List D} {bs : List Bool} {vs : List V}, boolsD xs = some bs → Dats K G vs xs → vs = bs.map V.bl
  | [], bs, vs, h, t => by cases t; cases h; rfl
  | .bool b :: r, bs, vs, h, t => by
    cases t with
    | cons h1 t1 =>
      cases h1
      unfold boolsD at h
      cases e : boolsD r with
      | none => rw [e] at h; cases h
      | some l =>
        rw [e] at h; cases h
        rw [boolsD_vals e t1]; rfl
  | .none :: _, _, _, h, _ => by cases h
  | .int _ :: _, _, _, h, _ => by cases h
  | .str _ :: _, _, _, h, _ => by cases h
  | .list _ :: _, _, _, h, _ => by cases h
  | .tuple _ :: _, _, _, h, _ => by cases h
  | .dict _ :: _, _, _, h, _ => by cases h
theorem intsD_vals : ∀ {xs : List D} {ns : List Int} {vs : List V}, intsD xs = some ns → Dats K G vs xs → vs = ns.map V.int
  | [], ns, vs, h, t => by cases t; cases h; rfl
  | x :: r, ns, vs, h, t => by
    cases x <;> try (cases h; done)
    cases t with
    | cons h1 t1 =>
      cases h1
      obtain ⟨l, hl, rfl⟩ := Option.map_eq_some_iff.mp (show (intsD r).map _ = some ns from h)
      rw [intsD_vals hl t1]; rfl
theorem mostI_le : ∀ {ns : List Int} {m : Int}, mostI ns = some m → m ∈ ns ∧ ∀ y ∈ ns, y ≤ m
  | [], m, h => by cases h
  | x :: xs, m, h => by
    unfold mostI at h
    cases e : mostI xs with
    | none =>
      rw [e] at h; cases h
      cases xs with
      | nil => simp
      | cons z zs => unfold mostI at e; split at e <;> cases e
    | some y =>
      rw [e] at h
      obtain ⟨h1, h2⟩ := mostI_le e
      have h : (if y ≤ x then x else y) = m := Option.some.inj h
      split at h
      · subst h
        refine ⟨List.mem_cons_self .., fun z hz => ?_⟩
        rcases List.mem_cons.mp hz with q | q
        · rw [q]; exact Int.le_refl _
        · have := h2 z q; omega
      · subst h
        refine ⟨List.mem_cons_of_mem _ h1, fun z hz => ?_⟩
        rcases List.mem_cons.mp hz with q | q
        · rw [q]; omega
        · exact h2 z q
theorem leastI_le : ∀ {ns : List Int} {m : Int}, leastI ns = some m → m ∈ ns ∧ ∀ y ∈ ns, m ≤ y
  | [], m, h => by cases h
  | x :: xs, m, h => by
    unfold leastI at h
    cases e : leastI xs with
    | none =>
      rw [e] at h; cases h
      cases xs with
      | nil => simp
      | cons z zs => unfold leastI at e; split at e <;> cases e
    | some y =>
      rw [e] at h
      obtain ⟨h1, h2⟩ := leastI_le e
      have h : (if x ≤ y then x else y) = m := Option.some.inj h
      split at h
      · subst h
        refine ⟨List.mem_cons_self .., fun z hz => ?_⟩
        rcases List.mem_cons.mp hz with q | q
        · rw [q]; exact Int.le_refl _
        · have := h2 z q; omega
      · subst h
        refine ⟨List.mem_cons_of_mem _ h1, fun z hz => ?_⟩
        rcases List.mem_cons.mp hz with q | q
        · rw [q]; omega
        · exact h2 z q
def rNo : List V → Hp → VK → Prop := fun _ _ _ => False
def rBi (K : PySem.W.Frag) : Bi → List V → Hp → VK → Prop
  | .len => fun xs H Q => ∃ p ys, xs = [.ref p] ∧ (SqL K H p ys ∨ SqT K H p ys) ∧ Q (.int ys.length) H
  | .abs => fun xs H Q => ∃ i, xs = [.int i] ∧ Q (.int (if i < 0 then -i else i)) H
  | .int => fun xs H Q => (∃ i, xs = [.int i] ∧ Q (.int i) H) ∨ ∃ k, xs = [.bl k] ∧ Q (.int (if k then 1 else 0)) H
  | .max2 => fun xs H Q => ∃ i j, xs = [.int i, .int j] ∧ Q (.int (if j > i then j else i)) H
  | .min2 => fun xs H Q => ∃ i j, xs = [.int i, .int j] ∧ Q (.int (if j < i then j else i)) H
  | .tuple => rTupF K
  | .list => fun xs H Q => ∃ p ys, xs = [.ref p] ∧ (SqL K H p ys ∨ SqT K H p ys) ∧ ∀ l, H l = none → Q (.ref l) (upd H l (.lst ys))
  | .all => rAll K
  | .any => rAny K
  | .gcd => rGcd
  | .sorted => fun vs H Q => rSortL K vs H Q ∨ rSortN K vs H Q
  | .max => rMax K
  | .min => rMin K
  | .sum => rSum K
def Bi.isTy : Bi → Bool
  | .int | .tuple | .list => true
  | _ => false
def Bi.nm : Bi → String
  | .len => "len"
  | .abs => "abs"
  | .int => "int"
  | .max2 | .max => "max"
  | .min2 | .min => "min"
  | .tuple => "tuple"
  | .list => "list"
  | .all => "all"
  | .any => "any"
  | .sum => "sum"
  | .gcd => "math.gcd"
  | .sorted => "sorted"
def Bi.val (b : Bi) : Value := if b.isTy then .type b.nm else .builtin b.nm
theorem no_call {X : Cx} {f : Value} : CallR X f rNo := fun _ _ _ _ _ _ _ _ _ h => h.elim
theorem callR_bi {X : Cx} (hc : X.calm = true) (hu : X.A.units + 70 < cLine) : ∀ b : Bi, CallR X b.val (rBi X.K b)
  | .len => call_len_seq
  | .abs => call_abs
  | .int => call_int1
  | .max2 => call_max2 hc
  | .min2 => call_min2 hc
  | .tuple => call_tupleF
  | .list => call_list_of
  | .all => cr_all hc
  | .any => cr_any hc
  | .gcd => cr_gcd
  | .max => cr_max hc
  | .min => cr_min hc
  | .sum => cr_sum hc
  | .sorted => (cr_sortL hu).or (cr_sortN hc hu)
theorem bi_ok {b : Bi} {ds : List D} {vs : List V} (hb : biD b ds = some a) (r : Rel K M R G ρ σ H) (hv : Rdbs K G H vs ds) (h : Res K M R G ρ σ a Q) : rBi K b vs H Q := by
  unfold biD at hb
  split at hb
  · cases hb
    obtain ⟨v, rfl, hx⟩ := hv.one
    obtain ⟨p, ws, rfl, h1, t1⟩ := hx.lst r.fz
    exact ⟨p, ws, rfl, .inl h1, by rw [t1.length]; exact h.now r (.int _)⟩
  · cases hb
    obtain ⟨v, rfl, hx⟩ := hv.one
    obtain ⟨p, ws, rfl, h1, t1, _⟩ := hx.tup r.fz
    exact ⟨p, ws, rfl, .inr h1, by rw [t1.length]; exact h.now r (.int _)⟩
  · cases hb
    obtain ⟨v, rfl, hx⟩ := hv.one
    cases hx.int
    exact ⟨_, rfl, h.now r (.int _)⟩
  · cases hb
    obtain ⟨v, rfl, hx⟩ := hv.one
    cases hx.int
    exact .inl ⟨_, rfl, h.now r (.int _)⟩
  · cases hb
    obtain ⟨v, rfl, hx⟩ := hv.one
    cases hx.bl
    exact .inr ⟨_, rfl, h.now r (.int _)⟩
  · cases hb
    obtain ⟨v, w, rfl, hx, hy⟩ := hv.two
    cases hx.int; cases hy.int
    exact ⟨_, _, rfl, h.now r (.int _)⟩
  · cases hb
    obtain ⟨v, w, rfl, hx, hy⟩ := hv.two
    cases hx.int; cases hy.int
    exact ⟨_, _, rfl, h.now r (.int _)⟩
  · cases hb
    obtain ⟨v, rfl, hx⟩ := hv.one
    obtain ⟨p, ws, rfl, h1, t1⟩ := hx.lst r.fz
    exact ⟨p, ws, rfl, .inl ⟨h1, fun l o hl ho => h.mk r hl (.tup (.new ho) (t1.mono (same_new (none_of r.fz hl))))⟩⟩
  · cases hb
    obtain ⟨v, rfl, hx⟩ := hv.one
    obtain ⟨p, ws, rfl, h1, t1, d1⟩ := hx.tup r.fz
    exact ⟨p, ws, rfl, .inr ⟨h1, h.now r d1⟩⟩
  · cases hb
    obtain ⟨v, rfl, hx⟩ := hv.one
    obtain ⟨p, ws, rfl, h1, t1⟩ := hx.lst r.fz
    exact ⟨p, ws, rfl, .inl h1, fun l hl => h.mkL r hl t1⟩
  · cases hb
    obtain ⟨v, rfl, hx⟩ := hv.one
    obtain ⟨p, ws, rfl, h1, t1, d1⟩ := hx.tup r.fz
    exact ⟨p, ws, rfl, .inr h1, fun l hl => h.mkL r hl t1⟩
  · rename_i xs
    obtain ⟨v, rfl, hx⟩ := hv.one
    obtain ⟨p, ws, rfl, h1, t1⟩ := hx.lst r.fz
    cases e : boolsD xs with
    | none => rw [e] at hb; cases hb
    | some bs =>
      rw [e] at hb; cases hb
      refine ⟨p, bs, rfl, ?_, h.now r (.bl _)⟩
      rw [← boolsD_vals e t1]; exact h1
  · rename_i xs
    obtain ⟨v, rfl, hx⟩ := hv.one
    obtain ⟨p, ws, rfl, h1, t1⟩ := hx.lst r.fz
    cases e : boolsD xs with
    | none => rw [e] at hb; cases hb
    | some bs =>
      rw [e] at hb; cases hb
      refine ⟨p, bs, rfl, ?_, h.now r (.bl _)⟩
      rw [← boolsD_vals e t1]; exact h1
  · split at hb
    · rename_i c
      cases hb
      obtain ⟨v, rfl, hx⟩ := hv.one
      obtain ⟨p, ws, rfl, h1, t1⟩ := hx.lst r.fz
      exact .inl ⟨p, ws, _, rfl, h1, (t1.mono r.fz).dp (noDics_of (sortOk_ok c).2.2.2), c, fun q hq => h.mkL r hq t1.sort⟩
    · cases hb
  · split at hb
    · rename_i c
      cases hb
      obtain ⟨v, rfl, hx⟩ := hv.one
      obtain ⟨p, ys, rfl, h1, t1⟩ := hx.dic r.fz
      exact .inr ⟨p, ys, _, _, rfl, h1, r.fz, t1, c, fun q hq => h.mkL r hq t1.dats.sort⟩
    · cases hb
  · cases hb
    obtain ⟨v, w, rfl, hx, hy⟩ := hv.two
    cases hx.int; cases hy.int
    exact ⟨_, _, rfl, h.now r (.int _)⟩
  · rename_i xs
    obtain ⟨v, rfl, hx⟩ := hv.one
    obtain ⟨p, ws, rfl, h1, t1⟩ := hx.lst r.fz
    obtain ⟨ns, hns, hb⟩ := Option.bind_eq_some_iff.mp hb
    obtain ⟨m, hm, rfl⟩ := Option.map_eq_some_iff.mp hb
    obtain ⟨g1, g2⟩ := mostI_le hm
    refine ⟨p, ns, rfl, by rw [← intsD_vals hns t1]; exact h1, List.length_pos_of_mem g1, fun y hy hle => ?_⟩
    have e : y = m := by have := hle m g1; have := g2 y hy; omega
    rw [e]; exact h.now r (.int _)
  · rename_i xs
    obtain ⟨v, rfl, hx⟩ := hv.one
    obtain ⟨p, ws, rfl, h1, t1⟩ := hx.lst r.fz
    obtain ⟨ns, hns, hb⟩ := Option.bind_eq_some_iff.mp hb
    obtain ⟨m, hm, rfl⟩ := Option.map_eq_some_iff.mp hb
    obtain ⟨g1, g2⟩ := leastI_le hm
    refine ⟨p, ns, rfl, by rw [← intsD_vals hns t1]; exact h1, List.length_pos_of_mem g1, fun y hy hle => ?_⟩
    have e : y = m := by have := hle m g1; have := g2 y hy; omega
    rw [e]; exact h.now r (.int _)
  · rename_i xs
    obtain ⟨v, rfl, hx⟩ := hv.one
    obtain ⟨p, ws, rfl, h1, t1⟩ := hx.lst r.fz
    obtain ⟨ns, hns, rfl⟩ := Option.map_eq_some_iff.mp hb
    exact ⟨p, ns, rfl, by rw [← intsD_vals hns t1]; exact h1, h.now r (.int _)⟩
  · cases hb
def tyN : D → String
  | .none => "NoneType"
  | .bool _ => "bool"
  | .int _ => "int"
  | .str _ => "str"
  | .list _ => "list"
  | .tuple _ => "tuple"
  | .dict _ => "dict"
def Ty.nm : Ty → String
  | .int => "int"
  | .bool => "bool"
  | .str => "str"
  | .tuple => "tuple"
  | .list => "list"
theorem kit_one : ∀ (d : D) (t : Ty), PySem.W.kitOne K (.type (tyN d)) (.type t.nm) = some (isiD d t)
  | .none, .int => kit_ty (by decide +kernel)
  | .none, .bool => kit_ty (by decide +kernel)
  | .none, .str => kit_ty (by decide +kernel)
  | .none, .tuple => kit_ty (by decide +kernel)
  | .none, .list => kit_ty (by decide +kernel)
  | .bool _, .int => kit_ty (by show kitB "bool" "int" = some true; decide +kernel)
  | .bool _, .bool => kit_ty (by show kitB "bool" "bool" = some true; decide +kernel)
  | .bool _, .str => kit_ty (by show kitB "bool" "str" = some false; decide +kernel)
  | .bool _, .tuple => kit_ty (by show kitB "bool" "tuple" = some false; decide +kernel)
  | .bool _, .list => kit_ty (by show kitB "bool" "list" = some false; decide +kernel)
  | .int _, .int => kit_ty (by show kitB "int" "int" = some true; decide +kernel)
  | .int _, .bool => kit_ty (by show kitB "int" "bool" = some false; decide +kernel)
  | .int _, .str => kit_ty (by show kitB "int" "str" = some false; decide +kernel)
  | .int _, .tuple => kit_ty (by show kitB "int" "tuple" = some false; decide +kernel)
  | .int _, .list => kit_ty (by show kitB "int" "list" = some false; decide +kernel)
  | .str _, .int => kit_ty (by show kitB "str" "int" = some false; decide +kernel)
  | .str _, .bool => kit_ty (by show kitB "str" "bool" = some false; decide +kernel)
  | .str _, .str => kit_ty (by show kitB "str" "str" = some true; decide +kernel)
  | .str _, .tuple => kit_ty (by show kitB "str" "tuple" = some false; decide +kernel)
  | .str _, .list => kit_ty (by show kitB "str" "list" = some false; decide +kernel)
  | .list _, .int => kit_ty (by show kitB "list" "int" = some false; decide +kernel)
  | .list _, .bool => kit_ty (by show kitB "list" "bool" = some false; decide +kernel)
  | .list _, .str => kit_ty (by show kitB "list" "str" = some false; decide +kernel)
  | .list _, .tuple => kit_ty (by show kitB "list" "tuple" = some false; decide +kernel)
  | .list _, .list => kit_ty (by show kitB "list" "list" = some true; decide +kernel)
  | .tuple _, .int => kit_ty (by show kitB "tuple" "int" = some false; decide +kernel)
  | .tuple _, .bool => kit_ty (by show kitB "tuple" "bool" = some false; decide +kernel)
  | .tuple _, .str => kit_ty (by show kitB "tuple" "str" = some false; decide +kernel)
  | .tuple _, .tuple => kit_ty (by show kitB "tuple" "tuple" = some true; decide +kernel)
  | .tuple _, .list => kit_ty (by show kitB "tuple" "list" = some false; decide +kernel)
  | .dict _, .int => kit_ty (by show kitB "dict" "int" = some false; decide +kernel)
  | .dict _, .bool => kit_ty (by show kitB "dict" "bool" = some false; decide +kernel)
  | .dict _, .str => kit_ty (by show kitB "dict" "str" = some false; decide +kernel)
  | .dict _, .tuple => kit_ty (by show kitB "dict" "tuple" = some false; decide +kernel)
  | .dict _, .list => kit_ty (by show kitB "dict" "list" = some false; decide +kernel)
theorem kit_any (d : D) : ∀ ts : List Ty, PySem.W.kitAny K (.type (tyN d)) (ts.map fun t => .type t.nm) = some (ts.any (isiD d))
  | [] => kitAny_nil
  | t :: ts => by
    rw [List.map_cons, List.any_cons]
    refine kitAny_cons (kit_one d t) (fun h => ?_) (fun h => by rw [h]; rfl)
    rw [h, Bool.false_or]
    exact kit_any d ts
def TyD (K : PySem.W.Frag) (H : Hp) (v : V) (t : Value) : Prop := TyX K H v t ∨ ∃ a ys, v = .ref a ∧ H a = some (DictNO a ys) ∧ t = .type "dict"
theorem kit_ofD {X : Cx} {pins : List (Addr × Obj)} {σ : L2.St} {H : Hp} {s : Shared} {x : V} {u t : Value} (I : Inv X pins σ H s) (rx : RelV x u) (ty : TyD X.K H x t) : ∃ P : Heap → Prop, PySem.W.KitX X.K u t P ∧ P s.heap ∧ u ≠ .builtin "__main__.__loader__#opaque" := by
  rcases ty with ty | ⟨a, ys, rfl, h, rfl⟩
  · exact kit_of I rx ty
  · cases (show u = Value.ref a from rx)
    obtain ⟨⟨_, _, _, _, o, _, _, h1, h2, _⟩, _⟩ := (show ObjOk X.prog X.w H s.heap a (DictNO a ys) from I.hok a _ h)
    exact ⟨_, PySem.W.kitx_dict, ⟨o, h1, h2.1⟩, fun z => nomatch z⟩
def rIsiD (K : PySem.W.Frag) : List V → Hp → VK → Prop := fun xs H Q => ∃ (x c : V) (t u : Value) (b : Bool), xs = [x, c] ∧ ClsV c u ∧ TyD K H x t ∧ PySem.W.kitOne K t u = some b ∧ Q (.bl b) H
def rIsiTD (K : PySem.W.Frag) : List V → Hp → VK → Prop := fun xs H Q => ∃ (x : V) (tp : Addr) (cs : List V) (t : Value) (us : List Value) (b : Bool), xs = [x, .ref tp] ∧ H tp = some (.tup cs) ∧ Paired ClsV cs us ∧ TyD K H x t ∧ PySem.W.kitAny K t us = some b ∧ Q (.bl b) H
theorem call_isiD {X : Cx} : CallR X (.builtin "isinstance") (rIsiD X.K) := by
  intro pins s σ H xs us Q I r h
  obtain ⟨x, c, t, u, b, rfl, k, ty, e, q⟩ := h
  obtain ⟨u1, u2, rfl, r1, r2⟩ := vals2 r
  have e2 := k.eq r2
  subst e2
  obtain ⟨P, Z, p, hx⟩ := kit_ofD I r1 ty
  exact PySem.W.kia_one Z I.kIn p e hx fun tk => ⟨.bl b, H, I.tok tk, rfl, q⟩
theorem call_isiTD {X : Cx} : CallR X (.builtin "isinstance") (rIsiTD X.K) := by
  intro pins s σ H xs us Q I r h
  obtain ⟨x, tp, cs, t, ws, b, rfl, hT, k, ty, e, q⟩ := h
  obtain ⟨u1, u2, rfl, r1, r2⟩ := vals2 r
  cases (show u2 = Value.ref tp from r2)
  obtain ⟨P, Z, p, hx⟩ := kit_ofD I r1 ty
  obtain ⟨_, its, rv, o, h1, h2, n, h3⟩ := (show ObjOk X.prog X.w H s.heap tp (.tup cs) from I.hok tp _ hT)
  have e3 := ClsV.all k rv
  subst e3
  obtain ⟨oc, od, dt, sl⟩ := o
  simp only at h2 h3
  subst h2 h3
  exact PySem.W.kia_tup Z I.kIn p h1 e hx fun tk => ⟨.bl b, H, I.tok tk, rfl, q⟩
theorem Rdb.tyD (e : Same G H) (h : Rdb K G H v d) : TyD K H v (.type (tyN d)) := by
  cases d with
  | none => cases h.non; exact .inl <| .base .non
  | bool b => cases h.bl; exact .inl <| .base (.bl _)
  | int i => cases h.int; exact .inl <| .base (.int _)
  | str z => cases h.str; exact .inl <| .base (.str _)
  | list xs =>
    obtain ⟨p, ws, rfl, h1, _⟩ := h.lst e
    rcases h1 with (h1 | ⟨o, h1⟩) | ⟨o, its, n, h1, h2, _⟩
    · exact .inl <| .base (.lst h1)
    · exact .inl <| .base (.frz h1)
    · exact .inl <| .kList h1 h2
  | tuple xs =>
    obtain ⟨p, ws, rfl, h1, _, _⟩ := h.tup e
    rcases h1 with (h1 | ⟨o, h1⟩) | ⟨o, its, n, h1, h2, _⟩
    · exact .inl <| .base (.tup h1)
    · exact .inl <| .fTuple h1
    · exact .inl <| .kTuple h1 h2
  | dict xs =>
    rcases h with h | ⟨p, o, rfl, _, h4, h⟩
    · cases h with
      | dic h1 _ => exact .inr ⟨_, _, rfl, e _ _ h1, rfl⟩
    · cases o with
      | lst _ => cases h
      | dic _ =>
        obtain ⟨ys, h1, _⟩ := h4
        exact .inr ⟨_, _, rfl, h1, rfl⟩
def rCntT (K : PySem.W.Frag) : V → List V → Hp → VK → Prop := fun x vs H Q => ∃ (y : V) (d : PyData) (ds : List PyData), vs = [y] ∧ Dp K H x (.tuple ds) ∧ Dp K H y d ∧ PyData.plainAll ds = true ∧ d.plain = true ∧ SeqAt.shaped d = true ∧
  Q (.int ((ds.countP fun z => PyData.eqv z d : Nat) : Int)) H
theorem mt_cntT {X : Cx} (hu : X.A.units + 70 < cLine) : MtR X "tuple.count" (rCntT X.K) := by
  intro pins s σ H x xs v us Q I rx rxs h
  obtain ⟨y, d, ds, rfl, hl, hy, hp, hd, sd, q⟩ := h
  obtain ⟨u, rfl, ru⟩ := Vals.one rxs
  obtain ⟨bs, r1⟩ := Dp.reads I d y u hy ru
  cases hl with
  | tup hs ha =>
    rename_i l ws
    cases rx
    obtain ⟨its, rv, ht, hlen⟩ := I.tuple hs
    obtain ⟨as, r2⟩ := Dp.readsAll I ds _ its ha rv
    have h1 := SeqAt.depth_of_shaped sd
    exact SeqAt.count_tuple_data ht (by simpa using r2) r1 hp hd (by have : min (PyData.depthAll ds) d.depth ≤ d.depth := Nat.min_le_right _ _; omega) ⟨.int _, H, I.tok _, ⟨_, rfl⟩, q⟩
end
end Vi
set_option maxHeartbeats 4000000
namespace Vi
open PySem PySem.Spec PyProof.Rows L2
theorem argSl_spec (ρ : En) (chg : List Nat) : ∀ (rs : List Rv) (k : Nat) (as : En), argSl ρ chg k rs = some as → as.length = rs.length ∧ ∀ (j : Nat) (r : Rv), rs[j]? = some r →
    (chg.contains (k + j) = true → ∃ (i : Nat) (o : Ob) (f : Fl), r = .ref i ∧ ρ[i]? = some (.own f o) ∧ (f = .loc ∨ f = .par) ∧ as[j]? = some (.own .par o)) ∧
    (chg.contains (k + j) = false → ∃ d, cnt ρ r = some d ∧ as[j]? = some (.dat d))
  | [], k, as, h => by
    cases h
    exact ⟨rfl, fun j r e => by simp at e⟩
  | r0 :: rs, k, as, h => by
    unfold argSl at h
    obtain ⟨s, hs, h⟩ := Option.bind_eq_some_iff.mp h
    obtain ⟨as', ha, rfl⟩ := Option.map_eq_some_iff.mp h
    obtain ⟨hl, ih⟩ := argSl_spec ρ chg rs (k + 1) as' ha
    refine ⟨by simp [hl], fun j r e => ?_⟩
    cases j with
    | zero =>
      have er : r0 = r := by simpa using e
      subst er
      refine ⟨fun hc => ?_, fun hc => ?_⟩
      · rw [Nat.add_zero] at hc
        rw [if_pos hc] at hs
        split at hs
        · rename_i i
          split at hs
          · rename_i o ho
            cases hs
            exact ⟨i, o, .loc, rfl, ho, .inl rfl, rfl⟩
          · rename_i o ho
            cases hs
            exact ⟨i, o, .par, rfl, ho, .inr rfl, rfl⟩
          · cases hs
        · cases hs
      · rw [Nat.add_zero] at hc
        rw [if_neg (by rw [hc]; exact Bool.false_ne_true)] at hs
        obtain ⟨d, hd, rfl⟩ := Option.map_eq_some_iff.mp hs
        exact ⟨d, hd, rfl⟩
    | succ j =>
      have q := ih j r (by simpa using e)
      have ek : k + (j + 1) = k + 1 + j := by omega
      rw [ek]
      refine ⟨fun hc => ?_, fun hc => ?_⟩
      · obtain ⟨i, o, f, h1, h2, h3, h4⟩ := q.1 hc
        exact ⟨i, o, f, h1, h2, h3, by simpa using h4⟩
      · obtain ⟨d, h1, h2⟩ := q.2 hc
        exact ⟨d, h1, by simpa using h2⟩
theorem putBack_spec (chg : List Nat) : ∀ (rs : List Rv) (k : Nat) (ss : En) (ρ ρ1 : En), putBack chg k rs ss ρ = some ρ1 → ρ1.length = ρ.length ∧ ∀ i : Nat,
    (ρ1[i]? = ρ[i]? ∧ ∀ j : Nat, chg.contains (k + j) = true → rs[j]? ≠ some (.ref i)) ∨
    (∃ (j : Nat) (f f' : Fl) (o o' : Ob), chg.contains (k + j) = true ∧ rs[j]? = some (.ref i) ∧ ρ[i]? = some (.own f o) ∧ ss[j]? = some (.own f' o') ∧ ρ1[i]? = some (.own f o'))
  | [], k, ss, ρ, ρ1, h => by
    have e : ρ = ρ1 := by simpa [putBack] using h
    subst e
    exact ⟨rfl, fun i => .inl ⟨rfl, fun j _ z => by simp at z⟩⟩
  | r0 :: rs, k, [], ρ, ρ1, h => by simp [putBack] at h
  | r0 :: rs, k, s0 :: ss, ρ, ρ1, h => by
    unfold putBack at h
    have ek : ∀ j, k + (j + 1) = k + 1 + j := fun j => by omega
    by_cases hc : chg.contains k = true
    · rw [if_pos hc] at h
      split at h
      · rename_i i0 g0 o0
        split at h
        · rename_i f0 o1 ho
          obtain ⟨hl, ih⟩ := putBack_spec chg rs (k + 1) ss _ ρ1 h
          refine ⟨by rw [hl, List.length_set], fun i => ?_⟩
          rcases ih i with ⟨e, hn⟩ | ⟨j, f, f', o, o', h1, h2, h3, h4, h5⟩
          · by_cases ei : i0 = i
            · subst ei
              have hlt : i0 < ρ.length := get_lt ho
              rw [get_set_self hlt] at e
              exact .inr ⟨0, f0, g0, o1, o0, hc, rfl, ho, rfl, e⟩
            · rw [get_set_ne ei] at e
              refine .inl ⟨e, fun j hj => ?_⟩
              cases j with
              | zero => intro z; simp at z; exact ei z
              | succ j =>
                rw [ek] at hj
                have := hn j hj
                simpa using this
          · refine .inr ⟨j + 1, ?_⟩
            rw [ek]
            by_cases ei : i0 = i
            · subst ei
              have hlt : i0 < ρ.length := get_lt ho
              rw [get_set_self hlt] at h3
              cases h3
              exact ⟨_, f', o1, o', h1, by simpa using h2, ho, by simpa using h4, h5⟩
            · rw [get_set_ne ei] at h3
              exact ⟨f, f', o, o', h1, by simpa using h2, h3, by simpa using h4, h5⟩
        · cases h
      · cases h
    · rw [if_neg hc] at h
      obtain ⟨hl, ih⟩ := putBack_spec chg rs (k + 1) ss ρ ρ1 h
      refine ⟨hl, fun i => ?_⟩
      rcases ih i with ⟨e, hn⟩ | ⟨j, f, f', o, o', h1, h2, h3, h4, h5⟩
      · refine .inl ⟨e, fun j hj => ?_⟩
        cases j with
        | zero => exact absurd hj hc
        | succ j =>
          rw [ek] at hj
          have := hn j hj
          simpa using this
      · refine .inr ⟨j + 1, f, f', o, o', ?_, by simpa using h2, h3, by simpa using h4, h5⟩
        rw [ek]; exact h1
theorem frz_spec : ∀ (l : List Rv) (ρ ρ2 : En), frz l ρ = some ρ2 → ρ2.length = ρ.length ∧ ∀ i : Nat,
    (Rv.ref i ∈ l ∧ ∃ o, ρ[i]? = some (.own .loc o) ∧ ρ2[i]? = some (.dat o.toD)) ∨ (ρ2[i]? = ρ[i]? ∧ (Rv.ref i ∈ l → ∀ f o, ρ[i]? ≠ some (.own f o)))
  | [], ρ, ρ2, h => by
    have e : ρ = ρ2 := by simpa [frz] using h
    subst e
    exact ⟨rfl, fun i => .inr ⟨rfl, fun z => by simp at z⟩⟩
  | .dat d :: l, ρ, ρ2, h => by
    obtain ⟨hl, ih⟩ := frz_spec l ρ ρ2 (by simpa [frz] using h)
    refine ⟨hl, fun i => ?_⟩
    rcases ih i with ⟨h1, h2⟩ | ⟨h1, h2⟩
    · exact .inl ⟨List.mem_cons_of_mem _ h1, h2⟩
    · exact .inr ⟨h1, fun z => h2 (by simpa using z)⟩
  | .new d :: l, ρ, ρ2, h => by
    obtain ⟨hl, ih⟩ := frz_spec l ρ ρ2 (by simpa [frz] using h)
    refine ⟨hl, fun i => ?_⟩
    rcases ih i with ⟨h1, h2⟩ | ⟨h1, h2⟩
    · exact .inl ⟨List.mem_cons_of_mem _ h1, h2⟩
    · exact .inr ⟨h1, fun z => h2 (by simpa using z)⟩
  | .ref i0 :: l, ρ, ρ2, h => by
    unfold frz at h
    split at h
    · rename_i o ho
      obtain ⟨hl, ih⟩ := frz_spec l _ ρ2 h
      refine ⟨by rw [hl, List.length_set], fun i => ?_⟩
      by_cases ei : i0 = i
      · subst ei
        have hlt := get_lt ho
        rcases ih i0 with ⟨h1, o2, h2, h3⟩ | ⟨h1, h2⟩
        · rw [get_set_self hlt] at h2; cases h2
        · rw [get_set_self hlt] at h1
          exact .inl ⟨List.mem_cons_self .., o, ho, h1⟩
      · rcases ih i with ⟨h1, o2, h2, h3⟩ | ⟨h1, h2⟩
        · rw [get_set_ne ei] at h2
          exact .inl ⟨List.mem_cons_of_mem _ h1, o2, h2, h3⟩
        · rw [get_set_ne ei] at h1 h2
          refine .inr ⟨h1, fun z => h2 ?_⟩
          rcases List.mem_cons.mp z with z | z
          · exact absurd (Rv.ref.inj z).symm ei
          · exact z
    · cases h
    · rename_i hno1 hno2
      obtain ⟨hl, ih⟩ := frz_spec l ρ ρ2 h
      refine ⟨hl, fun i => ?_⟩
      rcases ih i with ⟨h1, h2⟩ | ⟨h1, h2⟩
      · exact .inl ⟨List.mem_cons_of_mem _ h1, h2⟩
      · refine .inr ⟨h1, fun z f o e => ?_⟩
        rcases List.mem_cons.mp z with z | z
        · have ei : i = i0 := Rv.ref.inj z
          subst ei
          exact hno2 f o e
        · exact h2 z f o e
theorem mem_lookOnly (chg : List Nat) (i : Nat) : ∀ (rs : List Rv) (k : Nat), Rv.ref i ∈ lookOnly chg k rs → ∃ j, chg.contains (k + j) = false ∧ rs[j]? = some (.ref i)
  | [], k, h => by simp [lookOnly] at h
  | r :: rs, k, h => by
    unfold lookOnly at h
    have rec_ : Rv.ref i ∈ lookOnly chg (k + 1) rs → ∃ j, chg.contains (k + j) = false ∧ (r :: rs)[j]? = some (.ref i) := fun z => by
      obtain ⟨j, h1, h2⟩ := mem_lookOnly chg i rs (k + 1) z
      exact ⟨j + 1, by rw [show k + (j + 1) = k + 1 + j by omega]; exact h1, by simpa using h2⟩
    by_cases hc : chg.contains k = true
    · rw [if_pos hc] at h; exact rec_ h
    · rw [if_neg hc] at h
      rcases List.mem_cons.mp h with z | z
      · exact ⟨0, by simpa using hc, by rw [← z]; rfl⟩
      · exact rec_ z
theorem lookOnly_mem (chg : List Nat) (i : Nat) : ∀ (rs : List Rv) (k j : Nat), chg.contains (k + j) = false → rs[j]? = some (.ref i) → Rv.ref i ∈ lookOnly chg k rs
  | [], k, j, _, h => by simp at h
  | r :: rs, k, j, hc, h => by
    unfold lookOnly
    cases j with
    | zero =>
      have e : r = .ref i := by simpa using h
      subst e
      rw [Nat.add_zero] at hc
      rw [if_neg (by rw [hc]; exact Bool.false_ne_true)]
      exact List.mem_cons_self ..
    | succ j =>
      have q := lookOnly_mem chg i rs (k + 1) j (by rw [show k + 1 + j = k + (j + 1) by omega]; exact hc) (by simpa using h)
      split
      · exact q
      · exact List.mem_cons_of_mem _ q
theorem apart_spec {chg : List Nat} {rs : List Rv} (h : apart chg rs = true) {i j k : Nat} (hj : rs[j]? = some (.ref i)) (hk : rs[k]? = some (.ref i)) (hc : chg.contains j = true) : j = k := by
  unfold apart at h
  rcases Bool.or_eq_true_iff.mp h with e | h
  · cases chg with
    | nil => simp at hc
    | cons _ _ => simp at e
  · have h1 := List.all_eq_true.mp h j (List.mem_range.mpr (get_lt hj))
    have h2 := List.all_eq_true.mp h1 k (List.mem_range.mpr (get_lt hk))
    rw [hj, hk, hc] at h2
    simpa [sameRef] using h2
def AvIs (K : PySem.W.Frag) (G : Hp) (σ : L2.St) : Rv → V → Prop
  | .dat d, v => Dat K G v d
  | .new o, v => Dat K G v o.toD
  | .ref i, v => σ[i]? = some (some v)
section
variable {K : PySem.W.Frag} {M : Mk} {R G G' H H' : Hp} {ρ : En} {σ : L2.St} {v x y : V} {d dx dy : D} {Q : VK} {a r : Rv}
theorem AvIs.mono (e : Same G G') (h : AvIs K G σ a v) : AvIs K G' σ a v := by
  cases a with
  | dat d => exact Dat.mono e h
  | new o => exact Dat.mono e h
  | ref i => exact h
theorem settle (r : Rel K M R G ρ σ H) (h : RvIs K G R ρ σ H a v) : ∃ G', Same G G' ∧ Rel K M R G' ρ σ H ∧ AvIs K G' σ a v := by
  cases a with
  | dat d => exact ⟨G, Same.refl _, r, h⟩
  | new o =>
    obtain ⟨p, rfl, h1, h2, h3, h4⟩ := h
    obtain ⟨u, hu, hd, _⟩ := h4.dat h1
    exact ⟨_, same_new h1, r.give hu h1 h2 h3, hd⟩
  | ref i => exact ⟨G, Same.refl _, r, h.1⟩
theorem cnt_ref {i : Nat} (h : cnt ρ (.ref i) = some d) : ∃ f o, ρ[i]? = some (.own f o) ∧ d = o.toD := by
  have h : (match ρ[i]? with
    | some (.own _ o) => some o.toD
    | _ => none) = some d := h
  split at h
  · rename_i f o ho
    cases h
    exact ⟨f, o, ho, rfl⟩
  · cases h
theorem AvIs.rdb (r : Rel K M R G ρ σ H) (h : AvIs K G σ a v) (hc : cnt ρ a = some d) : Rdb K G H v d := by
  cases a with
  | dat e => cases hc; exact .inl h
  | new o => cases hc; exact .inl h
  | ref i =>
    obtain ⟨f, o, ho, rfl⟩ := cnt_ref hc
    obtain ⟨p, h1, h2, h3, h4, _⟩ := r.own i f o ho
    have e : v = .ref p := by
      have h : σ[i]? = some (some v) := h
      rw [h1] at h; simpa using h.symm
    subst e
    exact Rdb.ref h2 h4
end
abbrev ExE := Value → Option Addr → Hp → Prop
def ExcP (K : PySem.W.Frag) (cT : Nat → Addr) (M : Mk) (R G : Hp) (ρ : En) (σ : L2.St) (c : Nat) (d : D) (E : ExE) : Prop :=
  ∀ G' H' dd v, Same G G' → Rel K M R G' ρ σ H' → H' dd = some (.xd [("value", v)]) → Dat K G' v d → E (.ref (cT c)) (some dd) H'
def PostF (K : PySem.W.Frag) (cT : Nat → Addr) (M : Mk) (R G : Hp) (σ : L2.St) (x : Rs Rv) (Q : VK) (E : ExE) : Prop := match x with
  | .no => False
  | .ok r ρ => Res K M R G ρ σ r Q
  | .ex c d ρ => ExcP K cT M R G ρ σ c d E
def spF (K : PySem.W.Frag) (cT : Nat → Addr) (fn : Fn) : Sp := fun vs H Q E => vs.length = fn.np ∧ ∃ M R G as, Rel K M R G as (vs.map some) H ∧ PostF K cT M R G (vs.map some) (fn.sem as) Q E
section
variable {K : PySem.W.Frag} {cT : Nat → Addr} {M : Mk} {R G H : Hp} {ρ : En} {σ : L2.St} {Q : VK} {E : ExE} {fn : Fn} {rs : List Rv} {vs : List V}
open Classical in
noncomputable def lent (chg : List Nat) (rs : List Rv) (ρ : En) (σ : L2.St) (a : Addr) : Prop := ∃ i f o, Rv.ref i ∈ lookOnly chg 0 rs ∧ ρ[i]? = some (.own f o) ∧ σ[i]? = some (some (.ref a))
def handed (chg : List Nat) (rs : List Rv) (ρ : En) (σ : L2.St) (a : Addr) : Prop := ∃ j i f o, chg.contains j = true ∧ rs[j]? = some (.ref i) ∧ ρ[i]? = some (.own f o) ∧ σ[i]? = some (some (.ref a))
theorem paired_get {α β : Type} {F : α → β → Prop} : ∀ {xs : List α} {ys : List β} {i : Nat} {x : α}, Paired F xs ys → xs[i]? = some x → ∃ y, ys[i]? = some y ∧ F x y
  | _, _, _, _, .nil, e => by simp at e
  | _, _, 0, _, .cons r _, e => by simp at e; subst e; exact ⟨_, rfl, r⟩
  | _, _, i + 1, x, .cons _ t, e => by
    obtain ⟨u, h1, h2⟩ := paired_get (i := i) (x := x) t (by simpa using e)
    exact ⟨u, by simpa using h1, h2⟩
theorem paired_len {α β : Type} {F : α → β → Prop} : ∀ {xs : List α} {ys : List β}, Paired F xs ys → xs.length = ys.length
  | _, _, .nil => rfl
  | _, _, .cons _ t => by simp [paired_len t]
theorem Ob.calm_drop {K : PySem.W.Frag} {G G' H : Hp} {p : Addr} {o : Ob} (e : NoL G G') (h : ObAt K G H p o) (n : o.calm = true) : ObAt K G' H p o := by
  cases o with
  | lst xs =>
    obtain ⟨ws, h1, h2⟩ := h
    exact ⟨ws, h1, h2.drop e n⟩
  | dic kvs =>
    obtain ⟨ys, h1, h2⟩ := h
    exact ⟨ys, h1, h2.drop e n⟩
open Classical in
theorem doCall_ok (r : Rel K M R G ρ σ H) (ha : Paired (fun a v => AvIs K G σ a v) rs vs) (h : PostF K cT M R G σ (doCall fn rs ρ) Q E) : spF K cT fn vs H Q E := by
  unfold doCall at h
  by_cases hc : (decide (rs.length = fn.np) && apart fn.chg rs) = true
  case neg => rw [if_neg hc] at h; exact h.elim
  rw [if_pos hc] at h
  obtain ⟨hc1, hap⟩ := ba2 hc
  have hlen : rs.length = fn.np := of_decide_eq_true hc1
  have hvl : rs.length = vs.length := paired_len ha
  cases has : argSl ρ fn.chg 0 rs with
  | none => rw [has] at h; exact h.elim
  | some as =>
  rw [has] at h
  replace h : PostF K cT M R G σ (match fn.sem as with
      | .no => .no
      | .ex c d outs => match putBack fn.chg 0 rs outs ρ with
        | some ρ1 => if noLst d && outs.all Sl.calm then .ex c d ρ1 else (match frz (lookOnly fn.chg 0 rs) ρ1 with
          | some ρ2 => .ex c d ρ2
          | none => .no)
        | none => .no
      | .ok r outs => if r.isRef then .no else match putBack fn.chg 0 rs outs ρ with
        | some ρ1 => if r.calm && outs.all Sl.calm then .ok r ρ1 else (match frz (lookOnly fn.chg 0 rs) ρ1 with
          | some ρ2 => .ok r ρ2
          | none => .no)
        | none => .no) Q E := h
  obtain ⟨hal, has2⟩ := argSl_spec ρ fn.chg rs 0 as has
  let L : Addr → Prop := lent fn.chg rs ρ σ
  let Hd : Addr → Prop := handed fn.chg rs ρ σ
  let G0 : Hp := fun a => if L a then H a else G a
  let R0 : Hp := fun a => if G0 a ≠ none ∨ Hd a then none else H a
  let M0 : Mk := fun j => match vs[j]? with
    | some (.ref p) => some (p, none)
    | _ => none
  have ownAt : ∀ (i : Nat) (f : Fl) (o : Ob) (a : Addr), ρ[i]? = some (.own f o) → σ[i]? = some (some (.ref a)) → G a = none ∧ R a = none ∧ ObAt K G H a o := fun i f o a h1 h2 => by
    obtain ⟨q, q1, q2, q3, q4, _⟩ := r.own i f o h1
    have e : q = a := by rw [h2] at q1; simpa using q1.symm
    subst e
    exact ⟨q2, q3, q4⟩
  have hL : ∀ a, L a → G a = none ∧ R a = none ∧ ∃ u, H a = some u ∧ ((∃ xs, u = .lst xs) ∨ ∃ ys, u = DictNO a ys) := fun a ⟨i, f, o, _, h2, h3⟩ => by
    obtain ⟨q2, q3, q4⟩ := ownAt i f o a h2 h3
    obtain ⟨u, hu, _, hk⟩ := q4.dat q2
    exact ⟨q2, q3, u, hu, hk⟩
  have hHd : ∀ a, Hd a → G a = none ∧ R a = none ∧ ∃ u, H a = some u := fun a ⟨j, i, f, o, _, _, h2, h3⟩ => by
    obtain ⟨q2, q3, q4⟩ := ownAt i f o a h2 h3
    exact ⟨q2, q3, q4.ex⟩
  have sGG0 : Same G G0 := fun a u e => by
    show (if L a then H a else G a) = some u
    split
    · exact r.fz a u e
    · exact e
  have sG0H : Same G0 H := fun a u e => by
    have e : (if L a then H a else G a) = some u := e
    split at e
    · exact e
    · exact r.fz a u e
  have notBoth : ∀ a, Hd a → ¬ L a := fun a ⟨j, i, f, o, c1, c2, c3, c4⟩ ⟨i', f', o', d1, d3, d4⟩ => by
    have ei : i = i' := r.inj i i' f f' o o' a c3 d3 c4 d4
    subst ei
    obtain ⟨k, k1, k2⟩ := mem_lookOnly fn.chg i rs 0 d1
    rw [Nat.zero_add] at k1
    have := apart_spec hap c2 k2 c1
    subst this
    rw [c1] at k1; cases k1
  have hdG0 : ∀ a, Hd a → G0 a = none := fun a ha => by
    show (if L a then H a else G a) = none
    rw [if_neg (notBoth a ha)]
    exact (hHd a ha).1
  have relC : Rel K M0 R0 G0 as (vs.map some) H := by
    refine ⟨by rw [List.length_map, hal, hvl], sG0H, fun a u e => ?_, fun a u e => ?_, fun j d e => ?_, fun j f o e => ?_, fun j k f f' o o' p e1 e2 p1 p2 => ?_⟩
    · have e : (if G0 a ≠ none ∨ Hd a then none else H a) = some u := e
      split at e
      · cases e
      · exact e
    · have e : (if G0 a ≠ none ∨ Hd a then none else H a) = some u := e
      split at e
      · cases e
      · rename_i z
        cases q : G0 a with
        | none => rfl
        | some w => exact absurd (.inl (by rw [q]; exact fun z => nomatch z)) z
    · have hj : j < rs.length := by rw [← hal]; exact get_lt e
      have hr : rs[j]? = some rs[j] := by simp [hj]
      obtain ⟨v, hv, av⟩ := paired_get ha hr
      refine ⟨v, by rw [List.getElem?_map, hv]; rfl, ?_⟩
      obtain ⟨q1, q2⟩ := has2 j _ hr
      rw [Nat.zero_add] at q1 q2
      cases hch : fn.chg.contains j with
      | true =>
        obtain ⟨i, o, f, _, _, _, h4⟩ := q1 hch
        rw [e] at h4; cases h4
      | false =>
        obtain ⟨d', h1, h2⟩ := q2 hch
        rw [e] at h2; cases h2
        generalize hrr : rs[j] = rj at h1 av hr
        cases rj with
        | dat d0 => cases h1; exact Dat.mono sGG0 av
        | new o0 => cases h1; exact Dat.mono sGG0 av
        | ref i =>
          obtain ⟨f, o, ho, rfl⟩ := cnt_ref h1
          obtain ⟨p, p1, p2, p3, p4, _⟩ := r.own i f o ho
          have ev : v = .ref p := by
            have av : σ[i]? = some (some v) := av
            rw [p1] at av; simpa using av.symm
          subst ev
          obtain ⟨u, hu, hd, _⟩ := p4.dat p2
          refine hd.mono fun a w z => ?_
          by_cases ea : a = p
          · subst ea
            rw [upd_same] at z; cases z
            show (if L a then H a else G a) = some _
            rw [if_pos ⟨i, f, o, lookOnly_mem fn.chg i rs 0 j (by rw [Nat.zero_add]; exact hch) hr, ho, p1⟩]
            exact hu
          · rw [upd_ne ea] at z
            exact sGG0 a w z
    · have hj : j < rs.length := by rw [← hal]; exact get_lt e
      have hr : rs[j]? = some rs[j] := by simp [hj]
      obtain ⟨v, hv, av⟩ := paired_get ha hr
      obtain ⟨q1, q2⟩ := has2 j _ hr
      rw [Nat.zero_add] at q1 q2
      cases hch : fn.chg.contains j with
      | false =>
        obtain ⟨d', h1, h2⟩ := q2 hch
        rw [e] at h2; cases h2
      | true =>
        obtain ⟨i, o1, f1, h1, h2, h3, h4⟩ := q1 hch
        rw [e] at h4; cases h4
        rw [h1] at av hr
        obtain ⟨p, p1, p2, p3, p4, _⟩ := r.own i f1 o h2
        have ev : v = .ref p := by
          have av : σ[i]? = some (some v) := av
          rw [p1] at av; simpa using av.symm
        subst ev
        have hd : Hd p := ⟨j, i, f1, o, hch, hr, h2, p1⟩
        refine ⟨p, by rw [List.getElem?_map, hv]; rfl, hdG0 p hd, ?_, p4.mono sGG0 (fun _ z => z), fun _ => ⟨none, ?_⟩, fun z => by rcases z with z | z <;> cases z⟩
        · show (if G0 p ≠ none ∨ Hd p then none else H p) = none
          rw [if_pos (.inr hd)]
        · show (match vs[j]? with
            | some (.ref p) => some (p, none)
            | _ => none) = some (p, none)
          rw [hv]
    · have key : ∀ (j : Nat) (f : Fl) (o : Ob), as[j]? = some (.own f o) → (vs.map some)[j]? = some (some (.ref p)) → ∃ i f' o', fn.chg.contains j = true ∧ rs[j]? = some (.ref i) ∧ ρ[i]? = some (.own f' o') ∧ σ[i]? = some (some (.ref p)) := fun j f o e pe => by
        have hj : j < rs.length := by rw [← hal]; exact get_lt e
        have hr : rs[j]? = some rs[j] := by simp [hj]
        obtain ⟨v, hv, av⟩ := paired_get ha hr
        obtain ⟨q1, q2⟩ := has2 j _ hr
        rw [Nat.zero_add] at q1 q2
        cases hch : fn.chg.contains j with
        | false =>
          obtain ⟨d', h1, h2⟩ := q2 hch
          rw [e] at h2; cases h2
        | true =>
          obtain ⟨i, o1, f1, h1, h2, h3, h4⟩ := q1 hch
          rw [h1] at av hr
          rw [List.getElem?_map, hv] at pe
          have ev : v = .ref p := by simpa using pe
          subst ev
          exact ⟨i, f1, o1, rfl, hr, h2, av⟩
      obtain ⟨i1, f1, o1, c1, r1, w1, s1⟩ := key j f o e1 p1
      obtain ⟨i2, f2, o2, c2, r2, w2, s2⟩ := key k f' o' e2 p2
      have ei := r.inj i1 i2 f1 f2 o1 o2 p w1 w2 s1 s2
      subst ei
      exact apart_spec hap r1 r2 c1
  refine ⟨by rw [← hvl]; exact hlen, M0, R0, G0, as, relC, ?_⟩
  have back : ∀ (outs ρ1 : En) (G' G2 H' : Hp), Same G0 G' → Rel K M0 R0 G' outs (vs.map some) H' → putBack fn.chg 0 rs outs ρ = some ρ1 →
      ∀ ρ2 : En, ρ2.length = ρ1.length → (∀ (i : Nat) (f : Fl) (o : Ob), ρ2[i]? = some (.own f o) → ρ1[i]? = some (.own f o)) → (∀ (i : Nat) (d : D), ρ2[i]? = some (.dat d) → ρ1[i]? = some (.dat d) ∨ ∃ (f : Fl) (o : Ob) (a : Addr), ρ[i]? = some (.own f o) ∧ ρ1[i]? = some (.own f o) ∧ σ[i]? = some (some (.ref a)) ∧ d = o.toD ∧ L a ∧ G2 = G') →
      Same G G2 → Same G2 G' → (∀ (i : Nat) (f : Fl) (o : Ob) (a : Addr), ρ2[i]? = some (.own f o) → σ[i]? = some (some (.ref a)) → L a → G2 a = none) → (∀ (a : Hp) (p : Addr) (o : Ob), ObAt K G' a p o → (∃ s ∈ outs, ∃ f, s = Sl.own f o) → ObAt K G2 a p o) → Rel K M R G2 ρ2 σ H' := by
    intro outs ρ1 G' G2 H' sG rc hpb ρ2 hl2 ho2 hd2 s1 s2 hLn hdr
    obtain ⟨hl1, hpb2⟩ := putBack_spec fn.chg rs 0 outs ρ ρ1 hpb
    have r0 : ∀ a u, H a = some u → G0 a = none → ¬ Hd a → R0 a = some u := fun a u h1 h2 h3 => by
      show (if G0 a ≠ none ∨ Hd a then none else H a) = some u
      rw [if_neg]
      · exact h1
      · intro z
        rcases z with z | z
        · exact z h2
        · exact h3 z
    have gNone : ∀ a, G' a = none → G2 a = none := fun a z => none_of s2 z
    have own1 : ∀ (i : Nat) (f : Fl) (o : Ob), ρ1[i]? = some (.own f o) → ∃ o', ρ[i]? = some (.own f o') := fun i f o e => by
      rcases hpb2 i with ⟨q, _⟩ | ⟨j, f1, f2, o1, o2, _, _, q3, _, q5⟩
      · rw [e] at q; exact ⟨o, q.symm⟩
      · rw [e] at q5; cases q5; exact ⟨o1, q3⟩
    refine ⟨by rw [hl2, hl1]; exact r.len, s2.trans rc.fz, fun a u e => ?_, fun a u e => ?_, fun i d e => ?_, fun i f o e => ?_, fun i k f f' o o' p e1 e2 => ?_⟩
    ·
      have hg : G a = none := r.dj a u e
      have hnL : ¬ L a := fun z => by rw [(hL a z).2.1] at e; cases e
      have hnH : ¬ Hd a := fun z => by rw [(hHd a z).2.1] at e; cases e
      have g0 : G0 a = none := by
        show (if L a then H a else G a) = none
        rw [if_neg hnL]; exact hg
      exact rc.rs a u (r0 a u (r.rs a u e) g0 hnH)
    · have hg : G a = none := r.dj a u e
      have hnL : ¬ L a := fun z => by rw [(hL a z).2.1] at e; cases e
      have hnH : ¬ Hd a := fun z => by rw [(hHd a z).2.1] at e; cases e
      have g0 : G0 a = none := by
        show (if L a then H a else G a) = none
        rw [if_neg hnL]; exact hg
      exact gNone a (rc.dj a u (r0 a u (r.rs a u e) g0 hnH))
    · rcases hd2 i d e with e | ⟨f, o, a, q1, q2, q3, rfl, q5, q6⟩
      · rcases hpb2 i with ⟨q, _⟩ | ⟨j, f1, f2, o1, o2, _, _, q3, _, q5⟩
        · rw [e] at q
          obtain ⟨v, v1, v2⟩ := r.dat i d q.symm
          exact ⟨v, v1, v2.mono s1⟩
        · rw [e] at q5; cases q5
      · refine ⟨.ref a, q3, ?_⟩
        obtain ⟨w1, w2, w3⟩ := ownAt i f o a q1 q3
        obtain ⟨u, hu, hdd, _⟩ := w3.dat w1
        rw [q6]
        refine hdd.mono fun b w z => ?_
        by_cases eb : b = a
        · subst eb
          rw [upd_same] at z; cases z
          refine sG b _ ?_
          show (if L b then H b else G b) = some _
          rw [if_pos q5]; exact hu
        · rw [upd_ne eb] at z
          exact sG b w (sGG0 b w z)
    · have e1 := ho2 i f o e
      rcases hpb2 i with ⟨q, qn⟩ | ⟨j, f1, f2, o1, o2, c1, c2, q3, q4, q5⟩
      · rw [e1] at q
        obtain ⟨p, p1, p2, p3, p4, p5⟩ := r.own i f o q.symm
        have hnH : ¬ Hd p := fun ⟨j, i', f', o', z1, z2, z3, z4⟩ => by
          have ei := r.inj i i' f f' o o' p q.symm z3 p1 z4
          subst ei
          exact qn j (by rw [Nat.zero_add]; exact z1) z2
        obtain ⟨u, hu⟩ := p4.ex
        by_cases hl : L p
        · refine ⟨p, p1, hLn i f o p e p1 hl, p3, p4.mono s1 (fun w hw => ?_), p5⟩
          refine rc.fz p w (sG p w ?_)
          show (if L p then H p else G p) = some w
          rw [if_pos hl]; exact hw
        · have g0 : G0 p = none := by
            show (if L p then H p else G p) = none
            rw [if_neg hl]; exact p2
          have k0 := r0 p u hu g0 hnH
          refine ⟨p, p1, gNone p (rc.dj p u k0), p3, p4.mono s1 (fun w hw => ?_), p5⟩
          exact rc.rs p w (r0 p w hw g0 hnH)
      · rw [e1] at q5; cases q5
        obtain ⟨p, p1, p2, p3, p4, p5⟩ := r.own i _ o1 q3
        obtain ⟨a, a1, a2, a3, a4, _⟩ := rc.own j f2 o q4
        obtain ⟨v, hv, av⟩ := paired_get ha c2
        have av : σ[i]? = some (some v) := av
        rw [List.getElem?_map, hv] at a1
        have ev : v = .ref a := by simpa using a1
        subst ev
        have ea : p = a := by rw [p1] at av; simpa using av
        subst ea
        have hlp : f = .loc ∨ f = .par := by
          obtain ⟨i', o'', f'', g1, g2, g3, _⟩ := (has2 j _ c2).1 c1
          have ei : i = i' := Rv.ref.inj g1
          subst ei
          rw [q3] at g2; cases g2
          exact g3
        exact ⟨p, p1, gNone p a2, p3, hdr H' p o a4 ⟨_, List.mem_of_getElem? q4, f2, rfl⟩, p5.1, fun z => by rcases hlp with y | y <;> rcases z with z | z <;> (rw [y] at z; cases z)⟩
    · obtain ⟨o1, q1⟩ := own1 i f o (ho2 i f o e1)
      obtain ⟨o2, q2⟩ := own1 k f' o' (ho2 k f' o' e2)
      exact r.inj i k f f' o1 o2 p q1 q2
  have noL2 : ∀ {G' H' : Hp}, Same G0 G' → ∀ {R' : Hp}, NoL G' (fun a => if L a then none else G' a) := fun {G' H'} sG {R'} a u e => by
    by_cases hl : L a
    · obtain ⟨_, _, u0, hx, hk⟩ := hL a hl
      have : G0 a = some u0 := by
        show (if L a then H a else G a) = _
        rw [if_pos hl]; exact hx
      rw [sG a _ this] at e; cases e
      exact .inr hk
    · refine .inl ?_
      show (if L a then none else G' a) = some u
      rw [if_neg hl]; exact e
  have endA : ∀ (outs ρ1 : En) (G' H' : Hp), Same G0 G' → Rel K M0 R0 G' outs (vs.map some) H' → putBack fn.chg 0 rs outs ρ = some ρ1 → outs.all Sl.calm = true →
      Same G (fun a => if L a then none else G' a) ∧ Rel K M R (fun a => if L a then none else G' a) ρ1 σ H' := by
    intro outs ρ1 G' H' sG rc hpb hcl
    have s1 : Same G (fun a => if L a then none else G' a) := fun a u e => by
      show (if L a then none else G' a) = some u
      rw [if_neg (fun z => by rw [(hL a z).1] at e; cases e)]
      exact sG a u (sGG0 a u e)
    refine ⟨s1, back outs ρ1 G' _ H' sG rc hpb ρ1 rfl (fun _ _ _ e => e) (fun _ _ e => .inl e) s1 (fun a u e => ?_) (fun i f o a _ _ hl => if_pos hl) (fun Hh p o h ⟨s, hs, f, es⟩ => ?_)⟩
    · have e : (if L a then none else G' a) = some u := e
      split at e
      · cases e
      · exact e
    · have := List.all_eq_true.mp hcl s hs
      rw [es] at this
      exact Ob.calm_drop (noL2 (H' := H') (R' := R0) sG) h this
  have endB : ∀ (outs ρ1 ρ2 : En) (G' H' : Hp), Same G0 G' → Rel K M0 R0 G' outs (vs.map some) H' → putBack fn.chg 0 rs outs ρ = some ρ1 → frz (lookOnly fn.chg 0 rs) ρ1 = some ρ2 → Rel K M R G' ρ2 σ H' := by
    intro outs ρ1 ρ2 G' H' sG rc hpb hfr
    obtain ⟨hl2, hf2⟩ := frz_spec _ ρ1 ρ2 hfr
    obtain ⟨hl1, hpb2⟩ := putBack_spec fn.chg rs 0 outs ρ ρ1 hpb
    refine back outs ρ1 G' G' H' sG rc hpb ρ2 hl2 (fun i f o e => ?_) (fun i d e => ?_) (sGG0.trans sG) (Same.refl _) (fun i f o a e1 e2 hl => ?_) (fun _ _ _ h _ => h)
    · rcases hf2 i with ⟨_, o', _, q⟩ | ⟨q, _⟩
      · rw [e] at q; cases q
      · rw [e] at q; exact q.symm
    · rcases hf2 i with ⟨m, o', q1, q2⟩ | ⟨q, _⟩
      · rw [e] at q2; cases q2
        rcases hpb2 i with ⟨q, qn⟩ | ⟨j, f1, f2, o1, o2, c1, c2, q3, q4, q5⟩
        · rw [q1] at q
          obtain ⟨p, p1, _⟩ := r.own i .loc o' q.symm
          exact .inr ⟨.loc, o', p, q.symm, q1, p1, rfl, ⟨i, .loc, o', m, q.symm, p1⟩, rfl⟩
        · obtain ⟨k, k1, k2⟩ := mem_lookOnly fn.chg i rs 0 m
          rw [Nat.zero_add] at k1 c1
          have := apart_spec hap c2 k2 c1
          subst this
          rw [c1] at k1; cases k1
      · rw [e] at q; exact .inl q.symm
    · obtain ⟨i', f', o', m, w1, w2⟩ := hl
      have e1' : ρ1[i]? = some (.own f o) := by
        rcases hf2 i with ⟨_, o', _, q⟩ | ⟨q, _⟩
        · rw [e1] at q; cases q
        · rw [e1] at q; exact q.symm
      have eo : ∃ o'', ρ[i]? = some (.own f o'') := by
        rcases hpb2 i with ⟨q, _⟩ | ⟨j, f1, f2, o1, o2, _, _, q3, _, q5⟩
        · rw [e1'] at q; exact ⟨o, q.symm⟩
        · rw [e1'] at q5; cases q5; exact ⟨o1, q3⟩
      obtain ⟨o'', eo⟩ := eo
      have ei := r.inj i i' f f' o'' o' a eo w1 e2 w2
      subst ei
      rcases hf2 i with ⟨_, o3, _, q⟩ | ⟨_, q⟩
      · rw [e1] at q; cases q
      · exact absurd e1' (q m f o)
  cases hsem : fn.sem as with
  | no => rw [hsem] at h; exact h.elim
  | ok rv outs =>
    rw [hsem] at h
    intro G' H' v sG rc hv
    by_cases hrf : rv.isRef = true
    · simp only [hrf, if_true] at h; exact h.elim
    simp only [hrf, if_false] at h
    cases hpb : putBack fn.chg 0 rs outs ρ with
    | none => simp only [hpb] at h; exact h.elim
    | some ρ1 =>
    simp only [hpb] at h
    have nown : ∀ (ρ2 : En), (∀ (i : Nat) (f : Fl) (o : Ob), ρ2[i]? = some (.own f o) → ∃ o', ρ1[i]? = some (.own f o')) → ∀ p, G' p = none → R0 p = none → Nown outs (vs.map some) p → R p = none ∧ Nown ρ2 σ p := fun ρ2 hsub p g1 g2 g3 => by
      obtain ⟨hl1, hpb2⟩ := putBack_spec fn.chg rs 0 outs ρ ρ1 hpb
      have g0 : G0 p = none := none_of sG g1
      have hnL : ¬ L p := fun z => by
        obtain ⟨_, _, xs, hx, _⟩ := hL p z
        have : G0 p = some xs := by
          show (if L p then H p else G p) = _
          rw [if_pos z]; exact hx
        rw [g0] at this; cases this
      have noH : ∀ u, H p = some u → Hd p := fun u hu => by
        have q : (if G0 p ≠ none ∨ Hd p then none else H p) = none := g2
        by_cases z : Hd p
        · exact z
        · rw [if_neg (fun y => by rcases y with y | y; exact y g0; exact z y), hu] at q; cases q
      refine ⟨?_, fun i f o e es => ?_⟩
      · cases q : R p with
        | none => rfl
        | some u =>
          have := (hHd p (noH u (r.rs p u q))).2.1
          rw [q] at this; cases this
      · obtain ⟨o', e'⟩ := hsub i f o e
        rcases hpb2 i with ⟨q, qn⟩ | ⟨j, f1, f2, o1, o2, c1, c2, q3, q4, q5⟩
        · rw [e'] at q
          obtain ⟨a, a1, a2, a3, a4, _⟩ := r.own i f o' q.symm
          have ea : a = p := by rw [es] at a1; simpa using a1.symm
          subst ea
          obtain ⟨u, hu⟩ := a4.ex
          obtain ⟨j, i', f', o'', z1, z2, z3, z4⟩ := noH u hu
          have ei := r.inj i i' f f' o' o'' a q.symm z3 es z4
          subst ei
          exact qn j (by rw [Nat.zero_add]; exact z1) z2
        · obtain ⟨v', hv', av⟩ := paired_get ha c2
          have av : σ[i]? = some (some v') := av
          rw [es] at av
          have ev : v' = .ref p := by simpa using av.symm
          subst ev
          exact g3 j f2 o2 q4 (by rw [List.getElem?_map, hv']; rfl)
    by_cases hcl : (rv.calm && outs.all Sl.calm) = true
    · rw [if_pos hcl] at h
      obtain ⟨c1, c2⟩ := ba2 hcl
      obtain ⟨s1, rel1⟩ := endA outs ρ1 G' H' sG rc hpb c2
      refine h _ H' v s1 rel1 ?_
      cases rv with
      | dat d => exact Dat.drop (noL2 (H' := H') (R' := R0) sG) hv c1
      | new o =>
        obtain ⟨p, rfl, p1, p2, p3, p4⟩ := hv
        obtain ⟨n1, n2⟩ := nown ρ1 (fun i f o e => ⟨o, e⟩) p p1 p2 p3
        refine ⟨p, rfl, ?_, n1, n2, Ob.calm_drop (noL2 (H' := H') (R' := R0) sG) p4 c1⟩
        show (if L p then none else G' p) = none
        split
        · rfl
        · exact p1
      | ref i => cases c1
    · rw [if_neg hcl] at h
      cases hfr : frz (lookOnly fn.chg 0 rs) ρ1 with
      | none => simp only [hfr] at h; exact h.elim
      | some ρ2 =>
      simp only [hfr] at h
      have rel2 := endB outs ρ1 ρ2 G' H' sG rc hpb hfr
      obtain ⟨_, hf2⟩ := frz_spec _ ρ1 ρ2 hfr
      cases rv with
      | dat d => exact h G' H' v (sGG0.trans sG) rel2 hv
      | new o =>
        obtain ⟨p, rfl, p1, p2, p3, p4⟩ := hv
        obtain ⟨n1, n2⟩ := nown ρ2 (fun i f o e => by
          rcases hf2 i with ⟨_, o', _, q⟩ | ⟨q, _⟩
          · rw [e] at q; cases q
          · rw [e] at q; exact ⟨o, q.symm⟩) p p1 p2 p3
        exact h G' H' _ (sGG0.trans sG) rel2 ⟨p, rfl, p1, n1, n2, p4⟩
      | ref i => exact absurd rfl hrf
  | ex c d outs =>
    rw [hsem] at h
    intro G' H' dd v sG rc hdd hv
    cases hpb : putBack fn.chg 0 rs outs ρ with
    | none => simp only [hpb] at h; exact h.elim
    | some ρ1 =>
    simp only [hpb] at h
    by_cases hcl : (noLst d && outs.all Sl.calm) = true
    · rw [if_pos hcl] at h
      obtain ⟨c1, c2⟩ := ba2 hcl
      obtain ⟨s1, rel1⟩ := endA outs ρ1 G' H' sG rc hpb c2
      exact h _ H' dd v s1 rel1 hdd (Dat.drop (noL2 (H' := H') (R' := R0) sG) hv c1)
    · rw [if_neg hcl] at h
      cases hfr : frz (lookOnly fn.chg 0 rs) ρ1 with
      | none => simp only [hfr] at h; exact h.elim
      | some ρ2 =>
      simp only [hfr] at h
      exact h G' H' dd v (sGG0.trans sG) (endB outs ρ1 ρ2 G' H' sG rc hpb hfr) hdd hv
end
end Vi
set_option maxHeartbeats 4000000
namespace Vi
open PySem PySem.Spec PyProof.Rows L2
structure Cc where
  N : List Str
  sc : Scope
  so : List (Str × NameKind)
  fns : List (Str × List Str)
  kws : List (Nat × Nat × List Str × List Nat)
  gls : List Str
  bis : List String
  gcd : Bool
  exs : List Str
def visB (sc : Scope) (x : Str) : Bool := match sc.names.lookup x with
  | some .local => true
  | some .cell => true
  | some .free => true
  | _ => false
def gloB (sc : Scope) (x : Str) : Bool := match sc.names.lookup x with
  | some .globalImplicit => true
  | _ => false
def stoB (so : List (Str × NameKind)) (x : Str) : Bool := match so.lookup x with
  | some .local => true
  | some .cell => true
  | _ => false
def okName (x : Str) : Bool := !(x == ("__debug__" : Str)) && !(x == ("__classdict__" : Str))
def isStar : Expr → Bool
  | .Starred .. => true
  | _ => false
def isSlice : Expr → Bool
  | .Slice .. => true
  | _ => false
def isComp : Expr → Bool
  | .ListComp .. => true
  | .SetComp .. => true
  | .DictComp .. => true
  | _ => false
def isSet : Expr → Bool
  | .Set .. => true
  | _ => false
def isSuper : Expr → Bool
  | .Call .. => true
  | _ => false
def isOp : Bop → Operator → Bool
  | .add, .Add => true
  | .sub, .Sub => true
  | .mul, .Mult => true
  | .fdiv, .FloorDiv => true
  | .mod, .Mod => true
  | .pow, .Pow => true
  | _, _ => false
def isCop : Cop → CmpOp → Bool
  | .eq, .Eq => true
  | .ne, .NotEq => true
  | .lt, .Lt => true
  | .le, .LtE => true
  | .gt, .Gt => true
  | .ge, .GtE => true
  | .is, .Is => true
  | .isn, .IsNot => true
  | .isin, .In => true
  | .nin, .NotIn => true
  | _, _ => false
def conB : D → Const → Bool
  | .int i, .int j => decide (i = j)
  | .bool i, .bool j => decide (i = j)
  | .str i, .str j => decide (i = j)
  | .none, .none => true
  | _, _ => false
def Bi.pyn : Bi → String
  | .gcd => "gcd"
  | b => b.nm
def tyB (c : Cc) (t : Ty) : Expr → Bool
  | .Name x _ => decide (x = (t.nm : Str)) && gloB c.sc x && c.bis.contains t.nm
  | _ => false
def tysB (c : Cc) : List Ty → List Expr → Bool
  | [], [] => true
  | t :: ts, e :: es => tyB c t e && !isStar e && tysB c ts es
  | _, _ => false
mutual
def tgIx : Tg → List Nat
  | .nm i => [i]
  | .tp ts => tgIxs ts
def tgIxs : List Tg → List Nat
  | [] => []
  | t :: ts => tgIx t ++ tgIxs ts
end
mutual
def chkTg (N : List Str) (so : List (Str × NameKind)) (t : Tg) (e : Expr) : Bool := match t with
  | .nm i => (match e with
    | .Name x _ => decide (N[i]? = some x) && stoB so x
    | _ => false)
  | .tp ts => (match e with
    | .Tuple es _ _ => chkTgs N so ts es
    | _ => false)
termination_by structural t
def chkTgs (N : List Str) (so : List (Str × NameKind)) (ts : List Tg) (es : List Expr) : Bool := match ts with
  | [] => (match es with
    | [] => true
    | _ => false)
  | t :: ts => (match es with
    | e :: es => !isStar e && chkTg N so t e && chkTgs N so ts es
    | [] => false)
termination_by structural ts
end
def isTp : Tg → Bool
  | .tp _ => true
  | _ => false
def itTp : It → Bool
  | .zip _ _ => true
  | .enum _ => true
  | _ => false
def tpOk (it : It) (tg : Tg) : Bool := !itTp it || isTp tg
def ownN (N : List Str) (ow : List Nat) : List (Str × Nat) := ow.map fun i => (N.getD i Str.empty, i)
def fnB (c : Cc) (f : Nat) (x : Str) (n : Nat) : Bool := match c.fns[f]? with
  | some (y, ps) => decide (x = y) && decide (n = ps.length)
  | none => false
def biB (c : Cc) (b : Bi) : Bool := match b with
  | .gcd => c.gcd
  | b => c.bis.contains b.pyn
def restB (op : BoolOp) (y : Expr) (r : List Expr) (p : Pos) : Expr := match r with
  | [] => y
  | _ => .BoolOp op (y :: r) p
def isAnd : BoolOp → Bool
  | .And => true
  | .Or => false
mutual
def chkE (c : Cc) (t : Tm) (e : Expr) : Bool := match t with
  | .var i => (match e with
    | .Name x _ => decide (c.N[i]? = some x) && visB c.sc x && okName x
    | _ => false)
  | .con d => (match e with
    | .Constant k _ _ => conB d k
    | _ => false)
  | .glo j => (match e with
    | .Name x _ => decide (c.gls[j]? = some x) && gloB c.sc x && okName x
    | _ => false)
  | .bin op a b => (match e with
    | .BinOp ea o eb _ => isOp op o && chkE c a ea && chkE c b eb
    | _ => false)
  | .neg a => (match e with
    | .UnaryOp .USub ea _ => chkE c a ea
    | _ => false)
  | .not a => (match e with
    | .UnaryOp .Not ea _ => chkE c a ea
    | _ => false)
  | .and a b => (match e with
    | .BoolOp .And (x :: y :: r) p => chkE c a x && chkE c b (restB .And y r p)
    | _ => false)
  | .or a b => (match e with
    | .BoolOp .Or (x :: y :: r) p => chkE c a x && chkE c b (restB .Or y r p)
    | _ => false)
  | .ite k a b => (match e with
    | .IfExp ek ea eb _ => chkE c k ek && chkE c a ea && chkE c b eb
    | _ => false)
  | .cmp op a b => (match e with
    | .Compare ea [o] [eb] _ => isCop op o && chkE c a ea && chkE c b eb && !behindInMarks o eb
    | _ => false)
  | .chn o1 o2 a b d => (match e with
    | .Compare ea [p1, p2] [eb, ed] _ => isCop o1 p1 && isCop o2 p2 && chkE c a ea && chkE c b eb && chkE c d ed && !behindInMarks p2 ed
    | _ => false)
  | .call f as => (match e with
    | .Call (.Name x _) es [] _ => fnB c f x as.length && gloB c.sc x && okName x && chkAs c as es
    | _ => false)
  | .callk f n perm as bs => (match e with
    | .Call (.Name x _) es kws _ => fnB c f x n && gloB c.sc x && okName x && kws.all (fun k => k.arg.isSome) && decide ((f, es.length, kws.filterMap (·.arg), perm) ∈ c.kws) && chkAs c as es && chkAs c bs (kws.map (·.value))
    | _ => false)
  | .call1 f a => (match e with
    | .Call (.Name x _) [e] [] _ => fnB c f x 1 && gloB c.sc x && okName x && chkE c a e && !isStar e
    | _ => false)
  | .bi b as => (match e with
    | .Call (.Name x _) (e :: es) [] _ => decide (x = (b.pyn : Str)) && gloB c.sc x && biB c b && chkAs c as (e :: es)
    | _ => false)
  | .isi a ts => (match e with
    | .Call (.Name x _) [ea, et] [] _ => decide (x = ("isinstance" : Str)) && gloB c.sc x && c.bis.contains "isinstance" && chkE c a ea && !isStar ea && (match et with
      | .Name y p => (match ts with
        | [t] => tyB c t (.Name y p)
        | _ => false)
      | .Tuple es _ _ => tysB c ts es && lenOk ts.length
      | _ => false)
    | _ => false)
  | .mth m a as => (match e with
    | .Call (.Attribute ea x p) [e] [] q => (match m with
      | .count => decide (x = ("count" : Str))
      | .index => decide (x = ("index" : Str))) && chkE c a ea && chkAs c as [e] && !isSuper ea && p.endLine == q.line
    | _ => false)
  | .app i a => (match e with
    | .Call (.Attribute (.Name x _) m p) [e] [] q => decide (m = ("append" : Str)) && decide (c.N[i]? = some x) && visB c.sc x && okName x && chkE c a e && !isStar e && p.endLine == q.line
    | _ => false)
  | .ext i a => (match e with
    | .Call (.Attribute (.Name x _) m p) [e] [] q => decide (m = ("extend" : Str)) && decide (c.N[i]? = some x) && visB c.sc x && okName x && chkE c a e && !isStar e && p.endLine == q.line
    | _ => false)
  | .rvs i => (match e with
    | .Call (.Attribute (.Name x _) m p) [] [] q => decide (m = ("reverse" : Str)) && decide (c.N[i]? = some x) && visB c.sc x && okName x && p.endLine == q.line
    | _ => false)
  | .idx a i => (match e with
    | .Subscript ea ei _ => chkE c a ea && chkE c i ei && !isSlice ei
    | _ => false)
  | .slc a lo hi => (match e with
    | .Subscript ea (.Slice l h none _) _ => chkE c a ea && chkO c lo l && chkO c hi h
    | _ => false)
  | .rev a => (match e with
    | .Subscript ea (.Slice none none (some (.UnaryOp .USub (.Constant k _ _) _)) _) _ => chkE c a ea && conB (.int 1) k
    | _ => false)
  | .sset a => (match e with
    | .Call (.Name x _) [.Call (.Name y _) [e1] [] _] [] _ => decide (x = ("sorted" : Str)) && decide (y = ("set" : Str)) && gloB c.sc x && gloB c.sc y && c.bis.contains "sorted" && c.bis.contains "set" && chkE c a e1 && !isStar e1
    | _ => false)
  | .tup as => (match e with
    | .Tuple es _ _ => chkAs c as es
    | _ => false)
  | .lst as => (match e with
    | .List es _ => chkAs c as es
    | _ => false)
  | .dct => (match e with
    | .Dict [] [] _ => true
    | _ => false)
  | .dct1 k' v' => (match e with
    | .Dict [some a] [b] _ => chkE c k' a && chkE c v' b
    | _ => false)
  | .lc it tg ow k e' => (match e with
    | .ListComp ee [⟨et, ei, ifs, 0⟩] scope _ => chkI c it ei && tpOk it tg && !isSet ei && blkC c.N c.sc scope (ownN c.N ow) && chkTg c.N scope.names tg et &&
      chkC { c with sc := relS scope c.sc, so := scope.names } k ifs && chkE { c with sc := relS scope c.sc, so := scope.names } e' ee && decide (ow.Nodup) && (tgIx tg).all ow.contains
    | _ => false)
  | .lc2 it tg c0 it1 tg1 ow ow1 k e' => (match e with
    | .ListComp ee [⟨et, ei, ifs, 0⟩, ⟨et1, ei1, ifs1, 0⟩] scope _ => chkI c it ei && tpOk it tg && !isSet ei && blkC c.N c.sc scope (ownN c.N ow) && chkTg c.N scope.names tg et &&
      chkC { c with sc := relS scope c.sc, so := scope.names } c0 ifs && chkI { c with sc := relS scope c.sc, so := scope.names } it1 ei1 && tpOk it1 tg1 && !isSet ei1 && chkTg c.N scope.names tg1 et1 &&
      chkC { c with sc := relS scope c.sc, so := scope.names } k ifs1 && chkE { c with sc := relS scope c.sc, so := scope.names } e' ee && decide (ow.Nodup) && (tgIx tg).all ow.contains && (tgIx tg1).all ow1.contains && ow1.all ow.contains
    | _ => false)
  | .bot => true
termination_by structural t
def chkO (c : Cc) (t : Option Tm) (e : Option Expr) : Bool := match t with
  | none => (match e with
    | none => true
    | _ => false)
  | some a => (match e with
    | some e => chkE c a e
    | _ => false)
termination_by structural t
def chkC (c : Cc) (t : Option Tm) (e : List Expr) : Bool := match t with
  | none => (match e with
    | [] => true
    | _ => false)
  | some a => (match e with
    | [e] => chkE c a e
    | _ => false)
termination_by structural t
def chkAs (c : Cc) (t : List Tm) (e : List Expr) : Bool := match t with
  | [] => (match e with
    | [] => true
    | _ => false)
  | a :: as => (match e with
    | e :: es => chkE c a e && !isStar e && chkAs c as es
    | _ => false)
termination_by structural t
def chkI (c : Cc) (t : It) (e : Expr) : Bool := match t with
  | .rng1 a => (match e with
    | .Call (.Name x _) [e] [] _ => decide (x = ("range" : Str)) && gloB c.sc x && c.bis.contains "range" && chkE c a e && !isStar e
    | _ => false)
  | .rng2 a b => (match e with
    | .Call (.Name x _) [e, g] [] _ => decide (x = ("range" : Str)) && gloB c.sc x && c.bis.contains "range" && chkE c a e && !isStar e && chkE c b g && !isStar g
    | _ => false)
  | .seq a => chkE c a e
  | .zip a b => (match e with
    | .Call (.Name x _) [e, g] [] _ => decide (x = ("zip" : Str)) && gloB c.sc x && c.bis.contains "zip" && chkE c a e && !isStar e && chkE c b g && !isStar g
    | _ => false)
  | .enum a => (match e with
    | .Call (.Name x _) [e] [] _ => decide (x = ("enumerate" : Str)) && gloB c.sc x && c.bis.contains "enumerate" && chkE c a e && !isStar e
    | _ => false)
termination_by structural t
end
def swK (sc : Scope) (v : Expr) (y : Str) (py : Pos) : Nat := match v with
  | .ListComp _ _ scope pos => (match sc.names.lookup y with
    | some .local => if (py.line == pos.line) && !(scope.names.any fun (n, k) => n == y && (k == .local || k == .cell)) then 2 else 0
    | _ => 0)
  | .SetComp .. => 0
  | .DictComp .. => 0
  | _ => 1
def swP (sc : Scope) (ts vs : List Expr) : Option (Option (List Str)) :=
  if !(ts.length == 2 || ts.length == 3) || vs.length != ts.length then some none
  else if vs.any isStar then some none
  else
    let line := (ts.head?.map (·.pos.line)).getD 0
    let names := ts.filterMap fun
      | .Name id pos => if sc.names.lookup id == some .local && pos.line == line then some id else none
      | _ => none
    if names.length != ts.length || names.eraseDups.length != names.length then some none
    else if vs.all (foldedForSure 8) then some none
    else if vs.all (constantsAlone 8) then none
    else some (some names)
def isLc : Tm → Bool
  | .lc .. => true
  | _ => false
def locB (sc : Scope) (x : Str) : Bool := match sc.names.lookup x with
  | some .local => true
  | _ => false
def nameB (c : Cc) (i : Nat) : Expr → Option Str
  | .Name x _ => if decide (c.N[i]? = some x) && locB c.sc x then some x else none
  | _ => none
def isTup : Expr → Bool
  | .Tuple .. => true
  | _ => false
def parB (c : Cc) (is : List Nat) (ts : List Expr) : Bool := match is with
  | [] => (match ts with
    | [] => true
    | _ => false)
  | i :: is => (match ts with
    | t :: ts => (nameB c i t).isSome && parB c is ts
    | _ => false)
mutual
def chkS (c : Cc) (s : Sm) (st : Stmt) : Bool := match s with
  | .asg t e => (match st with
    | .Assign [tg] v _ => (match t with
      | .nm i => (match tg with
        | .Name x p => decide (c.N[i]? = some x) && stoB c.so x && chkE c e v && (swK c.sc v x p == 1 || (swK c.sc v x p == 2 && isLc e))
        | _ => false)
      | .tp ts => (match tg with
        | .Tuple es k p => chkTg c.N c.so (.tp ts) (.Tuple es k p) && chkE c e v && (match v with
          | .Tuple vs _ _ => decide (swP c.sc es vs = some none)
          | _ => true)
        | _ => false))
    | _ => false)
  | .par is as => (match st with
    | .Assign [.Tuple ts _ _] (.Tuple vs _ _) _ => (match is with
      | [i, j] => (match ts with
        | [.Name x px, .Name y py] => decide (c.N[i]? = some x) && decide (c.N[j]? = some y) && locB c.sc x && locB c.sc y && decide (i ≠ j) && chkAs c as vs && decide (vs.length = 2) && decide (swP c.sc ts vs = some (some [x, y]))
        | _ => false)
      | [i, j, l] => (match ts with
        | [.Name x px, .Name y py, .Name z pz] => decide (c.N[i]? = some x) && decide (c.N[j]? = some y) && decide (c.N[l]? = some z) && locB c.sc x && locB c.sc y && locB c.sc z && decide (i ≠ j) && decide (i ≠ l) && decide (j ≠ l) && chkAs c as vs && decide (vs.length = 3) && decide (swP c.sc ts vs = some (some [x, y, z]))
        | _ => false)
      | _ => false)
    | _ => false)
  | .sub x k e => (match st with
    | .Assign [.Subscript (.Name y _) ek _] v _ => decide (c.N[x]? = some y) && visB c.sc y && okName y && chkE c k ek && chkE c e v && !isSlice ek
    | _ => false)
  | .exp e => (match st with
    | .Expr v _ => chkE c e v && !isComp v
    | _ => false)
  | .ret e => (match st with
    | .Return (some v) _ => chkE c e v
    | _ => false)
  | .retn => (match st with
    | .Return none _ => true
    | _ => false)
  | .iff k a b => (match st with
    | .If t u v _ => chkE c k t && chkB c a u && chkB c b v
    | _ => false)
  | .for it tg b => (match st with
    | .For t i u [] _ => chkI c it i && tpOk it tg && !isSet i && chkTg c.N c.so tg t && chkB c b u
    | _ => false)
  | .whl k b => (match st with
    | .While t u [] _ => chkE c k t && chkB c b u
    | _ => false)
  | .brk => (match st with
    | .Break _ => true
    | _ => false)
  | .cnt => (match st with
    | .Continue _ => true
    | _ => false)
  | .pas => (match st with
    | .Pass _ => true
    | _ => false)
  | .rse _ _ => false
  | .nev => true
termination_by structural s
def chkB (c : Cc) (s : List Sm) (st : List Stmt) : Bool := match s with
  | [] => (match st with
    | [] => true
    | _ => false)
  | s :: ss => (match st with
    | st :: sts => chkS c s st && chkB c ss sts
    | _ => false)
termination_by structural s
end
end Vi
set_option maxHeartbeats 4000000
namespace Vi
open PySem PySem.Spec PyProof.Rows L2
section
variable {prog : Program} {w : World} {A : Around} {E : Value → Shared → Prop} {s : Shared}
theorem enum_new1 {v : Value} {o : Obj} {H : Heap → Prop} (B : Begins v o H) :
    Meets (Builtin.«enumerate.__new__» ⟨[.type "enumerate", v], []⟩) (fun _ R s => H s.heap ∧
      R (.ok (.ret (.ref (s.heap.push o).objs.size))) { s with heap := (s.heap.push o).push { cls := .type "enumerate", data := .fields #[.none, .bool false, .ref s.heap.objs.size, rawInt 0, .none, .none] } }) := .of_wp fun prog w A R s h => by
  obtain ⟨hp, gl, dd, tk, os⟩ := s
  obtain ⟨h1, h⟩ := h
  have hsub := sub_enumerate
  have q1 : ∀ {A' : Around} {E : Value → Shared → Prop} {Q : Value → Shared → Prop}, Q (.ref hp.objs.size) ⟨hp.push o, gl, dd, tk, os⟩ → wpAny (model prog w) A' (pyIter v) Q E ⟨hp, gl, dd, tk, os⟩ := fun q => B.iter prog w _ _ ⟨hp, gl, dd, tk, os⟩ _ h1 q
  wp_walk using q1
  refine wpAny_stack_any fun st => wpAny_pure ?_
  split
  · rename_i cc _ _ _ _ _
    cases (cc == Value.type "enumerate") <;> (wp_walk using q1; exact ⟨_, rfl, h⟩)
  · wp_walk using q1
    exact ⟨_, rfl, h⟩
theorem call_enum1 {v : Value} {o : Obj} {H : Heap → Prop} {Q : Value → Shared → Prop} (B : Begins v o H) (h1 : H s.heap)
    (h : ∀ h', IsEnum h' (s.heap.objs.size + 1) s.heap.objs.size 0 .none → h'.get? s.heap.objs.size = some o → h'.objs.size = s.heap.objs.size + 2 → (∀ b o, s.heap.get? b = some o → h'.get? b = some o) → Q (.ref (s.heap.objs.size + 1)) { s with heap := h' }) :
    wpAny (model prog w) A (call (.type "enumerate") [v]) Q E s := by
  refine callType_new F.called_enumerate (by decide) (F.typeCall_enumerate_1 _) (F.newCall_enumerate_1 _) (fun obj => F.args_object_init_2 obj _) F.entry_enumerate_new (enum_new1 B) ⟨h1, ?_⟩
  have hz : (s.heap.push o).objs.size = s.heap.objs.size + 1 := Heap.size_push ..
  show _ ∧ _
  rw [hz]
  have he := Heap.get?_push_size (s.heap.push o) (o := { cls := .type "enumerate", data := .fields #[.none, .bool false, .ref s.heap.objs.size, rawInt 0, .none, .none] }) rfl
  rw [hz] at he
  exact ⟨⟨_, he, rfl⟩, h _ he (Heap.get?_push_of_some _ (Heap.get?_push_size _ B.free)) (by rw [Heap.size_push, hz]) fun b o x => Heap.get?_push_of_some _ (Heap.get?_push_of_some _ x)⟩
end
def IteT (K : PySem.W.Frag) (a : Addr) : L2.It :=
  ⟨fun i H => ∃ (xs : List V) (x : V), SqT K H a xs ∧ xs[i]? = some x, fun i H v H' => ∃ T x, v = .ref T ∧ H T = none ∧ H' = upd H T (.tup [.int (i : Nat), x]) ∧ ∀ xs, SqT K H a xs → xs[i]? = some x, fun i H => ∃ xs : List V, SqT K H a xs ∧ xs.length ≤ i⟩
theorem enum_done {prog : Program} {w : World} {A : Around} (hh : A.handled = none) (it t : Addr) (hne : t ≠ it) (items : Array Value) {i : Nat} (hi : items[i]? = none) :
    Draws prog w A it [it, t] 0 (fun _ _ => False) (fun _ h => h.IsTupleIter it t i ∧ h.IsTuple t items) where
  live := fun _ _ st => let ⟨o, ho, _⟩ := st.1; ⟨o, ho⟩
  frame := fun _ _ _ st hk => ⟨st.1.at fun o e => hk it (by simp) o e, st.2.at fun o e => hk t (by simp) o e⟩
  item := fun j s Q E hj st hQ => (Nat.not_lt_zero _ hj).elim
  done := fun s Q E st hE => wpAny_nextOf_tuple_end hh st.1 st.2 hi hE
theorem turn_enumT {P : Program} {w : World} {K : PySem.W.Frag} {elts : List Expr} {kk : Nat} {tpos : Pos} (a e it : Addr) (hea : e ≠ a) (hia : a ≠ it) :
    Turn P w K (.Tuple elts kk tpos) (IteT K a) [e, it] e (fun i h => (∃ old, IsEnum h e it ((i : Nat) : Int) old) ∧ h.IsTupleIter it a i ∧ e ≠ it) where
  mem := by simp
  obj := fun i h st b hb => by
    obtain ⟨⟨old, he⟩, ⟨o, ho, hc, hd⟩, _⟩ := st
    rcases List.mem_cons.mp hb with z | z
    · rw [z]; exact ⟨_, he, fun v q => nomatch q⟩
    · rw [List.mem_singleton.mp z]; exact ⟨o, ho, fun v q => by rw [hd] at q; cases q⟩
  keep := fun i h h' st k => let ⟨⟨old, he⟩, hi, hne⟩ := st; ⟨⟨old, k e (by simp) _ he⟩, hi.at fun o q => k it (by simp) o q, hne⟩
  item := by
    intro X hP hw hK hc i pins s σ H E I hf st hg
    subst hP hw hK
    obtain ⟨⟨old, he⟩, hit, hne⟩ := st
    obtain ⟨xs, x, hq, hx⟩ := hg
    obtain ⟨its, rv, p, hz⟩ := I.tuple hq
    obtain ⟨u, hu, ru⟩ := rv.get hx
    have hel : e < s.heap.objs.size := Heap.lt_size he
    have hil : it < s.heap.objs.size := by obtain ⟨_, q, _⟩ := hit; exact Heap.lt_size q
    have hlt : i < its.toArray.size := by
      have := (List.getElem?_eq_some_iff.mp hu).1
      simpa using this
    refine wpAny_pyNext_enum_itemD (Draws.tuple (A := X.A.in1) (I.ok.hd hc) it a hia its.toArray) he ⟨hit, p⟩ hlt hne (by simp [hne, hea]) fun u' h' tk hP ho hst' hT hsz hk => ?_
    have eu : u' = u := by
      have hP : its.toArray[i]? = some u' := hP
      have hu2 : its.toArray[i]? = some u := by simpa using hu
      rw [hu2] at hP; cases hP; rfl
    subst eu
    refine ⟨_, rfl, wpAny_letOwnedTupleGo_enum (s := { s with heap := h', toks := tk + 1 }) ho fun h'' he' sb => ?_⟩
    have hT2 := (sb.2 _ (Nat.ne_of_gt hel)).trans hT
    have new : ObjOk X.prog X.w (upd H s.heap.objs.size (.tup [.int (i : Nat), x])) h'' s.heap.objs.size (.tup [.int (i : Nat), x]) :=
      ⟨by show 2 ≤ sizeLine; decide, [.int i tk, u'], .cons ⟨_, rfl⟩ (.cons ru .nil), ⟨_, hT2, rfl, _, rfl⟩⟩
    have I1 : Inv X pins σ (upd H s.heap.objs.size (.tup [.int (i : Nat), x])) { s with heap := h'', toks := tk + 1 } :=
      I.turnedNew (ch := [e, it]) (fun b ob hb q => (sb.2 b (fun z => hb (by simp [z]))).trans (hk b ob (fun z => hb (by simp [z])) (fun z => hb (by simp [z])) q)) hf (Nat.le_refl _) new
    refine ⟨.ref s.heap.objs.size, _, I1, rfl, ⟨_, x, rfl, I.hok.fresh (Nat.le_refl _), rfl, fun ys hy => by rw [I.tuple_inj hy hq]; exact hx⟩, ⟨⟨u', ?_⟩, hst'.1.at fun o q => (sb.2 it (Ne.symm hne)).trans q, hne⟩, fun b hb => ?_⟩
    · have e1 : ((i + 1 : Nat) : Int) = (i : Int) + 1 := by omega
      rw [e1]; exact he'
    · have hb' : b < s.heap.objs.size := by
        rcases List.mem_cons.mp hb with z | z
        · rw [z]; exact hel
        · rw [List.mem_singleton.mp z]; exact hil
      rw [upd_ne (Nat.ne_of_lt hb')]
      exact (hf b hb).1
  done := by
    intro X hP hw hK hc i pins s σ H E I hf st hg
    subst hP hw hK
    obtain ⟨⟨old, he⟩, hit, hne⟩ := st
    obtain ⟨xs, hq, hx⟩ := hg
    obtain ⟨its, rv, p, hz⟩ := I.tuple hq
    obtain ⟨f0, f1, f2, f3, f4, f5⟩ := hf it (by simp)
    have hl := rv.length
    have D := enum_done (prog := X.prog) (w := X.w) (A := X.A.in1) (I.ok.hd hc) it a hia its.toArray (i := i) (by simp; omega)
    exact wpAny_pyNext_enum_endD D he (show s.heap.IsTupleIter it a i ∧ s.heap.IsTuple a its.toArray from ⟨hit, p⟩) fun h' eb => ⟨rfl, I.turned (t' := s.toks) (fun b o hb q => eb b o hb q) f0 f1 f3 f4 f5⟩
  self := fun A i s Q E st h => let ⟨⟨_, he⟩, _⟩ := st; wpAny_pyIter_enum he h
def iEnumA (K : PySem.W.Frag) (ta : TA) : TI := fun σ H R => ta σ H fun vs H1 => ∃ a xs, vs = [.ref a] ∧ ((SqL K H1 a xs ∧ R (Ite K a) H1) ∨ (SqT K H1 a xs ∧ R (IteT K a) H1))
theorem pi_enumA {X : Cx} {e : Expr} {ta : TA} {p pos tpos : Pos} {elts : List Expr} {kk : Nat} (hg : Gl X "enumerate") (hm : X.mg "enumerate" = none) (ha : PA X [e] ta) (hs : starEach [e] X.env = [(false, eval e X.env)]) :
    PI X (.Tuple elts kk tpos) (.Call (.Name "enumerate" p) [e] [] pos) (iEnumA X.K ta) := by
  refine ⟨fun pins s σ H R I h => ?_⟩
  refine Call_ (ld_blt I hg hm boot_enumerate (PyProof.Rows.callWith_type1 (thn (ha.run pos pins s σ H _ I h) fun us s1 ⟨vs, H1, I1, r1, q1⟩ => ?_) hs rfl))
  obtain ⟨a, xs, ex, q1⟩ := q1
  subst ex
  cases r1 with
  | cons r rr =>
    cases rr
    cases r
    have fr : ∀ b, b ∈ [s1.heap.objs.size + 1, s1.heap.objs.size] → FpOk X pins H1 b := fun b hb => by
      have hle : s1.heap.objs.size ≤ b := by
        rcases List.mem_cons.mp hb with z | z
        · rw [z]; exact Nat.le_add_right _ _
        · rw [List.mem_singleton.mp z]; exact Nat.le_refl _
      exact I1.fpOk hle (I1.hok.fresh hle)
    rcases q1 with ⟨hq, q⟩ | ⟨hq, q⟩
    · obtain ⟨its, rv, p', hz⟩ := I1.list hq
      refine call_enumerate_list p'.isList fun h' he hit hsz hk => wpAny_pyIter_enum he ?_
      have I2 : Inv X pins σ H1 { s1 with heap := h' } := I1.kept (t' := s1.toks) hk
      exact ⟨s1.heap.objs.size + 1, [s1.heap.objs.size + 1, s1.heap.objs.size], _, _, H1, rfl, I2, turn_enum a (s1.heap.objs.size + 1) s1.heap.objs.size, ⟨⟨.none, he⟩, hit, Nat.succ_ne_self _⟩, fr, q⟩
    · obtain ⟨its, rv, p', hz⟩ := I1.tuple hq
      have p' : s1.heap.IsTuple a its.toArray := p'
      have hal : a < s1.heap.objs.size := by obtain ⟨_, q, _⟩ := id p'; exact Heap.lt_size q
      refine call_enum1 (begins_tuple a its.toArray) p' fun h' he hit hsz hk => wpAny_pyIter_enum he ?_
      have I2 : Inv X pins σ H1 { s1 with heap := h' } := I1.kept (t' := s1.toks) hk
      exact ⟨s1.heap.objs.size + 1, [s1.heap.objs.size + 1, s1.heap.objs.size], _, _, H1, rfl, I2, turn_enumT a (s1.heap.objs.size + 1) s1.heap.objs.size (Nat.ne_of_gt (Nat.lt_succ_of_lt hal)) (Nat.ne_of_lt hal), ⟨⟨.none, he⟩, ⟨_, hit, rfl, rfl⟩, Nat.succ_ne_self _⟩, fr, q⟩
end Vi
set_option maxHeartbeats 4000000
namespace Vi
open PySem PySem.Spec PyProof.Rows L2
def Post {α : Type} (K : PySem.W.Frag) (cT : Nat → Addr) (W : WX) (M : Mk) (R G : Hp) (σ : L2.St) (x : Rs α) (P : α → En → Prop) : Prop := match x with
  | .no => False
  | .ok a ρ => P a ρ
  | .ex c d ρ => ExcP K cT M R G ρ σ c d fun cl dd H => W cl dd σ H
section
variable {α β : Type} {K : PySem.W.Frag} {cT : Nat → Addr} {W : WX} {M : Mk} {R G G' H : Hp} {ρ : En} {σ : L2.St} {x : Rs α} {P P' : α → En → Prop}
theorem Post.bind {f : α → En → Rs β} {Q : β → En → Prop} (h : Post K cT W M R G σ (x.bind f) Q) : Post K cT W M R G σ x fun a ρ => Post K cT W M R G σ (f a ρ) Q := by
  cases x <;> exact h
theorem ExcP.mono {c : Nat} {d : D} {E : ExE} (h : ExcP K cT M R G ρ σ c d E) (e : Same G G') : ExcP K cT M R G' ρ σ c d E := fun G1 H1 dd v e1 => h G1 H1 dd v (e.trans e1)
theorem Post.monoG (h : Post K cT W M R G σ x P) (e : Same G G') (k : ∀ a ρ, P a ρ → P' a ρ) : Post K cT W M R G' σ x P' := by
  cases x with
  | no => exact h
  | ok a ρ => exact k a ρ h
  | ex c d ρ => exact fun G1 H1 dd v e1 => h G1 H1 dd v (e.trans e1)
theorem Post.imp (h : Post K cT W M R G σ x P) (k : ∀ a ρ, P a ρ → P' a ρ) : Post K cT W M R G σ x P' := h.monoG (Same.refl _) k
theorem Post.lift {o : Option α} (h : Post K cT W M R G σ (lift o ρ) P) : ∃ a, o = some a ∧ P a ρ := by
  cases o with
  | none => exact h.elim
  | some a => exact ⟨a, rfl, h⟩
end
variable (Γ : Cn) (cT : Nat → Addr)
def tE (K : PySem.W.Frag) (W : WX) (a : Tm) : TE := fun σ H Q => ∃ M R G ρ, Rel K M R G ρ σ H ∧ Post K cT W M R G σ (evR Γ a ρ) fun r ρ' => Res K M R G ρ' σ r Q
def tT (K : PySem.W.Frag) (W : WX) (a : Tm) : TT := fun σ H Q => ∃ M R G ρ, Rel K M R G ρ σ H ∧ Post K cT W M R G σ (evT Γ a ρ) fun b ρ' => ∀ G' H', Same G G' → Rel K M R G' ρ' σ H' → Q b H'
def tAs (K : PySem.W.Frag) (W : WX) (as : List Tm) : TA := fun σ H Q => ∃ M R G ρ, Rel K M R G ρ σ H ∧ Post K cT W M R G σ (evAs Γ as ρ) fun rs ρ' => ∀ G' H' vs, Same G G' → Rel K M R G' ρ' σ H' → Paired (fun a v => AvIs K G' σ a v) rs vs → Q vs H'
def tDs (K : PySem.W.Frag) (W : WX) (as : List Tm) : TA := fun σ H Q => ∃ M R G ρ, Rel K M R G ρ σ H ∧ Post K cT W M R G σ (evDs Γ as ρ) fun ds ρ' => ∀ G' H' vs, Same G G' → Rel K M R G' ρ' σ H' → Dats K G' vs ds → Q vs H'
def tO (K : PySem.W.Frag) (W : WX) (a : Option Tm) : TO := fun σ H Q => ∃ M R G ρ, Rel K M R G ρ σ H ∧ Post K cT W M R G σ (evO Γ a ρ) fun o ρ' => ∀ G' H', Same G G' → Rel K M R G' ρ' σ H' → Q o H'
def tC (K : PySem.W.Frag) (W : WX) (a : Option Tm) : TT := fun σ H Q => ∃ M R G ρ, Rel K M R G ρ σ H ∧ Post K cT W M R G σ (evC Γ a ρ) fun b ρ' => ∀ G' H', Same G G' → Rel K M R G' ρ' σ H' → Q b H'
def KBn (K : PySem.W.Frag) (fd : FuncData) (ps : List Str) (n : Nat) (ks : List Str) (perm : List Nat) : Prop :=
  ∀ (s : Shared) (us ws : List Value), K.In s.heap → us.length = n → ws.length = ks.length → (permV ps.length perm (us ++ ws)).length = ps.length → BindsTo s fd ⟨us, ks.zip ws⟩ (ps.zip (permV ps.length perm (us ++ ws)))
structure CallOk (X : Cx) (k : Nat) (fn : Fn) (x : Str) (ps : List Str) (kws : List (Nat × List Str × List Nat)) (f : Addr) (fd : FuncData) : Prop where
  ok : FnOk X.prog X.w X.K X.mg X.base (L2.CX X.prog X.w) k f fd ps (spF X.K cT fn)
  np : fn.np = ps.length
  mg : X.mg x = some (.ref f)
  kp : PySem.W.keepIn X.K (.ref f) = true
  bd : Binds X.K fd ps []
  kb : ∀ n ks perm, (n, ks, perm) ∈ kws → KBn X.K fd ps n ks perm
def kwsOf (c : Cc) (j : Nat) : List (Nat × List Str × List Nat) := c.kws.filterMap fun q => if q.1 = j then some q.2 else none
structure Good (c : Cc) (k : Nat) (X : Cx) (W : WX) : Prop where
  N : X.N = c.N
  nd : c.N.Nodup
  sc : X.env.scope = c.sc
  kind : c.sc.kind = .function
  calm : X.calm = true
  room : Room k X.A
  tk : Takes X W
  po : PassesOwn (model X.prog X.w) X.A X.env X.xe
  sto : ∀ x, stoB c.so x = true → Loc X.env.scope x ∧ (X.fn x = true ∨ X.env.scope.names.lookup x = some .local)
  bi : ∀ x : String, x ∈ c.bis → X.mg x = none
  gcd : c.gcd = true → X.mg "gcd" = some (.builtin "math.gcd")
  fn : ∀ (j : Nat) (fn : Fn), Γ.fns[j]? = some fn → ∃ x ps f fd, c.fns[j]? = some (x, ps) ∧ CallOk cT X k fn x ps (kwsOf c j) f fd
  gl : ∀ (j : Nat) (d : D), Γ.gls[j]? = some d → ∃ x u v, c.gls[j]? = some x ∧ X.mg x = some u ∧ RelV v u ∧ ∀ G : Hp, Dat X.K G v d
section
variable {Γ : Cn} {cT : Nat → Addr} {c : Cc} {k : Nat} {X : Cx} {W : WX} {e : Expr} {x : Str} {pos : Pos}
theorem Good.vis (g : Good Γ cT c k X W) (h : visB c.sc x = true) : Vis X.env.scope x := by
  unfold visB at h
  rw [g.sc]
  split at h
  · rename_i q; exact .inl q
  · rename_i q; exact .inr (.inl q)
  · rename_i q; exact .inr (.inr q)
  · cases h
theorem Good.gl_ (g : Good Γ cT c k X W) (h : gloB c.sc x = true) : Gl X x := by
  unfold gloB at h
  show X.env.scope.names.lookup x = some .globalImplicit
  rw [g.sc]
  split at h
  · rename_i q; exact q
  · cases h
theorem okName1 (h : okName x = true) : (x == ("__debug__" : Str)) = false := by
  have := (ba2 h).1
  simpa using this
theorem okName2 (h : okName x = true) : (x == ("__classdict__" : Str)) = false := by
  have := (ba2 h).2
  simpa using this
theorem Good.units (g : Good Γ cT c k X W) : X.A.units + 70 < cLine := by have := g.room.un; omega
theorem star1 {env : Env} {es : List Expr} (h : (!isStar e) = true) : starEach (e :: es) env = (false, eval e env) :: starEach es env := by
  cases e <;> first | rfl | cases h
theorem noStar {env : Env} : ∀ {es : List Expr}, (es.all fun e => !isStar e) = true → starEach es env = es.map fun e => (false, eval e env)
  | [], _ => rfl
  | e :: es, h => by
    rw [List.all_cons] at h
    obtain ⟨h1, h2⟩ := ba2 h
    rw [star1 h1, noStar h2]; rfl
theorem backTo_noStar {env : Env} {es : List Expr} (h : (es.all fun e => !isStar e) = true) : (backTo pos (starEach es env)).any (·.1) = false := by
  rw [noStar h]
  unfold backTo
  rw [List.map_map, List.any_map]
  induction es with
  | nil => rfl
  | cons e es ih => rw [List.any_cons, ih (ba2 (by rw [List.all_cons] at h; exact h)).2]; rfl
theorem plainIx {b : Expr} (h : (!isSlice b) = true) : PlainIx b := by
  intro o i
  cases b <;> first | rfl | cases h
def ESound (a : Tm) : Prop := ∀ (c : Cc) (k : Nat) (X : Cx) (W : WX) (e : Expr), Good Γ cT c k X W → chkE c a e = true → PE X e (tE Γ cT X.K W a)
def TSound (a : Tm) : Prop := ∀ (c : Cc) (k : Nat) (X : Cx) (W : WX) (e : Expr), Good Γ cT c k X W → chkE c a e = true → PT X e (tT Γ cT X.K W a)
end
section
variable {Γ : Cn} {cT : Nat → Addr}
theorem peW {X : Cx} {e : Expr} {t t' : TE} (h : PE X e t) (k : ∀ σ H Q, t' σ H Q → t σ H Q) : PE X e t' := ⟨fun pins s σ H Q I q => h.run pins s σ H Q I (k σ H Q q)⟩
theorem ptW {X : Cx} {e : Expr} {t t' : TT} (h : PT X e t) (k : ∀ σ H Q, t' σ H Q → t σ H Q) : PT X e t' := ⟨fun pins s σ H Q I q => h.run pins s σ H Q I (k σ H Q q)⟩
theorem paW {X : Cx} {e : List Expr} {t t' : TA} (h : PA X e t) (k : ∀ σ H Q, t' σ H Q → t σ H Q) : PA X e t' := ⟨fun pos pins s σ H Q I q => h.run pos pins s σ H Q I (k σ H Q q)⟩
variable {K : PySem.W.Frag} {W : WX} {M : Mk} {R G G' H : Hp} {ρ : En} {σ : L2.St} {Q : VK} {a b : Tm}
theorem tE_then {P : Rv → En → Prop} (r : Rel K M R G ρ σ H) (h : Post K cT W M R G σ (evR Γ a ρ) P)
    (k : ∀ x ρ1 G1 H1 v, Same G G1 → Rel K M R G1 ρ1 σ H1 → AvIs K G1 σ x v → P x ρ1 → Q v H1) : tE Γ cT K W a σ H Q :=
  ⟨M, R, G, ρ, r, h.imp fun x ρ1 p G1 H1 v e r1 q => by
    obtain ⟨G2, e2, r2, a2⟩ := settle r1 q
    exact k x ρ1 G2 H1 v (e.trans e2) r2 a2 p⟩
theorem Res.mono' {α : Type} {x : Rs α} {f : α → Rv} {P : α → En → Prop} (h : Post K cT W M R G σ x P) (e : Same G G') : Post K cT W M R G' σ x P := h.monoG e fun _ _ p => p
theorem Res.settled {x : Rv} {v : V} (r : Rel K M R G ρ σ H) (h : Res K M R G ρ σ x Q) (hx : ∃ d, x = .dat d ∧ Dat K G v d) : Q v H := by
  obtain ⟨d, rfl, hd⟩ := hx
  exact h.now r hd
theorem ES_var {i : Nat} : ESound (Γ := Γ) (cT := cT) (.var i) := by
  intro c k X W e g h
  simp only [chkE] at h
  split at h <;> try cases h
  rename_i x p
  obtain ⟨h12, h3⟩ := ba2 h
  obtain ⟨h1, h2⟩ := ba2 h12
  refine peW (pe_var (i := i) (by rw [g.N]; exact of_decide_eq_true h1) (g.vis h2) (okName1 h3) (okName2 h3)) fun σ H Q ⟨M, R, G, ρ, r, q⟩ => ?_
  unfold evR at q
  split at q
  · rename_i d hd
    obtain ⟨v, hv, hvd⟩ := r.dat i d hd
    exact ⟨v, hv, Res.now q r hvd⟩
  · rename_i f o ho
    obtain ⟨p, hp, _⟩ := r.own i f o ho
    exact ⟨_, hp, Res.now q r ⟨hp, f, o, ho⟩⟩
  · exact q.elim
theorem ES_con {d : D} : ESound (Γ := Γ) (cT := cT) (.con d) := by
  intro c k X W e g h
  simp only [chkE] at h
  split at h <;> try cases h
  rename_i kc j p
  unfold conB at h
  split at h
  · have e := of_decide_eq_true h
    subst e
    exact peW pe_int fun σ H Q ⟨M, R, G, ρ, r, q⟩ => by unfold evR at q; exact Res.now q r (Dat.int _)
  · have e := of_decide_eq_true h
    subst e
    exact peW pe_bl fun σ H Q ⟨M, R, G, ρ, r, q⟩ => by unfold evR at q; exact Res.now q r (Dat.bl _)
  · have e := of_decide_eq_true h
    subst e
    exact peW pe_str fun σ H Q ⟨M, R, G, ρ, r, q⟩ => by unfold evR at q; exact Res.now q r (Dat.str _)
  · exact peW pe_non fun σ H Q ⟨M, R, G, ρ, r, q⟩ => by unfold evR at q; exact Res.now q r Dat.non
  · cases h
theorem ES_glo {j : Nat} : ESound (Γ := Γ) (cT := cT) (.glo j) := by
  intro c k X W e g h
  simp only [chkE] at h
  split at h <;> try cases h
  rename_i x p
  obtain ⟨h12, h3⟩ := ba2 h
  obtain ⟨h1, h2⟩ := ba2 h12
  have h1 := of_decide_eq_true h1
  cases hd : Γ.gls[j]? with
  | none =>
    refine peW (t := fun _ _ _ => False) ⟨fun _ _ _ _ _ _ z => z.elim⟩ fun σ H Q ⟨M, R, G, ρ, r, q⟩ => ?_
    unfold evR at q
    rw [hd] at q
    exact q
  | some d =>
    obtain ⟨x', u, v, e1, e2, rv, hdat⟩ := g.gl j d hd
    rw [h1] at e1; cases e1
    refine peW (pe_glob (g.gl_ h2) e2 rv (okName1 h3)) fun σ H Q ⟨M, R, G, ρ, r, q⟩ => ?_
    unfold evR at q
    rw [hd] at q
    exact Res.now q r (hdat G)
theorem isOp_op {b : Bop} {o : Operator} (h : isOp b o = true) : o = b.op := by
  cases b <;> cases o <;> first | rfl | cases h
theorem isCop_op {b : Cop} {o : CmpOp} (h : isCop b o = true) : o = b.op := by
  cases b <;> cases o <;> first | rfl | cases h
theorem ES_bin {op : Bop} (ha : ESound (Γ := Γ) (cT := cT) a) (hb : ESound (Γ := Γ) (cT := cT) b) : ESound (Γ := Γ) (cT := cT) (.bin op a b) := by
  intro c k X W e g h
  simp only [chkE] at h
  split at h <;> try cases h
  rename_i ea o eb p
  obtain ⟨h12, h3⟩ := ba2 h
  obtain ⟨h1, h2⟩ := ba2 h12
  rw [isOp_op h1]
  refine peW (pe_op (op_bin (X := X) op) (ha c k X W ea g h2) (hb c k X W eb g h3)) fun σ H Q ⟨M, R, G, ρ, r, q⟩ => ?_
  unfold evR at q
  refine tE_then r q.bind fun x ρ1 G1 H1 v e1 r1 a1 q1 => ?_
  refine tE_then r1 (q1.bind.monoG e1 fun _ _ z => z) fun y ρ2 G2 H2 w e2 r2 a2 q2 => ?_
  split at q2
  · rename_i dx dy hx hy
    obtain ⟨rv, hrv, q3⟩ := q2.lift
    exact bin_ok hrv r2 ((a1.mono e2).rdb r2 hx) (a2.rdb r2 hy) (Res.mono q3 (e1.trans e2))
  · exact q2.elim
theorem AvIs.int {G : Hp} {i : Int} {v : V} (h : AvIs K G σ (.dat (.int i)) v) : v = .int i := by
  have h : Dat K G v (.int i) := h
  cases h; rfl
theorem AvIs.bl {G : Hp} {i : Bool} {v : V} (h : AvIs K G σ (.dat (.bool i)) v) : v = .bl i := by
  have h : Dat K G v (.bool i) := h
  cases h; rfl
theorem ES_neg (ha : ESound (Γ := Γ) (cT := cT) a) : ESound (Γ := Γ) (cT := cT) (.neg a) := by
  intro c k X W e g h
  simp only [chkE] at h
  split at h <;> try cases h
  rename_i ea p
  refine peW (pe_un un_neg (ha c k X W ea g h)) fun σ H Q ⟨M, R, G, ρ, r, q⟩ => ?_
  unfold evR at q
  refine tE_then r q.bind fun x ρ1 G1 H1 v e1 r1 a1 q1 => ?_
  split at q1
  · cases a1.int
    exact ⟨_, rfl, Res.now (Res.mono q1 e1) r1 (.int _)⟩
  · exact q1.elim
theorem ES_not (ha : ESound (Γ := Γ) (cT := cT) a) : ESound (Γ := Γ) (cT := cT) (.not a) := by
  intro c k X W e g h
  simp only [chkE] at h
  split at h <;> try cases h
  rename_i ea p
  refine peW (pe_notT (ha c k X W ea g h)) fun σ H Q ⟨M, R, G, ρ, r, q⟩ => ?_
  unfold evR at q
  refine tE_then r q.bind fun x ρ1 G1 H1 v e1 r1 a1 q1 => ?_
  split at q1
  · rename_i d hd
    obtain ⟨rv, hrv, q2⟩ := q1.lift
    obtain ⟨b, hb, rfl⟩ := Option.map_eq_some_iff.mp hrv
    exact ⟨b, tru_okD hb r1.fz (a1.rdb r1 hd), Res.now (Res.mono q2 e1) r1 (.bl _)⟩
  · exact q1.elim
theorem ES_and (ha : ESound (Γ := Γ) (cT := cT) a) (hb : ESound (Γ := Γ) (cT := cT) b) : ESound (Γ := Γ) (cT := cT) (.and a b) := by
  intro c k X W e g h
  simp only [chkE] at h
  split at h <;> try cases h
  rename_i x y l p
  obtain ⟨h1, h2⟩ := ba2 h
  have hr : PE X (.BoolOp .And (y :: l) p) (tE Γ cT X.K W b) := by
    cases l with
    | nil => exact pe_one (hb c k X W y g h2)
    | cons z l => exact hb c k X W _ g h2
  refine peW (pe_and (ha c k X W x g h1) hr) fun σ H Q ⟨M, R, G, ρ, r, q⟩ => ?_
  unfold evR at q
  refine tE_then r q.bind fun x ρ1 G1 H1 v e1 r1 a1 q1 => ?_
  split at q1
  · cases a1.bl
    refine ⟨true, rfl, ?_⟩
    rw [if_pos rfl]
    exact ⟨M, R, G1, ρ1, r1, q1.monoG e1 fun _ _ z => Res.mono z e1⟩
  · cases a1.bl
    refine ⟨false, rfl, ?_⟩
    rw [if_neg Bool.false_ne_true]
    exact Res.now (Res.mono q1 e1) r1 (.bl _)
  · exact q1.elim
theorem ES_or (ha : ESound (Γ := Γ) (cT := cT) a) (hb : ESound (Γ := Γ) (cT := cT) b) : ESound (Γ := Γ) (cT := cT) (.or a b) := by
  intro c k X W e g h
  simp only [chkE] at h
  split at h <;> try cases h
  rename_i x y l p
  obtain ⟨h1, h2⟩ := ba2 h
  have hr : PE X (.BoolOp .Or (y :: l) p) (tE Γ cT X.K W b) := by
    cases l with
    | nil => exact pe_one (hb c k X W y g h2)
    | cons z l => exact hb c k X W _ g h2
  refine peW (pe_or (ha c k X W x g h1) hr) fun σ H Q ⟨M, R, G, ρ, r, q⟩ => ?_
  unfold evR at q
  refine tE_then r q.bind fun x ρ1 G1 H1 v e1 r1 a1 q1 => ?_
  split at q1
  · cases a1.bl
    refine ⟨false, rfl, ?_⟩
    rw [if_neg Bool.false_ne_true]
    exact ⟨M, R, G1, ρ1, r1, q1.monoG e1 fun _ _ z => Res.mono z e1⟩
  · cases a1.bl
    refine ⟨true, rfl, ?_⟩
    rw [if_pos rfl]
    exact Res.now (Res.mono q1 e1) r1 (.bl _)
  · exact q1.elim
theorem ES_ite {k0 : Tm} (hk : TSound (Γ := Γ) (cT := cT) k0) (ha : ESound (Γ := Γ) (cT := cT) a) (hb : ESound (Γ := Γ) (cT := cT) b) : ESound (Γ := Γ) (cT := cT) (.ite k0 a b) := by
  intro c k X W e g h
  simp only [chkE] at h
  split at h <;> try cases h
  rename_i ek ea eb p
  obtain ⟨h12, h3⟩ := ba2 h
  obtain ⟨h1, h2⟩ := ba2 h12
  refine peW (pe_ifExp (hk c k X W ek g h1) (ha c k X W ea g h2) (hb c k X W eb g h3)) fun σ H Q ⟨M, R, G, ρ, r, q⟩ => ?_
  unfold evR at q
  refine ⟨M, R, G, ρ, r, q.bind.imp fun b ρ1 q1 G1 H1 e1 r1 => ?_⟩
  cases b with
  | true =>
    rw [if_pos rfl] at q1 ⊢
    exact ⟨M, R, G1, ρ1, r1, q1.monoG e1 fun _ _ z => Res.mono z e1⟩
  | false =>
    rw [if_neg Bool.false_ne_true] at q1 ⊢
    exact ⟨M, R, G1, ρ1, r1, q1.monoG e1 fun _ _ z => Res.mono z e1⟩
theorem ES_cmp {op : Cop} (ha : ESound (Γ := Γ) (cT := cT) a) (hb : ESound (Γ := Γ) (cT := cT) b) : ESound (Γ := Γ) (cT := cT) (.cmp op a b) := by
  intro c k X W e g h
  simp only [chkE] at h
  split at h <;> try cases h
  rename_i ea o eb p
  obtain ⟨h123, h4⟩ := ba2 h
  obtain ⟨h12, h3⟩ := ba2 h123
  obtain ⟨h1, h2⟩ := ba2 h12
  have h4 : behindInMarks o eb = false := by simpa using h4
  rw [isCop_op h1] at h4 ⊢
  refine peW (pe_cmpR (op_cmp (X := X) g.units op) (ha c k X W ea g h2) (hb c k X W eb g h3) h4) fun σ H Q ⟨M, R, G, ρ, r, q⟩ => ?_
  unfold evR at q
  refine tE_then r q.bind fun x ρ1 G1 H1 v e1 r1 a1 q1 => ?_
  refine tE_then r1 (q1.bind.monoG e1 fun _ _ z => z) fun y ρ2 G2 H2 w e2 r2 a2 q2 => ?_
  split at q2
  · rename_i dx dy hx hy
    obtain ⟨rv, hrv, q3⟩ := q2.lift
    obtain ⟨kk, hk, rfl⟩ := Option.map_eq_some_iff.mp hrv
    exact cmp_ok hk r2.fz ((a1.mono e2).rdb r2 hx) (a2.rdb r2 hy) (Res.now (Res.mono q3 (e1.trans e2)) r2 (.bl _))
  · exact q2.elim
theorem TS_cmp {op : Cop} (ha : ESound (Γ := Γ) (cT := cT) a) (hb : ESound (Γ := Γ) (cT := cT) b) : TSound (Γ := Γ) (cT := cT) (.cmp op a b) := by
  intro c k X W e g h
  simp only [chkE] at h
  split at h <;> try cases h
  rename_i ea o eb p
  obtain ⟨h123, h4⟩ := ba2 h
  obtain ⟨h12, h3⟩ := ba2 h123
  obtain ⟨h1, h2⟩ := ba2 h12
  have h4 : behindInMarks o eb = false := by simpa using h4
  rw [isCop_op h1] at h4 ⊢
  refine ptW (pt_cmpR (op_cmp (X := X) g.units op) (ha c k X W ea g h2) (hb c k X W eb g h3) h4) fun σ H Q ⟨M, R, G, ρ, r, q⟩ => ?_
  unfold evT evR at q
  refine tE_then r q.bind.bind fun x ρ1 G1 H1 v e1 r1 a1 q1 => ?_
  refine tE_then r1 (q1.bind.monoG e1 fun _ _ z => z) fun y ρ2 G2 H2 w e2 r2 a2 q2 => ?_
  split at q2
  · rename_i dx dy hx hy
    obtain ⟨rv, hrv, q3⟩ := q2.lift
    obtain ⟨kk, hk, rfl⟩ := Option.map_eq_some_iff.mp hrv
    exact cmp_ok hk r2.fz ((a1.mono e2).rdb r2 hx) (a2.rdb r2 hy) ⟨kk, rfl, q3 G2 H2 (e1.trans e2) r2⟩
  · exact q2.elim
theorem lastM {o1 o2 : CmpOp} {b d : Expr} (h : behindInMarks o2 d = false) : lastMarks [o1, o2] [b, d] = false := by
  simp only [lastMarks]; exact h
theorem ES_chn {o1 o2 : Cop} {d : Tm} (ha : ESound (Γ := Γ) (cT := cT) a) (hb : ESound (Γ := Γ) (cT := cT) b) (hd : ESound (Γ := Γ) (cT := cT) d) : ESound (Γ := Γ) (cT := cT) (.chn o1 o2 a b d) := by
  intro c k X W e g h
  simp only [chkE] at h
  split at h <;> try cases h
  rename_i ea p1 p2 eb ed p
  obtain ⟨h12345, h6⟩ := ba2 h
  obtain ⟨h1234, h5⟩ := ba2 h12345
  obtain ⟨h123, h4⟩ := ba2 h1234
  obtain ⟨h12, h3⟩ := ba2 h123
  obtain ⟨h1, h2⟩ := ba2 h12
  have h6 : behindInMarks p2 ed = false := by simpa using h6
  rw [isCop_op h1, isCop_op h2] at *
  refine peW (pe_chain (op_cmp (X := X) g.units o1) (op_cmp (X := X) g.units o2) (ha c k X W ea g h3) (hb c k X W eb g h4) (hd c k X W ed g h5) (lastM h6)) fun σ H Q ⟨M, R, G, ρ, r, q⟩ => ?_
  unfold evR at q
  refine tE_then r q.bind fun x ρ1 G1 H1 v e1 r1 a1 q1 => ?_
  refine tE_then r1 (q1.bind.monoG e1 fun _ _ z => z) fun y ρ2 G2 H2 w e2 r2 a2 q2 => ?_
  split at q2
  · rename_i dx dy
    have ax : Dat X.K G2 v dx := Dat.mono e2 a1
    have ay : Dat X.K G2 w dy := a2
    split at q2
    · rename_i hc
      refine cmp_ok hc r2.fz (.inl ax) (.inl ay) ⟨true, rfl, ?_⟩
      rw [if_pos rfl]
      refine tE_then r2 (q2.bind.monoG (e1.trans e2) fun _ _ z => z) fun z ρ3 G3 H3 w3 e3 r3 a3 q3 => ?_
      split at q3
      · rename_i dz
        obtain ⟨rv, hrv, q4⟩ := q3.lift
        obtain ⟨kk, hk, rfl⟩ := Option.map_eq_some_iff.mp hrv
        exact cmp_ok hk r3.fz (.inl (Dat.mono e3 ay)) (.inl a3) (Res.now (Res.mono q4 ((e1.trans e2).trans e3)) r3 (.bl _))
      · exact q3.elim
    · rename_i hc
      refine cmp_ok hc r2.fz (.inl ax) (.inl ay) ⟨false, rfl, ?_⟩
      rw [if_neg Bool.false_ne_true]
      exact Res.now (Res.mono q2 (e1.trans e2)) r2 (.bl _)
    · exact q2.elim
  · exact q2.elim
theorem TS_chn {o1 o2 : Cop} {d : Tm} (ha : ESound (Γ := Γ) (cT := cT) a) (hb : ESound (Γ := Γ) (cT := cT) b) (hd : ESound (Γ := Γ) (cT := cT) d) : TSound (Γ := Γ) (cT := cT) (.chn o1 o2 a b d) := by
  intro c k X W e g h
  simp only [chkE] at h
  split at h <;> try cases h
  rename_i ea p1 p2 eb ed p
  obtain ⟨h12345, h6⟩ := ba2 h
  obtain ⟨h1234, h5⟩ := ba2 h12345
  obtain ⟨h123, h4⟩ := ba2 h1234
  obtain ⟨h12, h3⟩ := ba2 h123
  obtain ⟨h1, h2⟩ := ba2 h12
  have h6 : behindInMarks p2 ed = false := by simpa using h6
  rw [isCop_op h1, isCop_op h2] at *
  refine ptW (pt_chain (op_cmp (X := X) g.units o1) (op_cmp (X := X) g.units o2) (ha c k X W ea g h3) (hb c k X W eb g h4) (hd c k X W ed g h5) (lastM h6)) fun σ H Q ⟨M, R, G, ρ, r, q⟩ => ?_
  unfold evT evR at q
  refine tE_then r q.bind.bind fun x ρ1 G1 H1 v e1 r1 a1 q1 => ?_
  refine tE_then r1 (q1.bind.monoG e1 fun _ _ z => z) fun y ρ2 G2 H2 w e2 r2 a2 q2 => ?_
  split at q2
  · rename_i dx dy
    have ax : Dat X.K G2 v dx := Dat.mono e2 a1
    have ay : Dat X.K G2 w dy := a2
    split at q2
    · rename_i hc
      refine cmp_ok hc r2.fz (.inl ax) (.inl ay) ⟨true, rfl, ?_⟩
      rw [if_pos rfl]
      refine tE_then r2 (q2.bind.monoG (e1.trans e2) fun _ _ z => z) fun z ρ3 G3 H3 w3 e3 r3 a3 q3 => ?_
      split at q3
      · rename_i dz
        obtain ⟨rv, hrv, q4⟩ := q3.lift
        obtain ⟨kk, hk, rfl⟩ := Option.map_eq_some_iff.mp hrv
        exact cmp_ok hk r3.fz (.inl (Dat.mono e3 ay)) (.inl a3) ⟨kk, rfl, q4 G3 H3 ((e1.trans e2).trans e3) r3⟩
      · exact q3.elim
    · rename_i hc
      refine cmp_ok hc r2.fz (.inl ax) (.inl ay) ⟨false, rfl, ?_⟩
      rw [if_neg Bool.false_ne_true]
      exact ⟨false, rfl, q2 G2 H2 (e1.trans e2) r2⟩
    · exact q2.elim
  · exact q2.elim
theorem ES_idx (ha : ESound (Γ := Γ) (cT := cT) a) (hb : ESound (Γ := Γ) (cT := cT) b) : ESound (Γ := Γ) (cT := cT) (.idx a b) := by
  intro c k X W e g h
  simp only [chkE] at h
  split at h <;> try cases h
  rename_i ea ei p
  obtain ⟨h12, h3⟩ := ba2 h
  obtain ⟨h1, h2⟩ := ba2 h12
  refine peW (pe_ix ix_seq (ha c k X W ea g h1) (hb c k X W ei g h2) (plainIx h3)) fun σ H Q ⟨M, R, G, ρ, r, q⟩ => ?_
  unfold evR at q
  refine tE_then r q.bind fun x ρ1 G1 H1 v e1 r1 a1 q1 => ?_
  refine tE_then r1 (q1.bind.monoG e1 fun _ _ z => z) fun y ρ2 G2 H2 w e2 r2 a2 q2 => ?_
  split at q2
  · rename_i dx dy hx hy
    obtain ⟨rv, hrv, q3⟩ := q2.lift
    obtain ⟨d, hd, rfl⟩ := Option.map_eq_some_iff.mp hrv
    exact idx_ok hd r2 ((a1.mono e2).rdb r2 hx) (a2.rdb r2 hy) (Res.mono q3 (e1.trans e2))
  · exact q2.elim
def plainT : Expr → Bool
  | .UnaryOp .Not _ _ => false
  | .BoolOp .. => false
  | .IfExp .. => false
  | .Compare .. => false
  | _ => true
theorem isTrue_of {X : Cx} {e : Expr} (h : plainT e = true) : ∀ whole, isTrue e X.env whole = (do let v ← whole; standAt e.pos; holding [v] (PySem.truthy v)) := by
  intro whole
  cases e with
  | UnaryOp op a p => cases op <;> first | rfl | (exact absurd h (by simp [plainT]))
  | BoolOp => exact absurd h (by simp [plainT])
  | IfExp => exact absurd h (by simp [plainT])
  | Compare => exact absurd h (by simp [plainT])
  | _ => rfl
theorem TS_gen (ha : ESound (Γ := Γ) (cT := cT) a) (hp : ∀ c e, chkE c a e = true → plainT e = true) (hev : ∀ ρ, evT Γ a ρ = (evR Γ a ρ).bind fun x ρ => match cnt ρ x with
    | some d => lift (Vi.truthy d) ρ
    | none => .no) : TSound (Γ := Γ) (cT := cT) a := by
  intro c k X W e g h
  refine ptW (pt_truth (ha c k X W e g h) (isTrue_of (hp c e h))) fun σ H Q ⟨M, R, G, ρ, r, q⟩ => ?_
  rw [hev] at q
  refine tE_then r q.bind fun x ρ1 G1 H1 v e1 r1 a1 q1 => ?_
  split at q1
  · rename_i d hd
    obtain ⟨kk, hk, q2⟩ := q1.lift
    exact ⟨kk, tru_okD hk r1.fz (a1.rdb r1 hd), q2 G1 H1 e1 r1⟩
  · exact q1.elim
theorem TS_not (ta : TSound (Γ := Γ) (cT := cT) a) : TSound (Γ := Γ) (cT := cT) (.not a) := by
  intro c k X W e g h
  simp only [chkE] at h
  split at h <;> try cases h
  rename_i ea p
  refine ptW (pt_not (ta c k X W ea g h)) fun σ H Q ⟨M, R, G, ρ, r, q⟩ => ?_
  unfold evT at q
  exact ⟨M, R, G, ρ, r, q.bind.imp fun b ρ1 q1 => q1⟩
theorem TS_and (ta : TSound (Γ := Γ) (cT := cT) a) (tb : TSound (Γ := Γ) (cT := cT) b) : TSound (Γ := Γ) (cT := cT) (.and a b) := by
  intro c k X W e g h
  simp only [chkE] at h
  split at h <;> try cases h
  rename_i x y l p
  obtain ⟨h1, h2⟩ := ba2 h
  have hr : PW X (.BoolOp .And (y :: l) p) (tT Γ cT X.K W b) := by
    cases l with
    | nil => exact pw_and1 (tb c k X W y g h2)
    | cons z l =>
      have := tb c k X W _ g h2
      exact ⟨fun whole pins s σ H Q I q => by
        have z := this.run pins s σ H Q I q
        exact z⟩
  refine ptW (PW.pt (pw_and (ta c k X W x g h1) hr)) fun σ H Q ⟨M, R, G, ρ, r, q⟩ => ?_
  unfold evT at q
  refine ⟨M, R, G, ρ, r, q.bind.imp fun b ρ1 q1 G1 H1 e1 r1 => ?_⟩
  cases b with
  | true =>
    rw [if_pos rfl] at q1 ⊢
    exact ⟨M, R, G1, ρ1, r1, q1.monoG e1 fun b ρ2 z G2 H2 e2 r2 => z G2 H2 (e1.trans e2) r2⟩
  | false =>
    rw [if_neg Bool.false_ne_true] at q1 ⊢
    exact q1 G1 H1 e1 r1
theorem TS_or (ta : TSound (Γ := Γ) (cT := cT) a) (tb : TSound (Γ := Γ) (cT := cT) b) : TSound (Γ := Γ) (cT := cT) (.or a b) := by
  intro c k X W e g h
  simp only [chkE] at h
  split at h <;> try cases h
  rename_i x y l p
  obtain ⟨h1, h2⟩ := ba2 h
  have hr : PW X (.BoolOp .Or (y :: l) p) (tT Γ cT X.K W b) := by
    cases l with
    | nil => exact pw_or1 (tb c k X W y g h2)
    | cons z l =>
      have := tb c k X W _ g h2
      exact ⟨fun whole pins s σ H Q I q => by
        have z := this.run pins s σ H Q I q
        exact z⟩
  refine ptW (PW.pt (pw_or (ta c k X W x g h1) hr)) fun σ H Q ⟨M, R, G, ρ, r, q⟩ => ?_
  unfold evT at q
  refine ⟨M, R, G, ρ, r, q.bind.imp fun b ρ1 q1 G1 H1 e1 r1 => ?_⟩
  cases b with
  | true =>
    rw [if_pos rfl] at q1 ⊢
    exact q1 G1 H1 e1 r1
  | false =>
    rw [if_neg Bool.false_ne_true] at q1 ⊢
    exact ⟨M, R, G1, ρ1, r1, q1.monoG e1 fun b ρ2 z G2 H2 e2 r2 => z G2 H2 (e1.trans e2) r2⟩
end
end Vi
set_option maxHeartbeats 4000000
namespace Vi
open PySem PySem.Spec PyProof.Rows L2
section
variable {Γ : Cn} {cT : Nat → Addr} {K : PySem.W.Frag} {W : WX} {M : Mk} {R G G' H : Hp} {ρ ρ' : En} {σ : L2.St} {Q : VK} {a b : Tm} {x : Rv} {v : V} {d : D}
theorem escape (r : Rel K M R G ρ σ H) (h : AvIs K G σ x v) (he : esc x ρ = .ok d ρ') : ∃ G', Same G G' ∧ Rel K M R G' ρ' σ H ∧ Dat K G' v d := by
  cases x with
  | dat e => cases he; exact ⟨G, Same.refl _, r, h⟩
  | new o => cases he; exact ⟨G, Same.refl _, r, h⟩
  | ref i =>
    have he : (match ρ[i]? with
      | some (.own .loc o) => Rs.ok o.toD (ρ.set i (.dat o.toD))
      | _ => .no) = .ok d ρ' := he
    split at he
    · rename_i o ho
      cases he
      obtain ⟨p, u, h1, h2, h3, h4, h5⟩ := r.freeze ho
      have e : v = .ref p := by
        have h : σ[i]? = some (some v) := h
        rw [h1] at h; simpa using h.symm
      subst e
      exact ⟨_, same_new h2, h5, h4⟩
    · cases he
theorem esc_cases (x : Rv) (ρ : En) : esc x ρ = .no ∨ ∃ d ρ', esc x ρ = .ok d ρ' := by
  cases x with
  | dat e => exact .inr ⟨_, _, rfl⟩
  | new o => exact .inr ⟨_, _, rfl⟩
  | ref i =>
    show (match ρ[i]? with
      | some (.own .loc o) => Rs.ok o.toD (ρ.set i (.dat o.toD))
      | _ => .no) = .no ∨ ∃ d ρ', (match ρ[i]? with
      | some (.own .loc o) => Rs.ok o.toD (ρ.set i (.dat o.toD))
      | _ => .no) = .ok d ρ'
    split
    · exact .inr ⟨_, _, rfl⟩
    · exact .inl rfl
theorem Post.esc {α : Type} {f : D → En → Rs α} {P : α → En → Prop} (h : Post K cT W M R G σ ((Vi.esc x ρ).bind f) P) : ∃ d ρ', Vi.esc x ρ = .ok d ρ' ∧ Post K cT W M R G σ (f d ρ') P := by
  rcases esc_cases x ρ with e | ⟨d, ρ', e⟩
  · rw [e] at h; exact h.elim
  · rw [e] at h; exact ⟨d, ρ', e, h⟩
theorem As_sound : ∀ (as : List Tm), (∀ a ∈ as, ESound (Γ := Γ) (cT := cT) a) → ∀ (c : Cc) (k : Nat) (X : Cx) (W : WX) (es : List Expr), Good Γ cT c k X W → chkAs c as es = true → PA X es (tAs Γ cT X.K W as)
  | [], _, c, k, X, W, es, g, h => by
    simp only [chkAs] at h
    split at h <;> try cases h
    refine paW pa_nil fun σ H Q ⟨M, R, G, ρ, r, q⟩ => ?_
    unfold evAs at q
    exact q G H [] (Same.refl _) r .nil
  | a :: as, ih, c, k, X, W, es, g, h => by
    simp only [chkAs] at h
    split at h <;> try cases h
    rename_i e es
    obtain ⟨h12, h3⟩ := ba2 h
    obtain ⟨h1, h2⟩ := ba2 h12
    refine paW (pa_cons (ih a (List.mem_cons_self ..) c k X W e g h1) (As_sound as (fun b hb => ih b (List.mem_cons_of_mem _ hb)) c k X W es g h3) (star1 h2)) fun σ H Q ⟨M, R, G, ρ, r, q⟩ => ?_
    unfold evAs at q
    refine tE_then r q.bind fun x ρ1 G1 H1 v e1 r1 a1 q1 => ?_
    refine ⟨M, R, G1, ρ1, r1, q1.bind.monoG e1 fun rs ρ2 z G2 H2 vs e2 r2 p2 => ?_⟩
    exact z G2 H2 (v :: vs) (e1.trans e2) r2 (.cons (a1.mono e2) p2)
theorem Ks_sound : ∀ (as : List Tm), (∀ a ∈ as, ESound (Γ := Γ) (cT := cT) a) → ∀ (c : Cc) (k : Nat) (X : Cx) (W : WX) (kws : List Keyword), Good Γ cT c k X W → chkAs c as (kws.map (·.value)) = true → PK X kws (tAs Γ cT X.K W as)
  | [], _, c, k, X, W, kws, g, h => by
    cases kws with
    | nil =>
      refine ⟨fun pos pins s σ H Q I ⟨M, R, G, ρ, r, q⟩ => pk_nil.run pos pins s σ H Q I ?_⟩
      unfold evAs at q
      exact q G H [] (Same.refl _) r .nil
    | cons _ _ => simp [chkAs] at h
  | a :: as, ih, c, k, X, W, kws, g, h => by
    cases kws with
    | nil => simp [chkAs] at h
    | cons kw kws =>
      obtain ⟨nm, e, kp⟩ := kw
      simp only [chkAs, List.map_cons] at h
      obtain ⟨h12, h3⟩ := ba2 h
      obtain ⟨h1, h2⟩ := ba2 h12
      have hp := pk_cons (nm := nm) (kpos := kp) (ih a (List.mem_cons_self ..) c k X W e g h1) (Ks_sound as (fun b hb => ih b (List.mem_cons_of_mem _ hb)) c k X W kws g h3)
      refine ⟨fun pos pins s σ H Q I ⟨M, R, G, ρ, r, q⟩ => hp.run pos pins s σ H Q I ?_⟩
      unfold evAs at q
      refine tE_then r q.bind fun x ρ1 G1 H1 v e1 r1 a1 q1 => ?_
      refine ⟨M, R, G1, ρ1, r1, q1.bind.monoG e1 fun rs ρ2 z G2 H2 vs e2 r2 p2 => ?_⟩
      exact z G2 H2 (v :: vs) (e1.trans e2) r2 (.cons (a1.mono e2) p2)
theorem Ds_sound : ∀ (as : List Tm), (∀ a ∈ as, ESound (Γ := Γ) (cT := cT) a) → ∀ (c : Cc) (k : Nat) (X : Cx) (W : WX) (es : List Expr), Good Γ cT c k X W → chkAs c as es = true → PA X es (tDs Γ cT X.K W as)
  | [], _, c, k, X, W, es, g, h => by
    simp only [chkAs] at h
    split at h <;> try cases h
    refine paW pa_nil fun σ H Q ⟨M, R, G, ρ, r, q⟩ => ?_
    unfold evDs at q
    exact q G H [] (Same.refl _) r .nil
  | a :: as, ih, c, k, X, W, es, g, h => by
    simp only [chkAs] at h
    split at h <;> try cases h
    rename_i e es
    obtain ⟨h12, h3⟩ := ba2 h
    obtain ⟨h1, h2⟩ := ba2 h12
    refine paW (pa_cons (ih a (List.mem_cons_self ..) c k X W e g h1) (Ds_sound as (fun b hb => ih b (List.mem_cons_of_mem _ hb)) c k X W es g h3) (star1 h2)) fun σ H Q ⟨M, R, G, ρ, r, q⟩ => ?_
    unfold evDs at q
    refine tE_then r q.bind fun x ρ1 G1 H1 v e1 r1 a1 q1 => ?_
    obtain ⟨d, ρ2, he, q2⟩ := q1.esc
    obtain ⟨G2, e2, r2, d2⟩ := escape r1 a1 he
    refine ⟨M, R, G2, ρ2, r2, q2.bind.monoG (e1.trans e2) fun ds ρ3 z G3 H3 vs e3 r3 p3 => ?_⟩
    exact z G3 H3 (v :: vs) ((e1.trans e2).trans e3) r3 (.cons (d2.mono e3) p3)
theorem len_sz {n : Nat} (h : n ≤ 1000000) : n ≤ sizeLine := by rw [sizeLine_eq]; omega
theorem ES_tup {as : List Tm} (ih : ∀ a ∈ as, ESound (Γ := Γ) (cT := cT) a) : ESound (Γ := Γ) (cT := cT) (.tup as) := by
  intro c k X W e g h
  simp only [chkE] at h
  split at h <;> try cases h
  rename_i es y p
  refine peW (pe_tupF (Ds_sound as ih c k X W es g h)) fun σ H Q ⟨M, R, G, ρ, r, q⟩ => ?_
  unfold evR at q
  refine ⟨M, R, G, ρ, r, q.bind.imp fun ds ρ1 q1 G1 H1 vs e1 r1 t1 => ?_⟩
  split at q1
  · rename_i hl
    refine ⟨by rw [t1.length]; exact sz_of hl, fun p o hp ho => ?_⟩
    exact (Res.mono q1 e1).mk r1 hp (.tup (.new ho) (t1.mono (same_new (none_of r1.fz hp))))
  · exact q1.elim
theorem ES_lst {as : List Tm} (ih : ∀ a ∈ as, ESound (Γ := Γ) (cT := cT) a) : ESound (Γ := Γ) (cT := cT) (.lst as) := by
  intro c k X W e g h
  simp only [chkE] at h
  split at h <;> try cases h
  rename_i es p
  refine peW (pe_lst (Ds_sound as ih c k X W es g h)) fun σ H Q ⟨M, R, G, ρ, r, q⟩ => ?_
  unfold evR at q
  refine ⟨M, R, G, ρ, r, q.bind.imp fun ds ρ1 q1 G1 H1 vs e1 r1 t1 => ?_⟩
  split at q1
  · rename_i hl
    exact ⟨by rw [t1.length]; exact sz_of hl, fun p hp => (Res.mono q1 e1).mkL r1 hp t1⟩
  · exact q1.elim
theorem O_none {c : Cc} {k : Nat} {X : Cx} {W : WX} {e : Option Expr} (h : chkO c none e = true) : PO X e (tO Γ cT X.K W none) := by
  simp only [chkO] at h
  split at h <;> try cases h
  refine ⟨fun pins s σ H Q I ⟨M, R, G, ρ, r, q⟩ => po_none.run pins s σ H Q I ?_⟩
  unfold evO at q
  exact q G H (Same.refl _) r
theorem O_some {a : Tm} (ha : ESound (Γ := Γ) (cT := cT) a) {c : Cc} {k : Nat} {X : Cx} {W : WX} {e : Option Expr} (g : Good Γ cT c k X W) (h : chkO c (some a) e = true) : PO X e (tO Γ cT X.K W (some a)) := by
  simp only [chkO] at h
  split at h <;> try cases h
  rename_i e
  refine ⟨fun pins s σ H Q I ⟨M, R, G, ρ, r, q⟩ => (po_some (ha c k X W e g h)).run pins s σ H Q I ?_⟩
  unfold evO at q
  refine tE_then r q.bind fun x ρ1 G1 H1 v e1 r1 a1 q1 => ?_
  split at q1
  · cases a1.int
    exact ⟨_, rfl, q1 G1 H1 e1 r1⟩
  · exact q1.elim
theorem O_sound {o : Option Tm} (ho : ∀ a, o = some a → ESound (Γ := Γ) (cT := cT) a) {c : Cc} {k : Nat} {X : Cx} {W : WX} {e : Option Expr} (g : Good Γ cT c k X W) (h : chkO c o e = true) : PO X e (tO Γ cT X.K W o) := by
  cases o with
  | none => exact O_none (k := k) h
  | some a => exact O_some (ho a rfl) g h
theorem ES_slc {lo hi : Option Tm} (ha : ESound (Γ := Γ) (cT := cT) a) (hl : ∀ b, lo = some b → ESound (Γ := Γ) (cT := cT) b) (hh : ∀ b, hi = some b → ESound (Γ := Γ) (cT := cT) b) : ESound (Γ := Γ) (cT := cT) (.slc a lo hi) := by
  intro c k X W e g h
  simp only [chkE] at h
  split at h <;> try cases h
  rename_i ea l u p2 p
  obtain ⟨h12, h3⟩ := ba2 h
  obtain ⟨h1, h2⟩ := ba2 h12
  refine peW (pe_slice sl_slc (ha c k X W ea g h1) (O_sound hl g h2) (O_sound hh g h3)) fun σ H Q ⟨M, R, G, ρ, r, q⟩ => ?_
  unfold evR at q
  refine tE_then r q.bind fun x ρ1 G1 H1 v e1 r1 a1 q1 => ?_
  refine ⟨M, R, G1, ρ1, r1, q1.bind.monoG e1 fun ol ρ2 q2 G2 H2 e2 r2 => ?_⟩
  refine ⟨M, R, G2, ρ2, r2, q2.bind.monoG (e1.trans e2) fun oh ρ3 q3 G3 H3 e3 r3 => ?_⟩
  split at q3
  · rename_i dx hx
    obtain ⟨rv, hrv, q4⟩ := q3.lift
    exact slc_ok hrv r3 ((a1.mono (e2.trans e3)).rdb r3 hx) (Res.mono q4 ((e1.trans e2).trans e3))
  · exact q3.elim
theorem cnts_rdb (r : Rel K M R G ρ σ H) : ∀ {rs : List Rv} {vs : List V} {ds : List D}, Paired (fun a v => AvIs K G σ a v) rs vs → cnts ρ rs = some ds → Rdbs K G H vs ds
  | _, _, ds, .nil, h => by cases h; exact .nil
  | _, _, ds, .cons h1 t1, h => by
    unfold cnts at h
    split at h
    · rename_i d hd
      obtain ⟨ds', hds, rfl⟩ := Option.map_eq_some_iff.mp h
      exact .cons (h1.rdb r hd) (cnts_rdb r t1 hds)
    · cases h
theorem memC {l : List String} {x : String} (h : l.contains x = true) : x ∈ l := by simpa using h
theorem ES_bi {f : Bi} {as : List Tm} (ih : ∀ a ∈ as, ESound (Γ := Γ) (cT := cT) a) : ESound (Γ := Γ) (cT := cT) (.bi f as) := by
  intro c k X W e g h
  simp only [chkE] at h
  split at h <;> try cases h
  rename_i x p0 e es p
  obtain ⟨h123, h4⟩ := ba2 h
  obtain ⟨h12, h3⟩ := ba2 h123
  obtain ⟨h1, h2⟩ := ba2 h12
  have h1 := of_decide_eq_true h1
  subst h1
  have hpa := As_sound as ih c k X W (e :: es) g h4
  have hns : ((e :: es).all fun e => !isStar e) = true := by
    clear hpa ih
    have : ∀ (as : List Tm) (es : List Expr), chkAs c as es = true → (es.all fun e => !isStar e) = true := by
      intro as
      induction as with
      | nil => intro es h; cases es with
        | nil => rfl
        | cons _ _ => simp [chkAs] at h
      | cons a as ih => intro es h; cases es with
        | nil => rfl
        | cons e es =>
          simp only [chkAs] at h
          obtain ⟨q12, q3⟩ := ba2 h
          rw [List.all_cons, (ba2 q12).2, ih es q3]; rfl
    exact this as _ h4
  have hn1 : (!isStar e) = true := by rw [List.all_cons] at hns; exact (ba2 hns).1
  have hn2 : (es.all fun e => !isStar e) = true := by rw [List.all_cons] at hns; exact (ba2 hns).2
  have goal : ∀ σ H Q, tE Γ cT X.K W (.bi f as) σ H Q → tCB (rBi X.K f) (tAs Γ cT X.K W as) σ H Q := fun σ H Q ⟨M, R, G, ρ, r, q⟩ => by
    unfold evR at q
    refine ⟨M, R, G, ρ, r, q.bind.imp fun rs ρ1 q1 G1 H1 vs e1 r1 t1 => ?_⟩
    split at q1
    · rename_i ds hds
      obtain ⟨rv, hrv, q2⟩ := q1.lift
      exact bi_ok hrv r1 (cnts_rdb r1 t1 hds) (Res.mono q2 e1)
    · exact q1.elim
  have cr := callR_bi (X := X) g.calm g.units f
  cases f <;> first
    | exact peW (pe_callB cr (g.gl_ h2) (g.bi _ (memC h3)) (by decide +kernel) hpa (by decide) (by decide) (star1 hn1) (backTo_noStar hn2)) goal
    | exact peW (pe_callTy cr (g.gl_ h2) (g.bi _ (memC h3)) (by decide +kernel) hpa (by decide) (by decide) (star1 hn1) (backTo_noStar hn2)) goal
    | exact peW (pe_callBfun cr (g.gl_ h2) (g.gcd h3) hpa (by decide) (star1 hn1) (backTo_noStar hn2)) goal
theorem pe_ty {c : Cc} {k : Nat} {X : Cx} {t : Ty} {e : Expr} (g : Good Γ cT c k X W) (h : tyB c t e = true) : PE X e (L2.tC (.ty t.nm)) := by
  unfold tyB at h
  split at h <;> try cases h
  rename_i x p
  obtain ⟨h12, h3⟩ := ba2 h
  obtain ⟨h1, h2⟩ := ba2 h12
  have h1 := of_decide_eq_true h1
  subst h1
  cases t <;> exact pe_bltn (g.gl_ h2) (g.bi _ (memC h3)) (by decide +kernel) (v := .ty _) rfl (by decide) (by decide)
theorem pa_tys {c : Cc} {k : Nat} {X : Cx} (g : Good Γ cT c k X W) : ∀ {ts : List Ty} {es : List Expr}, tysB c ts es = true → PA X es (fun _ H Q => Q (ts.map fun t => .ty t.nm) H)
  | [], [], _ => pa_nil
  | [], _ :: _, h => by simp [tysB] at h
  | _ :: _, [], h => by simp [tysB] at h
  | t :: ts, e :: es, h => by
    unfold tysB at h
    obtain ⟨h12, h3⟩ := ba2 h
    obtain ⟨h1, h2⟩ := ba2 h12
    exact paW (pa_cons (pe_ty g h1) (pa_tys g h3) (star1 h2)) fun σ H Q q => q
theorem tys_len {c : Cc} : ∀ {ts : List Ty} {es : List Expr}, tysB c ts es = true → ts.length = es.length
  | [], [], _ => rfl
  | [], _ :: _, h => by simp [tysB] at h
  | _ :: _, [], h => by simp [tysB] at h
  | t :: ts, e :: es, h => by
    unfold tysB at h
    simp [tys_len (ba2 h).2]
theorem paired_ty : ∀ ts : List Ty, Paired ClsV (ts.map fun t => V.ty t.nm) (ts.map fun t => Value.type t.nm)
  | [] => .nil
  | t :: ts => .cons (.ty _) (paired_ty ts)
theorem ES_isi {ts : List Ty} (ha : ESound (Γ := Γ) (cT := cT) a) : ESound (Γ := Γ) (cT := cT) (.isi a ts) := by
  intro c k X W e g h
  simp only [chkE] at h
  split at h <;> try cases h
  rename_i x p0 ea et p
  obtain ⟨h12345, h6⟩ := ba2 h
  obtain ⟨h1234, h5⟩ := ba2 h12345
  obtain ⟨h123, h4⟩ := ba2 h1234
  obtain ⟨h12, h3⟩ := ba2 h123
  obtain ⟨h1, h2⟩ := ba2 h12
  have h1 := of_decide_eq_true h1
  subst h1
  split at h6
  · rename_i y p1
    split at h6
    · rename_i t
      have hpa := pa_cons (ha c k X W ea g h4) (pa_cons (pe_ty g h6) pa_nil) (star1 h5)
      refine peW (pe_callB call_isiD (g.gl_ h2) (g.bi _ (memC h3)) (by decide +kernel) hpa (by decide) (by decide) (star1 h5) (by rfl)) fun σ H Q ⟨M, R, G, ρ, r, q⟩ => ?_
      unfold evR at q
      refine tE_then r q.bind fun x ρ1 G1 H1 v e1 r1 a1 q1 => ?_
      split at q1
      · rename_i d hd
        have rd := a1.rdb r1 hd
        refine ⟨v, .ty t.nm, .type (tyN d), .type t.nm, _, rfl, .ty _, rd.tyD r1.fz, kit_one d t, ?_⟩
        have q2 := Res.now (Res.mono q1 e1) r1 (Dat.bl _)
        simpa using q2
      · exact q1.elim
    · cases h6
  · rename_i es y p1
    obtain ⟨h6, hl⟩ := ba2 h6
    have hpt := pa_tys g h6
    have hpa := pa_cons (ha c k X W ea g h4) (pa_cons (pe_tup (x1 := y) (pos := p1) hpt) pa_nil) (star1 h5)
    refine peW (pe_callB call_isiTD (g.gl_ h2) (g.bi _ (memC h3)) (by decide +kernel) hpa (by decide) (by decide) (star1 h5) (by rfl)) fun σ H Q ⟨M, R, G, ρ, r, q⟩ => ?_
    unfold evR at q
    refine tE_then r q.bind fun x ρ1 G1 H1 v e1 r1 a1 q1 => ?_
    split at q1
    · rename_i d hd
      refine ⟨by rw [List.length_map]; exact sz_of hl, fun p hp => ?_⟩
      have r2 := r1.make (u := .tup (ts.map fun t => V.ty t.nm)) hp
      have rd := a1.rdb r2 hd
      refine ⟨v, p, _, .type (tyN d), ts.map fun t => .type t.nm, _, rfl, upd_same, paired_ty ts, rd.tyD r2.fz, kit_any d ts, ?_⟩
      exact Res.now (Res.mono q1 e1) r2 (Dat.bl _)
    · exact q1.elim
  · cases h6
theorem base_of {env : Env} {o : Expr} {m : Str} (h : isSuper o = false) : attributeBase o m env (eval o env) = eval o env := by
  cases o <;> first | rfl | cases h
theorem hfew_of {env : Env} {e : Expr} {q : Pos} (h : (!isStar e) = true) : ((backTo q (starEach [e] env)).all (fun x => !x.1) && (backToKw q (keywordEach [] env)).all (fun x => x.1.isSome)
      && decide ([e].length + ([] : List Keyword).length + (if ([] : List Keyword).isEmpty then 0 else 1) < 30)) = true := by
  rw [star1 h]; rfl
theorem chkAs1 {c : Cc} {as : List Tm} {e : Expr} (h : chkAs c as [e] = true) : ∃ a, as = [a] ∧ chkE c a e = true ∧ (!isStar e) = true := by
  cases as with
  | nil => simp [chkAs] at h
  | cons a as =>
    simp only [chkAs] at h
    obtain ⟨h12, h3⟩ := ba2 h
    cases as with
    | nil => exact ⟨a, rfl, (ba2 h12).1, (ba2 h12).2⟩
    | cons b as => simp [chkAs] at h3
def tBMT (K : PySem.W.Frag) (r : V → List V → Hp → VK → Prop) (to : TE) (t : TA) : TE := fun σ H Q => to σ H fun x H1 => (∃ p xs, x = .ref p ∧ TupF K H1 p xs) ∧ t σ H1 fun xs H2 => r x xs H2 Q
theorem pe_bmT {X : Cx} {o e : Expr} {es : List Expr} {to : TE} {t : TA} {name : Str} {apos cpos : Pos} {id : String} {r : V → List V → Hp → VK → Prop} (slot : Slot "tuple" name id) (hty : typeOf (.builtin id) = pure (.type "method_descriptor")) (hm : MtR X id r) (ho : PE X o to) (ha : PA X (e :: es) t)
    (hbase : attributeBase o name X.env (eval o X.env) = eval o X.env)
    (hfew : ((backTo cpos (starEach (e :: es) X.env)).all (fun x => !x.1) && (backToKw cpos (keywordEach [] X.env)).all (fun x => x.1.isSome)
      && decide ((e :: es).length + ([] : List Keyword).length + (if ([] : List Keyword).isEmpty then 0 else 1) < 30)) = true)
    (hline : (apos.endLine == cpos.line) = true) (hs : starEach (e :: es) X.env = (false, eval e X.env) :: starEach es X.env) (hplain : (backTo cpos (starEach es X.env)).any (·.1) = false) :
    PE X (.Call (.Attribute o name apos) (e :: es) [] cpos) (tBMT X.K r to t) := by
  refine ⟨fun pins s σ H Q I h => ?_⟩
  refine wpAny_Call_method_late hbase hfew hline rfl (thn (ho.run pins s σ H _ I h) fun v s1 ⟨x, H1, I1, r1, ⟨p, xs, ex, ht⟩, q1⟩ => ?_)
  subst ex
  cases r1
  have hd : s1.TypeIs (.ref p) "tuple" ∧ ∃ ob, s1.heap.get? p = some ob ∧ ob.dict = none := by
    rcases ht with ⟨ob, h1, h2⟩ | ⟨ob, its, n, h1, h2, h3, h4, h5, h6⟩
    · obtain ⟨g1, g2⟩ := (show ObjOk X.prog X.w H1 s1.heap p (.frz ob (.tup xs)) from I1.hok p _ h1)
      obtain ⟨_, its, _, o2, k1, k2, _⟩ := g2
      rw [g1] at k1; cases k1
      exact ⟨⟨ob, g1, k2⟩, ob, g1, h2⟩
    · have g1 := I1.kIn p ob h1
      exact ⟨⟨ob, g1, h2⟩, ob, g1, h6⟩
  refine ⟨"tuple", id, PySem.F.plainAttrs_tuple, slot, hty, hd.1, fun a ea => by cases ea; exact hd.2, ?_⟩
  have hA := ha.run cpos pins s1 σ H1 _ I1 q1
  rw [hs] at hA ⊢
  refine Calls.callWith_builtin (by show (false || (backTo cpos (starEach es X.env)).any (·.1)) = false; rw [hplain] <;> rfl) (Calls.evalArgs_plain ?_)
  exact thn hA fun us s2 ⟨vs, H2, I2, r2, q2⟩ => hm pins s2 σ H2 (.ref p) vs (.ref p) us Q I2 rfl r2 q2
theorem Ob.toD_tup {o : Ob} {xs : List D} (h : o.toD = .tuple xs) : False := by
  cases o <;> cases h
theorem cnt_tup {x : Rv} {xs : List D} (h : cnt ρ x = some (.tuple xs)) : x = .dat (.tuple xs) := by
  cases x with
  | dat d =>
    have h : some d = some (PyData.tuple xs) := h
    cases h; rfl
  | new o =>
    have h : some o.toD = some (PyData.tuple xs) := h
    exact (Ob.toD_tup (Option.some.inj h)).elim
  | ref i =>
    simp only [cnt] at h
    split at h
    · exact (Ob.toD_tup (Option.some.inj h)).elim
    · cases h
theorem cnts_one {rs : List Rv} {vs : List V} {d : D} (r : Rel K M R G ρ σ H) (t : Paired (fun a v => AvIs K G σ a v) rs vs) (h : cnts ρ rs = some [d]) : ∃ w, vs = [w] ∧ Rdb K G H w d := (cnts_rdb r t h).one
theorem ES_mth {m : Mt} {as : List Tm} (ha : ESound (Γ := Γ) (cT := cT) a) (ih : ∀ a ∈ as, ESound (Γ := Γ) (cT := cT) a) : ESound (Γ := Γ) (cT := cT) (.mth m a as) := by
  intro c k X W e g h
  simp only [chkE] at h
  split at h <;> try cases h
  rename_i ea x p e q0
  obtain ⟨h1234, h5⟩ := ba2 h
  obtain ⟨h123, h4⟩ := ba2 h1234
  obtain ⟨h12, h3⟩ := ba2 h123
  obtain ⟨h1, h2⟩ := ba2 h12
  obtain ⟨a1, rfl, _, hns⟩ := chkAs1 h3
  have h4 : isSuper ea = false := by simpa using h4
  cases m with
  | count =>
    have h1 := of_decide_eq_true h1
    subst h1
    refine peW (pe_bmT PySem.F.slot_tuple_count PySem.F.type_tuple_count (mt_cntT (X := X) g.units) (ha c k X W ea g h2) (As_sound [a1] ih c k X W [e] g h3) (base_of h4) (hfew_of hns) h5 (star1 hns) (by rfl)) fun σ H Q ⟨M, R, G, ρ, r, q⟩ => ?_
    unfold evR at q
    refine tE_then r q.bind fun x ρ1 G1 H1 v e1 r1 av1 q1 => ?_
    split at q1
    · rename_i d hd0
      split at q1
      · rename_i hok
        have hdt : ∃ xs, d = .tuple xs := by
          cases d <;> first | exact ⟨_, rfl⟩ | cases hok
        obtain ⟨xs, rfl⟩ := hdt
        obtain rfl := cnt_tup hd0
        · have dd : Dat X.K G1 v (.tuple xs) := av1
          refine ⟨?_, M, R, G1, ρ1, r1, q1.bind.monoG e1 fun rs ρ2 q2 G2 H2 ws e2 r2 t2 => ?_⟩
          · cases dd with
            | tup h t => exact ⟨_, _, rfl, h.mono r1.fz⟩
          · split at q2
            · rename_i d' ds hd' hds
              have hd' : some (PyData.tuple xs) = some d' := hd'
              cases hd'
              obtain ⟨rv, hrv, q3⟩ := q2.lift
              have hw := cnts_rdb r2 t2 hds
              cases ds with
              | nil => simp [mtD] at hrv
              | cons d1 ds =>
                cases ds with
                | cons d2 ds => simp [mtD] at hrv
                | nil =>
                  obtain ⟨w, rfl, hw1⟩ := Rdbs.one hw
                  have hrv : (if okD d1 && okD (.tuple xs) then some (Rv.dat (.int (xs.countP fun z => PyData.eqv z d1))) else none) = some rv := hrv
                  split at hrv
                  · rename_i c
                    have c0 : (okD d1 && okD (.tuple xs)) = true := c
                    cases hrv
                    have c1 := SeqAt.canLay_of_shaped (okD_sh (ba2 c0).2)
                    refine ⟨w, d1, xs, rfl, (Rdb.of (H := H2) (Dat.mono e2 dd)).dp r2.fz (okD_nd (ba2 c0).2), hw1.dp r2.fz (okD_nd (ba2 c0).1), ?_, PyData.plain_of_canLay0 _ (SeqAt.canLay_of_shaped (okD_sh (ba2 c0).1)), okD_sh (ba2 c0).1, Res.now (Res.mono q3 (e1.trans e2)) r2 (Dat.int _)⟩
                    have := PyData.plain_of_canLay0 (.tuple xs) c1
                    simpa [PyData.plain] using this
                  · cases hrv
            · exact q2.elim
      · exact q1.elim
    · exact q1.elim
  | index =>
    have h1 := of_decide_eq_true h1
    subst h1
    refine peW (pe_bm PySem.F.plainAttrs_list PySem.F.slot_list_index PySem.F.type_list_index (mt_indexD (X := X) (Nat.lt_of_le_of_lt (Nat.add_le_add_left (by decide) _) g.units)) (ha c k X W ea g h2) (As_sound [a1] ih c k X W [e] g h3) (base_of h4) (hfew_of hns) h5 (star1 hns) (by rfl)) fun σ H Q ⟨M, R, G, ρ, r, q⟩ => ?_
    unfold evR at q
    refine tE_then r q.bind fun x ρ1 G1 H1 v e1 r1 av1 q1 => ?_
    split at q1
    · rename_i d hd0
      split at q1
      · rename_i hok
        have hdt : ∃ xs, d = .list xs := by
          cases d <;> first | exact ⟨_, rfl⟩ | cases hok
        obtain ⟨xs, rfl⟩ := hdt
        obtain ⟨pp, ws, rfl, hL, _⟩ := (av1.rdb r1 hd0).lst r1.fz
        refine ⟨.inl ⟨rfl, _, hL⟩, M, R, G1, ρ1, r1, q1.bind.monoG e1 fun rs ρ2 q2 G2 H2 us e2 r2 t2 => ?_⟩
        split at q2
        · rename_i d' ds hd' hds
          obtain ⟨rv, hrv, q3⟩ := q2.lift
          cases ds with
          | nil => cases d' <;> simp [mtD] at hrv
          | cons d1 ds =>
            cases ds with
            | cons d2 ds => cases d' <;> simp [mtD] at hrv
            | nil =>
              obtain ⟨w, rfl, hw1⟩ := cnts_one r2 t2 hds
              cases d' with
              | list ys =>
                have hrv : (if okD d1 && okD (.list ys) then (ys.findIdx? fun z => PyData.eqv z d1).map fun (j : Nat) => Rv.dat (.int (j : Int)) else none) = some rv := hrv
                split at hrv
                · rename_i c
                  have c0 : (okD d1 && okD (.list ys)) = true := c
                  obtain ⟨j, hj, rfl⟩ := Option.map_eq_some_iff.mp hrv
                  obtain ⟨hjl, hj1, hj2⟩ := List.findIdx?_eq_some_iff_getElem.mp hj
                  refine ⟨pp, w, d1, ys, j, ys[j], rfl, rfl, ((AvIs.mono e2 av1).rdb r2 hd').dp r2.fz (okD_nd (ba2 c0).2), hw1.dp r2.fz (okD_nd (ba2 c0).1), okD_sh (ba2 c0).2, okD_sh (ba2 c0).1, List.getElem?_eq_getElem hjl, hj1, fun m z' hm hz' => ?_, Res.now (Res.mono q3 (e1.trans e2)) r2 (Dat.int _)⟩
                  obtain ⟨hml, rfl⟩ := List.getElem?_eq_some_iff.mp hz'
                  have := hj2 m hm
                  simpa using this
                · cases hrv
              | none => simp [mtD] at hrv
              | bool _ => simp [mtD] at hrv
              | int _ => simp [mtD] at hrv
              | str _ => simp [mtD] at hrv
              | tuple _ => simp [mtD] at hrv
              | dict _ => simp [mtD] at hrv
        · exact q2.elim
      · exact q1.elim
    · exact q1.elim
theorem ES_app {i : Nat} (ha : ESound (Γ := Γ) (cT := cT) a) : ESound (Γ := Γ) (cT := cT) (.app i a) := by
  intro c k X W e g h
  simp only [chkE] at h
  split at h <;> try cases h
  rename_i x p0 m p e q0
  obtain ⟨h123456, h7⟩ := ba2 h
  obtain ⟨h12345, h6⟩ := ba2 h123456
  obtain ⟨h1234, h5⟩ := ba2 h12345
  obtain ⟨h123, h4⟩ := ba2 h1234
  obtain ⟨h12, h3⟩ := ba2 h123
  obtain ⟨h1, h2⟩ := ba2 h12
  have h1 := of_decide_eq_true h1
  subst h1
  have hv := pe_var (X := X) (i := i) (pos := p0) (by rw [g.N]; exact of_decide_eq_true h2) (g.vis h3) (okName1 h4) (okName2 h4)
  refine peW (pe_bm PySem.F.plainAttrs_list PySem.F.slot_list_append PySem.F.type_list_append (mt_append (X := X)) hv (pa_cons (ha c k X W e g h5) pa_nil (star1 h6)) (by rfl) (hfew_of h6) h7 (star1 h6) (by rfl)) fun σ H Q ⟨M, R, G, ρ, r, q⟩ => ?_
  unfold evR at q
  split at q
  · rename_i f0 l0 ho
    obtain ⟨p1, s1, g1, _, ob, _⟩ := r.own i f0 _ ho
    obtain ⟨vs0, hp0, _⟩ := ob
    refine ⟨_, s1, .inl ⟨rfl, vs0, .inl (.inl hp0)⟩, ?_⟩
    refine tE_then r q.bind fun x ρ1 G1 H1 v e1 r1 a1 q1 => ?_
    obtain ⟨d, ρ2, he, q2⟩ := q1.esc
    obtain ⟨G2, e2, r2, d2⟩ := escape r1 a1 he
    have fin : ∀ (f : Fl) (xs : List D), (f = .loc ∨ f = .par) → ρ2[i]? = some (.own f (.lst xs)) → lenOk xs.length = true → Res X.K M R G (ρ2.set i (.own f (.lst (xs ++ [d])))) σ (.dat .none) Q → rAppend (.ref p1) [v] H1 Q := fun f xs hf ho2 hl q3 => by
      obtain ⟨p2, s2, g2, _, ⟨vs, hp2, t2⟩, _⟩ := r2.own i f _ ho2
      have ep : p2 = p1 := by rw [s1] at s2; simpa using s2.symm
      subst ep
      refine ⟨p2, vs, v, rfl, rfl, hp2, ?_, ?_⟩
      · rw [t2.length]
        have : xs.length ≤ 1000000 := of_decide_eq_true hl
        rw [sizeLine_eq]; omega
      · exact Res.now (Res.mono q3 (e1.trans e2)) (r2.change ho2 hf s2 ⟨_, upd_same, t2.snoc d2⟩) Dat.non
    split at q2
    · rename_i xs ho2
      split at q2
      · rename_i hl; exact fin .loc xs (.inl rfl) ho2 hl q2
      · exact q2.elim
    · rename_i xs ho2
      split at q2
      · rename_i hl; exact fin .par xs (.inr rfl) ho2 hl q2
      · exact q2.elim
    · exact q2.elim
  · exact q.elim
theorem ES_ext {i : Nat} (ha : ESound (Γ := Γ) (cT := cT) a) : ESound (Γ := Γ) (cT := cT) (.ext i a) := by
  intro c k X W e g h
  simp only [chkE] at h
  split at h <;> try cases h
  rename_i x p0 m p e q0
  obtain ⟨h123456, h7⟩ := ba2 h
  obtain ⟨h12345, h6⟩ := ba2 h123456
  obtain ⟨h1234, h5⟩ := ba2 h12345
  obtain ⟨h123, h4⟩ := ba2 h1234
  obtain ⟨h12, h3⟩ := ba2 h123
  obtain ⟨h1, h2⟩ := ba2 h12
  have h1 := of_decide_eq_true h1
  subst h1
  have hv := pe_var (X := X) (i := i) (pos := p0) (by rw [g.N]; exact of_decide_eq_true h2) (g.vis h3) (okName1 h4) (okName2 h4)
  refine peW (pe_bm PySem.F.plainAttrs_list PySem.F.slot_list_extend PySem.F.type_list_extend (mt_extend (X := X)) hv (pa_cons (ha c k X W e g h5) pa_nil (star1 h6)) (by rfl) (hfew_of h6) h7 (star1 h6) (by rfl)) fun σ H Q ⟨M, R, G, ρ, r, q⟩ => ?_
  unfold evR at q
  split at q
  · rename_i f0 l0 ho
    obtain ⟨p1, s1, g1, _, ob, _⟩ := r.own i f0 _ ho
    obtain ⟨vs0, hp0, _⟩ := ob
    refine ⟨_, s1, .inl ⟨rfl, vs0, .inl (.inl hp0)⟩, M, R, G, ρ, r, q.bind.imp fun x ρ2 q2 G2 H1 v e1 r2 a1 => ?_⟩
    split at q2
    · rename_i ys
      obtain ⟨pb, rfl, _, _, _, vsb, hpb, tb⟩ := a1
      have fin : ∀ (f : Fl) (xs : List D), (f = .loc ∨ f = .par) → ρ2[i]? = some (.own f (.lst xs)) → lenOk (xs.length + ys.length) = true → Res X.K M R G (ρ2.set i (.own f (.lst (xs ++ ys)))) σ (.dat .none) Q → rExtend (.ref p1) [.ref pb] H1 Q := fun f xs hf ho2 hl q3 => by
        obtain ⟨p2, s2, g2, _, ⟨vs, hp2, t2⟩, _⟩ := r2.own i f _ ho2
        have ep : p2 = p1 := by rw [s1] at s2; simpa using s2.symm
        subst ep
        refine ⟨p2, pb, vs, vsb, rfl, rfl, hp2, hpb, ?_, ?_⟩
        · rw [t2.length, tb.length]
          have : xs.length + ys.length ≤ 1000000 := of_decide_eq_true hl
          rw [sizeLine_eq]; omega
        · exact Res.now (Res.mono q3 e1) (r2.change ho2 hf s2 ⟨_, upd_same, t2.append tb⟩) Dat.non
      split at q2
      · rename_i xs ho2
        split at q2
        · rename_i hl; exact fin .loc xs (.inl rfl) ho2 hl q2
        · exact q2.elim
      · rename_i xs ho2
        split at q2
        · rename_i hl; exact fin .par xs (.inr rfl) ho2 hl q2
        · exact q2.elim
      · exact q2.elim
    · exact q2.elim
  · exact q.elim
theorem ES_rvs {i : Nat} : ESound (Γ := Γ) (cT := cT) (.rvs i) := by
  intro c k X W e g h
  simp only [chkE] at h
  split at h <;> try cases h
  rename_i x p0 m p q0
  obtain ⟨h1234, h7⟩ := ba2 h
  obtain ⟨h123, h4⟩ := ba2 h1234
  obtain ⟨h12, h3⟩ := ba2 h123
  obtain ⟨h1, h2⟩ := ba2 h12
  have h1 := of_decide_eq_true h1
  subst h1
  have hv := pe_var (X := X) (i := i) (pos := p0) (by rw [g.N]; exact of_decide_eq_true h2) (g.vis h3) (okName1 h4) (okName2 h4)
  refine peW (pe_bm0 PySem.F.plainAttrs_list PySem.F.slot_list_reverse PySem.F.type_list_reverse (mt_reverse (X := X)) hv (by rfl) h7) fun σ H Q ⟨M, R, G, ρ, r, q⟩ => ?_
  unfold evR at q
  have fin : ∀ (f : Fl) (xs : List D), (f = .loc ∨ f = .par) → ρ[i]? = some (.own f (.lst xs)) → Res X.K M R G (ρ.set i (.own f (.lst xs.reverse))) σ (.dat .none) Q → ∃ x, σ[i]? = some (some x) ∧ tyV X.K "list" x H ∧ rReverse x [] H Q := fun f xs hf ho2 q3 => by
    obtain ⟨p2, s2, g2, _, ⟨vs, hp2, t2⟩, _⟩ := r.own i f _ ho2
    exact ⟨_, s2, .inl ⟨rfl, vs, .inl (.inl hp2)⟩, p2, vs, rfl, rfl, hp2, Res.now q3 (r.change ho2 hf s2 ⟨_, upd_same, t2.rev⟩) Dat.non⟩
  split at q
  · rename_i xs ho; exact fin .loc xs (.inl rfl) ho q
  · rename_i xs ho; exact fin .par xs (.inr rfl) ho q
  · exact q.elim
theorem chkAs_ns {c : Cc} : ∀ (as : List Tm) (es : List Expr), chkAs c as es = true → (es.all fun e => !isStar e) = true
  | [], es, h => by cases es with
    | nil => rfl
    | cons _ _ => simp [chkAs] at h
  | a :: as, es, h => by cases es with
    | nil => rfl
    | cons e es =>
      simp only [chkAs] at h
      obtain ⟨q12, q3⟩ := ba2 h
      rw [List.all_cons, (ba2 q12).2, chkAs_ns as es q3]; rfl
theorem chkAs_len {c : Cc} : ∀ (as : List Tm) (es : List Expr), chkAs c as es = true → es.length = as.length
  | [], es, h => by cases es with
    | nil => rfl
    | cons _ _ => simp [chkAs] at h
  | a :: as, es, h => by cases es with
    | nil => simp [chkAs] at h
    | cons e es =>
      simp only [chkAs] at h
      simp [chkAs_len as es (ba2 h).2]
theorem pe_callZ {X : Cx} {k : Nat} {f : Addr} {fd : FuncData} {ps : List Str} {sp : Sp} {E : L2.St → XK} {y : Str} {p pos : Pos} {es : List Expr} {t : TA} (F : FnOk X.prog X.w X.K X.mg X.base (L2.CX X.prog X.w) k f fd ps sp) (hr : Room k X.A) (hg : Gl X y) (hm : X.mg y = some (.ref f)) (hk : PySem.W.keepIn X.K (.ref f) = true)
    (hb : Binds X.K fd ps []) (hx : ∀ σ, PassesAt (L2.CX X.prog X.w) X σ (E σ)) (ha : PA X es t) (h0 : es = [] → ∀ σ H Q, t σ H Q → Q [] H) (hdb : (y == ("__debug__" : Str)) = false) (hns : (es.all fun e => !isStar e) = true) : PE X (.Call (.Name y p) es [] pos) (tCallS sp E t) := by
  cases es with
  | cons e es =>
    rw [List.all_cons] at hns
    exact pe_callS F hr hg hm hk hb hx ha hdb (star1 (ba2 hns).1) (backTo_noStar (ba2 hns).2)
  | nil =>
    refine ⟨fun pins s σ H Q I h => ?_⟩
    refine wpAny_Call_Name_kw (ld_glob I hg hm ?_ hdb)
    refine PySem.W.callWith_K0 I.kIn hk ?_
    exact run_fnS (us := []) (vs := []) F hr hb (hx σ) I .nil (h0 rfl σ H _ h)
theorem postF {x : Rs Rv} (h : Post K cT W M R G σ x fun r ρ' => Res K M R G ρ' σ r Q) : PostF K cT M R G σ x Q (WE W σ) := by
  cases x <;> exact h
theorem fnB_ok {c : Cc} {f : Nat} {y : Str} {n : Nat} (h : fnB c f y n = true) : ∃ ps, c.fns[f]? = some (y, ps) ∧ n = ps.length := by
  unfold fnB at h
  split at h
  · rename_i z ps hz
    obtain ⟨h1, h2⟩ := ba2 h
    rw [of_decide_eq_true h1]
    exact ⟨ps, hz, of_decide_eq_true h2⟩
  · cases h
theorem peF {X : Cx} {e : Expr} {t : TE} (k : ∀ σ H Q, ¬ t σ H Q) : PE X e t := ⟨fun _ _ σ H Q _ z => (k σ H Q z).elim⟩
theorem ES_call {f : Nat} {as : List Tm} (ih : ∀ a ∈ as, ESound (Γ := Γ) (cT := cT) a) : ESound (Γ := Γ) (cT := cT) (.call f as) := by
  intro c k X W e g h
  simp only [chkE] at h
  split at h <;> try cases h
  rename_i x p0 es p
  obtain ⟨h123, h4⟩ := ba2 h
  obtain ⟨h12, h3⟩ := ba2 h123
  obtain ⟨h1, h2⟩ := ba2 h12
  cases hf : Γ.fns[f]? with
  | none =>
    refine peF fun σ H Q ⟨M, R, G, ρ, r, q⟩ => ?_
    unfold evR at q
    rw [hf] at q
    exact q
  | some fn =>
    obtain ⟨y, ps, fa, fd, e1, co⟩ := g.fn f fn hf
    obtain ⟨ps', e2, hn⟩ := fnB_ok h1
    rw [e2] at e1; cases e1
    refine peW (pe_callZ co.ok g.room (g.gl_ h2) co.mg co.kp co.bd (E := WE W) (fun σ => passAt g.tk σ) (As_sound as ih c k X W es g h4) ?_ (okName1 h3) (chkAs_ns as es h4)) fun σ H Q ⟨M, R, G, ρ, r, q⟩ => ?_
    · intro he σ H Q ⟨M, R, G, ρ, r, q⟩
      subst he
      have ea : as = [] := by have := chkAs_len as [] h4; cases as with
        | nil => rfl
        | cons _ _ => cases this
      subst ea
      unfold evAs at q
      exact q G H [] (Same.refl _) r .nil
    · unfold evR at q
      rw [hf] at q
      refine ⟨M, R, G, ρ, r, q.bind.imp fun rs ρ1 q1 G1 H1 vs e1 r1 t1 => ?_⟩
      exact doCall_ok r1 t1 (postF (q1.monoG e1 fun _ _ z => Res.mono z e1))
theorem Rel.addOwn {o : Ob} {p : Addr} (r : Rel K M R G ρ σ H) (h1 : G p = none) (h2 : R p = none) (h3 : Nown ρ σ p) (h4 : ObAt K G H p o) : Rel K M R G (ρ ++ [.own .loc o]) (σ ++ [some (.ref p)]) H := by
  have lo : ∀ (i : Nat) (s : Sl), (ρ ++ [Sl.own .loc o])[i]? = some s → (ρ[i]? = some s ∧ (σ ++ [some (V.ref p)])[i]? = σ[i]?) ∨ (i = ρ.length ∧ s = .own .loc o ∧ (σ ++ [some (V.ref p)])[i]? = some (some (.ref p))) := fun i s h => by
    by_cases hi : i < ρ.length
    · rw [List.getElem?_append_left hi] at h
      exact .inl ⟨h, List.getElem?_append_left (by rw [← r.len]; exact hi)⟩
    · have hi2 : i = ρ.length := by
        have := get_lt h
        simp at this
        omega
      subst hi2
      refine .inr ⟨rfl, ?_, ?_⟩
      · rw [List.getElem?_append_right (Nat.le_refl _), Nat.sub_self] at h
        simpa using h.symm
      · rw [r.len, List.getElem?_append_right (Nat.le_refl _), Nat.sub_self]; rfl
  refine ⟨by simp [r.len], r.fz, r.rs, r.dj, fun i d h => ?_, fun i f o' h => ?_, fun i j f f' a b q e1 e2 s1 s2 => ?_⟩
  · rcases lo i _ h with ⟨e, e'⟩ | ⟨_, e, _⟩
    · rw [e']; exact r.dat i d e
    · cases e
  · rcases lo i _ h with ⟨e, e'⟩ | ⟨_, e, e'⟩
    · rw [e']; exact r.own i f o' e
    · cases e
      exact ⟨p, e', h1, h2, h4, (fun z => by cases z), fun z => by rcases z with z | z <;> cases z⟩
  · rcases lo i _ e1 with ⟨a1, a2⟩ | ⟨a0, a1, a2⟩ <;> rcases lo j _ e2 with ⟨b1, b2⟩ | ⟨b0, b1, b2⟩
    · rw [a2] at s1
      rw [b2] at s2
      exact r.inj i j f f' a b q a1 b1 s1 s2
    · rw [a2] at s1
      rw [b2] at s2
      have : q = p := by simpa using s2.symm
      subst this
      exact (h3 i f a a1 s1).elim
    · rw [a2] at s1
      rw [b2] at s2
      have : q = p := by simpa using s1.symm
      subst this
      exact (h3 j f' b b1 s2).elim
    · rw [a0, b0]
theorem Rel.cut {v : Option V} (r : Rel K M R G ρ (σ ++ [v]) H) : Rel K M R G ρ.dropLast σ H := by
  have hl : ρ.length = σ.length + 1 := by have := r.len; simpa using this
  have lo : ∀ (i : Nat) (s : Sl), ρ.dropLast[i]? = some s → ρ[i]? = some s ∧ (σ ++ [v])[i]? = σ[i]? := fun i s h => by
    have hi := get_lt h
    rw [List.length_dropLast] at hi
    rw [List.getElem?_dropLast, if_pos hi] at h
    exact ⟨h, List.getElem?_append_left (by omega)⟩
  refine ⟨by rw [List.length_dropLast]; omega, r.fz, r.rs, r.dj, fun i d h => ?_, fun i f o h => ?_, fun i j f f' a b q e1 e2 s1 s2 => ?_⟩
  · obtain ⟨h1, h2⟩ := lo i _ h
    rw [← h2]; exact r.dat i d h1
  · obtain ⟨h1, h2⟩ := lo i _ h
    rw [← h2]; exact r.own i f o h1
  · obtain ⟨a1, a2⟩ := lo i _ e1
    obtain ⟨b1, b2⟩ := lo j _ e2
    exact r.inj i j f f' a b q a1 b1 (by rw [a2]; exact s1) (by rw [b2]; exact s2)
theorem ES_call1 {f : Nat} (ha : ESound (Γ := Γ) (cT := cT) a) : ESound (Γ := Γ) (cT := cT) (.call1 f a) := by
  intro c k X W e g h
  simp only [chkE] at h
  split at h <;> try cases h
  rename_i x p0 e p
  obtain ⟨h1234, h5⟩ := ba2 h
  obtain ⟨h123, h4⟩ := ba2 h1234
  obtain ⟨h12, h3⟩ := ba2 h123
  obtain ⟨h1, h2⟩ := ba2 h12
  cases hf : Γ.fns[f]? with
  | none =>
    refine peF fun σ H Q ⟨M, R, G, ρ, r, q⟩ => ?_
    unfold evR at q
    rw [hf] at q
    exact q
  | some fn =>
    obtain ⟨y, ps, fa, fd, e1, co⟩ := g.fn f fn hf
    obtain ⟨ps', e2, hn⟩ := fnB_ok h1
    rw [e2] at e1; cases e1
    refine peW (pe_callZ co.ok g.room (g.gl_ h2) co.mg co.kp co.bd (E := WE W) (fun σ => passAt g.tk σ) (pa_cons (ha c k X W e g h4) pa_nil (star1 h5)) (fun he => by cases he) (okName1 h3) (by rw [List.all_cons, h5]; rfl)) fun σ H Q ⟨M, R, G, ρ, r, q⟩ => ?_
    unfold evR at q
    rw [hf] at q
    refine ⟨M, R, G, ρ, r, q.bind.imp fun x ρ1 q1 G1 H1 v e1 r1 a1 => ?_⟩
    split at q1
    · rename_i o
      obtain ⟨pp, rfl, n1, n2, n3, n4⟩ := a1
      have r2 := r1.addOwn n1 n2 n3 n4
      have hav : Paired (fun a v => AvIs X.K G1 (σ ++ [some (V.ref pp)]) a v) [.ref ρ1.length] [.ref pp] := .cons (by
        show (σ ++ [some (V.ref pp)])[ρ1.length]? = some (some (.ref pp))
        rw [r1.len, List.getElem?_append_right (Nat.le_refl _), Nat.sub_self]; rfl) .nil
      refine doCall_ok r2 hav ?_
      unfold call1 at q1
      split at q1
      · rename_i rv ρ2 hd
        rw [hd]
        cases hri : rv.isRef with
        | true => rw [hri] at q1; exact q1.elim
        | false =>
        rw [hri, if_neg Bool.false_ne_true] at q1
        intro G2 H2 w e3 r3 hw
        refine q1 G2 H2 w (e1.trans e3) r3.cut ?_
        cases rv with
        | dat d => exact hw
        | new o' =>
          obtain ⟨p2, rfl, m1, m2, m3, m4⟩ := hw
          refine ⟨p2, rfl, m1, m2, fun i f o z s => ?_, m4⟩
          have hi := get_lt z
          rw [List.length_dropLast] at hi
          rw [List.getElem?_dropLast, if_pos hi] at z
          have hl := r3.len
          simp at hl
          exact m3 i f o z (by rw [List.getElem?_append_left (by omega)]; exact s)
        | ref i => cases hri
      · exact q1.elim
    · exact q1.elim
theorem paired_perm {α β : Type} {F : α → β → Prop} {n : Nat} {perm : List Nat} {xs : List α} {ys : List β} (h : Paired F xs ys) : Paired F (permV n perm xs) (permV n perm ys) := by
  unfold permV
  have one : ∀ k : Nat, (∃ x y, xs[k]? = some x ∧ ys[k]? = some y ∧ F x y) ∨ (xs[k]? = none ∧ ys[k]? = none) := fun k => by
    cases e : xs[k]? with
    | none =>
      have := List.getElem?_eq_none_iff.mp e
      exact .inr ⟨rfl, List.getElem?_eq_none (by rw [← paired_len h]; exact this)⟩
    | some x =>
      obtain ⟨y, h1, h2⟩ := paired_get h e
      exact .inl ⟨x, y, rfl, h1, h2⟩
  have : ∀ l : List Nat, Paired F (l.filterMap fun j => (perm.idxOf? j).bind fun k => xs[k]?) (l.filterMap fun j => (perm.idxOf? j).bind fun k => ys[k]?) := by
    intro l
    induction l with
    | nil => exact .nil
    | cons j l ih =>
      cases e : perm.idxOf? j with
      | none => rw [List.filterMap_cons, List.filterMap_cons, e]; exact ih
      | some k =>
        rcases one k with ⟨x, y, h1, h2, h3⟩ | ⟨h1, h2⟩
        · rw [List.filterMap_cons, List.filterMap_cons, e]
          simp only [Option.bind_some, h1, h2]
          exact .cons h3 ih
        · rw [List.filterMap_cons, List.filterMap_cons, e]
          simp only [Option.bind_some, h1, h2]
          exact ih
  exact this _
theorem paired_app {α β : Type} {F : α → β → Prop} : ∀ {xs xs' : List α} {ys ys' : List β}, Paired F xs ys → Paired F xs' ys' → Paired F (xs ++ xs') (ys ++ ys')
  | _, _, _, _, .nil, h => h
  | _, _, _, _, .cons h t, k => .cons h (paired_app t k)
theorem paired_imp {α β : Type} {F F' : α → β → Prop} (k : ∀ a b, F a b → F' a b) : ∀ {xs : List α} {ys : List β}, Paired F xs ys → Paired F' xs ys
  | _, _, .nil => .nil
  | _, _, .cons h t => .cons (k _ _ h) (paired_imp k t)
theorem kwsOf_mem {c : Cc} {j n : Nat} {ks : List Str} {perm : List Nat} (h : (j, n, ks, perm) ∈ c.kws) : (n, ks, perm) ∈ kwsOf c j := by
  unfold kwsOf
  refine List.mem_filterMap.mpr ⟨_, h, ?_⟩
  rw [if_pos rfl]
theorem kw_all {env : Env} {pos : Pos} : ∀ {kws : List Keyword}, (kws.all fun k => k.arg.isSome) = true → (backToKw pos (keywordEach kws env)).all (·.1.isSome) = true ∧ (backToKw pos (keywordEach kws env)).any (·.1.isNone) = false ∧ (backToKw pos (keywordEach kws env)).filterMap (·.1) = kws.filterMap (·.arg) ∧ (kws.filterMap (·.arg)).length = kws.length
  | [], _ => ⟨rfl, rfl, rfl, rfl⟩
  | ⟨nm, e, kp⟩ :: kws, h => by
    rw [List.all_cons] at h
    obtain ⟨h1, h2⟩ := ba2 h
    obtain ⟨q1, q2, q3, q4⟩ := kw_all (env := env) (pos := pos) h2
    cases nm with
    | none => cases h1
    | some nm =>
      refine ⟨?_, ?_, ?_, ?_⟩
      · show (true && (backToKw pos (keywordEach kws env)).all (·.1.isSome)) = true
        rw [q1]; rfl
      · show (false || (backToKw pos (keywordEach kws env)).any (·.1.isNone)) = false
        rw [q2]; rfl
      · show nm :: (backToKw pos (keywordEach kws env)).filterMap (·.1) = nm :: kws.filterMap (·.arg)
        rw [q3]
      · show (nm :: kws.filterMap (·.arg)).length = _
        rw [List.length_cons, q4, List.length_cons]
theorem run_fnKW {X : Cx} {k n : Nat} {f : Addr} {fd : FuncData} {ps ks : List Str} {perm : List Nat} {sp : Sp} {E : XK} {pins : List (Addr × Obj)} {s : Shared} {us ws : List Value} {vs zs : List V} (F : FnOk X.prog X.w X.K X.mg X.base (L2.CX X.prog X.w) k f fd ps sp) (hr : Room k X.A) (hb : KBn X.K fd ps n ks perm) (hx : PassesAt (L2.CX X.prog X.w) X σ E)
    (I : Inv X pins σ H s) (r : Vals vs us) (rz : Vals zs ws) (hn : us.length = n) (hm : ws.length = ks.length) (h : sp (permV ps.length perm (vs ++ zs)) H Q E) : wpAny (model X.prog X.w) X.A (call (.ref f) us (ks.zip ws)) (EP X pins σ Q) X.xe s := by
  have r2 : Vals (permV ps.length perm (vs ++ zs)) (permV ps.length perm (us ++ ws)) := paired_perm (paired_app r rz)
  have hl : (permV ps.length perm (us ++ ws)).length = ps.length := by rw [← r2.length]; exact F.len _ _ _ _ h
  refine wpAny_call (codeAny_mono (F.run X.A X.stack s H ⟨us, ks.zip ws⟩ _ _ Q E hr I.env0 (hb s us ws I.kIn hn hm hl) r2 h) fun r s' hq => ?_)
  cases r with
  | error e => exact hx pins H s e s' I hq
  | ok fl =>
    cases fl with
    | ret u => exact I.after hq
    | next => exact False.elim hq
    | brk => exact False.elim hq
    | cont => exact False.elim hq
def tCallKW (n : Nat) (perm : List Nat) (l1 l2 : Nat) (sp : Sp) (E : L2.St → XK) (t tk : TA) : TE := fun σ H Q => t σ H fun vs H1 => vs.length = l1 ∧ tk σ H1 fun zs H2 => zs.length = l2 ∧ sp (permV n perm (vs ++ zs)) H2 Q (E σ)
theorem pe_callKW {X : Cx} {k : Nat} {f : Addr} {fd : FuncData} {ps ks : List Str} {perm : List Nat} {sp : Sp} {E : L2.St → XK} {y : Str} {p pos : Pos} {es : List Expr} {kws : List Keyword} {t tk : TA} (F : FnOk X.prog X.w X.K X.mg X.base (L2.CX X.prog X.w) k f fd ps sp) (hr : Room k X.A) (hg : Gl X y) (hm : X.mg y = some (.ref f)) (hk : PySem.W.keepIn X.K (.ref f) = true)
    (hb : KBn X.K fd ps es.length ks perm) (hx : ∀ σ, PassesAt (L2.CX X.prog X.w) X σ (E σ)) (ha : PA X es t) (hkw : PK X kws tk) (hall : (kws.all fun k => k.arg.isSome) = true) (hks : kws.filterMap (·.arg) = ks) (h0 : es = [] → ∀ σ H Q, t σ H Q → Q [] H) (hdb : (y == ("__debug__" : Str)) = false) (hns : (es.all fun e => !isStar e) = true) :
    PE X (.Call (.Name y p) es kws pos) (tCallKW ps.length perm es.length kws.length sp E t tk) := by
  obtain ⟨q1, q2, q3, q4⟩ := kw_all (env := X.env) (pos := pos) hall
  refine ⟨fun pins s σ H Q I h => ?_⟩
  refine wpAny_Call_Name_kw (ld_glob I hg hm ?_ hdb)
  cases es with
  | cons e es =>
    rw [List.all_cons] at hns
    refine PySem.W.callWith_KW (h₀ := X.base) I.ok.mod.kin hk q1 (thn (ha.run pos pins s σ H _ I h) fun us s1 ⟨vs, H1, I1, r, hl, q⟩ => ?_) ?_ (star1 (ba2 hns).1)
    · refine thn (hkw.run pos pins s1 σ H1 _ I1 q) fun ws s2 ⟨zs, H2, I2, rz, hl2, q2⟩ => ⟨I2.kIn, ?_⟩
      rw [q3, hks]
      exact run_fnKW F hr hb (hx σ) I2 r rz (by show us.length = _; rw [← r.length]; exact hl) (by rw [← rz.length, hl2, ← hks, q4]) q2
    · rw [q2, backTo_noStar (by rw [List.all_cons]; exact hns)]; rfl
  | nil =>
    obtain ⟨hl, q⟩ := h0 rfl σ H _ h
    refine PySem.W.callWith_KW0 (h₀ := X.base) I.ok.mod.kin hk q1 ?_ (by rw [q2]; rfl)
    refine thn (hkw.run pos pins s σ H _ I q) fun ws s2 ⟨zs, H2, I2, rz, hl2, q2⟩ => ⟨I2.kIn, ?_⟩
    rw [q3, hks]
    exact run_fnKW (us := []) (vs := []) F hr hb (hx σ) I2 .nil rz rfl (by rw [← rz.length, hl2, ← hks, q4]) q2
theorem evAs_len : ∀ {as : List Tm} {ρ : En} {P : List Rv → En → Prop}, Post K cT W M R G σ (evAs Γ as ρ) P → Post K cT W M R G σ (evAs Γ as ρ) fun rs ρ' => rs.length = as.length ∧ P rs ρ'
  | [], ρ, P, h => by
    unfold evAs at h ⊢
    exact ⟨rfl, h⟩
  | a :: as, ρ, P, h => by
    unfold evAs at h ⊢
    have h1 := h.bind
    cases e : evR Γ a ρ with
    | no => rw [e] at h1; exact h1
    | ex c d ρ1 => rw [e] at h1; exact h1
    | ok x ρ1 =>
      rw [e] at h1
      have h1 : Post K cT W M R G σ ((evAs Γ as ρ1).bind fun rs ρ => Rs.ok (x :: rs) ρ) P := h1
      show Post K cT W M R G σ ((evAs Γ as ρ1).bind fun rs ρ => Rs.ok (x :: rs) ρ) _
      have h2 := evAs_len h1.bind
      cases e2 : evAs Γ as ρ1 with
      | no => rw [e2] at h2; exact h2
      | ex c d ρ2 => rw [e2] at h2; exact h2
      | ok rs ρ2 =>
        rw [e2] at h2
        obtain ⟨l, h3⟩ := h2
        exact ⟨by rw [List.length_cons, l]; rfl, h3⟩
theorem ES_callk {f n : Nat} {perm : List Nat} {as bs : List Tm} (ih : ∀ a ∈ as, ESound (Γ := Γ) (cT := cT) a) (ih2 : ∀ a ∈ bs, ESound (Γ := Γ) (cT := cT) a) : ESound (Γ := Γ) (cT := cT) (.callk f n perm as bs) := by
  intro c k X W e g h
  simp only [chkE] at h
  split at h <;> try cases h
  rename_i x p0 es kws p
  obtain ⟨h123456, h7⟩ := ba2 h
  obtain ⟨h12345, h6⟩ := ba2 h123456
  obtain ⟨h1234, h5⟩ := ba2 h12345
  obtain ⟨h123, h4⟩ := ba2 h1234
  obtain ⟨h12, h3⟩ := ba2 h123
  obtain ⟨h1, h2⟩ := ba2 h12
  cases hf : Γ.fns[f]? with
  | none =>
    refine peF fun σ H Q ⟨M, R, G, ρ, r, q⟩ => ?_
    unfold evR at q
    rw [hf] at q
    exact q
  | some fn =>
    obtain ⟨y, ps, fa, fd, e1, co⟩ := g.fn f fn hf
    obtain ⟨ps', e2, hn⟩ := fnB_ok h1
    rw [e2] at e1; cases e1
    have l1 := chkAs_len as es h6
    have l2 := chkAs_len bs _ h7
    rw [List.length_map] at l2
    refine peW (pe_callKW co.ok g.room (g.gl_ h2) co.mg co.kp (co.kb _ _ _ (kwsOf_mem (of_decide_eq_true h5))) (E := WE W) (fun σ => passAt g.tk σ) (As_sound as ih c k X W es g h6) (Ks_sound bs ih2 c k X W kws g h7) h4 rfl ?_ (okName1 h3) (chkAs_ns as es h6)) fun σ H Q ⟨M, R, G, ρ, r, q⟩ => ?_
    · intro he σ H Q ⟨M, R, G, ρ, r, q⟩
      subst he
      have ea : as = [] := by cases as with
        | nil => rfl
        | cons _ _ => cases l1
      subst ea
      unfold evAs at q
      exact q G H [] (Same.refl _) r .nil
    · unfold evR at q
      rw [hf] at q
      refine ⟨M, R, G, ρ, r, (evAs_len q.bind).imp fun rs ρ1 ⟨z1, q1⟩ G1 H1 vs e1 r1 t1 => ⟨by rw [← paired_len t1, z1, l1], ?_⟩⟩
      refine ⟨M, R, G1, ρ1, r1, (evAs_len (q1.bind.monoG e1 fun _ _ z => z)).imp fun ss ρ2 ⟨z2, q2⟩ G2 H2 ws e2 r2 t2 => ⟨by rw [← paired_len t2, z2, l2], ?_⟩⟩
      split at q2
      · rename_i rs' hp
        unfold permute at hp
        split at hp
        · cases hp
          have t3 := paired_perm (n := n) (perm := perm) (paired_app (paired_imp (fun a b z => AvIs.mono e2 z) t1) t2)
          rw [← hn]
          exact doCall_ok r2 t3 (postF (q2.monoG (e1.trans e2) fun _ _ z => Res.mono z (e1.trans e2)))
        · cases hp
      · exact q2.elim
end
end Vi
set_option maxHeartbeats 4000000
namespace Vi
open PySem PySem.Spec PyProof.Rows L2
def Wiped (l : List Nat) (σ σ' : L2.St) : Prop := σ'.length = σ.length ∧ ∀ i : Nat, i ∉ l → σ'[i]? = σ[i]?
def DatG (K : PySem.W.Frag) (G : Hp) (tp : Bool) (v : V) (d : D) : Prop := Dat K G v d ∨ (tp = true ∧ ∃ p ws ds, v = .ref p ∧ d = .tuple ds ∧ SqT K G p ws ∧ Dats K G ws ds)
theorem DatG.imp {K : PySem.W.Frag} {G : Hp} {t t' : Bool} {v : V} {d : D} (h : DatG K G t v d) (e : t = true → t' = true) : DatG K G t' v d := by
  rcases h with h | ⟨h1, h2⟩
  · exact .inl h
  · exact .inr ⟨e h1, h2⟩
theorem sqT_mono {K : PySem.W.Frag} {G G' : Hp} {a : Addr} {xs : List V} (e : Same G G') (h : SqT K G a xs) : SqT K G' a xs := by
  rcases h with (h | ⟨o, h⟩) | h
  · exact .inl (.inl (e _ _ h))
  · exact .inl (.inr ⟨o, e _ _ h⟩)
  · exact .inr h
def gT (K : PySem.W.Frag) (tg : Tg) : TG := fun v σ H Q => ∃ M R G ρ d ρ', Rel K M R G ρ σ H ∧ DatG K G (isTp tg) v d ∧ letD tg d ρ = .ok () ρ' ∧ ∀ σ', Rel K M R G ρ' σ' H → Wiped (tgIx tg) σ σ' → Q σ' H
def gTs (K : PySem.W.Frag) (ts : List Tg) : TGs := fun vs σ H Q => ∃ M R G ρ ds ρ', Rel K M R G ρ σ H ∧ Dats K G vs ds ∧ letDs ts ds ρ = .ok () ρ' ∧ ∀ σ', Rel K M R G ρ' σ' H → Wiped (tgIxs ts) σ σ' → Q σ' H
theorem asgEach1 {env : Env} {e : Expr} {es : List Expr} (h : (!isStar e) = true) : assignEach (e :: es) env = (false, assign e env) :: assignEach es env := by
  cases e <;> first | rfl | cases h
theorem pgW {X : Cx} {e : Expr} {t t' : TG} (h : PG X e t) (k : ∀ v σ H Q, t' v σ H Q → t v σ H Q) : PG X e t' := ⟨fun pins s σ H v u Q I r q => h.run pins s σ H v u Q I r (k v σ H Q q)⟩
theorem pgsW {X : Cx} {e : List Expr} {t t' : TGs} (h : PGs X e t) (k : ∀ v σ H Q, t' v σ H Q → t v σ H Q) : PGs X e t' := ⟨fun pins s σ H v u Q I r q => h.run pins s σ H v u Q I r (k v σ H Q q)⟩
theorem chkTgs_len {N : List Str} {so : List (Str × NameKind)} {env : Env} : ∀ (ts : List Tg) (es : List Expr), chkTgs N so ts es = true → (assignEach es env).length = ts.length ∧ (assignEach es env).findIdx? (·.1) = none
  | [], es, h => by
    cases es with
    | nil => exact ⟨rfl, rfl⟩
    | cons _ _ => simp [chkTgs] at h
  | t :: ts, es, h => by
    cases es with
    | nil => simp [chkTgs] at h
    | cons e es =>
      simp only [chkTgs] at h
      obtain ⟨h12, h3⟩ := ba2 h
      obtain ⟨h1, h2⟩ := ba2 h12
      obtain ⟨q1, q2⟩ := chkTgs_len (env := env) ts es h3
      rw [asgEach1 h1]
      exact ⟨by simp [q1], by simp [List.findIdx?_cons, q2]⟩
theorem pg_or {X : Cx} {e : Expr} {t1 t2 : TG} (h1 : PG X e t1) (h2 : PG X e t2) : PG X e fun v σ H Q => t1 v σ H Q ∨ t2 v σ H Q := ⟨fun pins s σ H v u Q I r q => q.elim (fun q => h1.run pins s σ H v u Q I r q) fun q => h2.run pins s σ H v u Q I r q⟩
theorem letDs_len : ∀ (ts : List Tg) (ds : List D) (ρ ρ' : En), letDs ts ds ρ = .ok () ρ' → ds.length = ts.length := by
  intro ts
  induction ts with
  | nil => intro ds ρ ρ' h; unfold letDs at h; split at h <;> first | rfl | cases h
  | cons t ts ih =>
    intro ds ρ ρ' h
    unfold letDs at h
    split at h
    · rename_i d ds
      cases e : letD t d ρ with
      | no => rw [e] at h; cases h
      | ex c d ρ => rw [e] at h; cases h
      | ok a ρ1 => rw [e] at h; simp only [Rs.bind_ok] at h; simp [ih ds ρ1 ρ' h]
    · cases h
mutual
theorem PG_tg {X : Cx} (hc : X.calm = true) (nd : X.N.Nodup) {so : List (Str × NameKind)} (hso : ∀ x, stoB so x = true → Loc X.env.scope x ∧ (X.fn x = true ∨ X.env.scope.names.lookup x = some .local)) : ∀ (t : Tg) (e : Expr), chkTg X.N so t e = true → PG X e (gT X.K t)
  | .nm i, e, h => by
    simp only [chkTg] at h
    split at h <;> try cases h
    rename_i x p
    obtain ⟨h1, h2⟩ := ba2 h
    obtain ⟨l1, l2⟩ := hso x h2
    refine pgW (pg_name nd (of_decide_eq_true h1) l1 l2) fun v σ H Q ⟨M, R, G, ρ, d, ρ', r, hd, e1, q⟩ => ?_
    unfold letD at e1
    unfold sto at e1
    split at e1
    · cases e1
      exact q _ (r.setDat (show Dat X.K G v d from hd.resolve_right fun z => by cases z.1)) ⟨by rw [List.length_set], fun j hj => get_set_ne fun z => hj (by simp [tgIx, z])⟩
    · cases e1
  | .tp ts, e, h => by
    simp only [chkTg] at h
    split at h <;> try cases h
    rename_i es k p
    have hl := chkTgs_len (env := X.env) ts es h
    have hps := PGs_tg hc nd hso ts es h
    refine pgW (pg_or (pg_tup (n := ts.length) hc hps hl.1 hl.2) (pg_lst (n := ts.length) hc hps hl.1 hl.2)) fun v σ H Q ⟨M, R, G, ρ, d, ρ', r, hd, e1, q⟩ => ?_
    unfold letD at e1
    split at e1
    · rename_i ds
      obtain ⟨p, ws, rfl, hsq, t⟩ : ∃ p ws, v = .ref p ∧ SqT X.K H p ws ∧ Dats X.K G ws ds := by
        rcases hd with hd | ⟨_, p, ws, ds', rfl, e, hsq, t⟩
        · cases hd with
          | tup ht t => exact ⟨_, _, rfl, (ht.mono r.fz).sq, t⟩
        · cases e
          exact ⟨p, ws, rfl, sqT_mono r.fz hsq, t⟩
      · exact .inl ⟨_, _, rfl, hsq, by rw [t.length]; exact letDs_len ts ds ρ ρ' e1, M, R, G, ρ, ds, ρ', r, t, e1, fun σ' r' w => q σ' r' w⟩
    · rename_i ds
      obtain ⟨p, ws, rfl, hsq, t⟩ : ∃ p ws, v = .ref p ∧ SqL X.K H p ws ∧ Dats X.K G ws ds := by
        rcases hd with hd | ⟨_, p, ws, ds', rfl, e, hsq, t⟩
        · cases hd with
          | lst ht t => exact ⟨_, _, rfl, sqL_mono r.fz ht, t⟩
        · cases e
      · exact .inr ⟨_, _, rfl, hsq, by rw [t.length]; exact letDs_len ts ds ρ ρ' e1, M, R, G, ρ, ds, ρ', r, t, e1, fun σ' r' w => q σ' r' w⟩
    · cases e1
theorem PGs_tg {X : Cx} (hc : X.calm = true) (nd : X.N.Nodup) {so : List (Str × NameKind)} (hso : ∀ x, stoB so x = true → Loc X.env.scope x ∧ (X.fn x = true ∨ X.env.scope.names.lookup x = some .local)) : ∀ (ts : List Tg) (es : List Expr), chkTgs X.N so ts es = true → PGs X es (gTs X.K ts)
  | [], es, h => by
    simp only [chkTgs] at h
    split at h <;> try cases h
    refine pgsW pgs_nil fun vs σ H Q ⟨M, R, G, ρ, ds, ρ', r, hd, e1, q⟩ => ?_
    unfold letDs at e1
    split at e1
    · cases e1
      cases hd
      exact ⟨rfl, q σ r ⟨rfl, fun _ _ => rfl⟩⟩
    · cases e1
  | t :: ts, es, h => by
    simp only [chkTgs] at h
    split at h <;> try cases h
    rename_i e es
    obtain ⟨h12, h3⟩ := ba2 h
    obtain ⟨h1, h2⟩ := ba2 h12
    refine pgsW (pgs_cons (PG_tg hc nd hso t e h2) (PGs_tg hc nd hso ts es h3) (by rw [asgEach1 h1]; rfl)) fun vs σ H Q ⟨M, R, G, ρ, ds, ρ', r, hd, e1, q⟩ => ?_
    unfold letDs at e1
    split at e1
    · rename_i d ds
      cases hd with
      | cons hd td =>
        cases e2 : letD t d ρ with
        | no => rw [e2] at e1; cases e1
        | ex c d ρ => rw [e2] at e1; cases e1
        | ok a ρ1 =>
          rw [e2] at e1
          simp only [Rs.bind_ok] at e1
          refine ⟨_, _, rfl, M, R, G, ρ, d, ρ1, r, .inl hd, e2, fun σ1 r1 w1 => ?_⟩
          refine ⟨M, R, G, ρ1, ds, ρ', r1, td, e1, fun σ2 r2 w2 => q σ2 r2 ⟨w2.1.trans w1.1, fun i hi => ?_⟩⟩
          have hi : i ∉ tgIx t ++ tgIxs ts := hi
          rw [List.mem_append, not_or] at hi
          rw [w2.2 i hi.2, w1.2 i hi.1]
    · cases e1
end
def Wk (K : PySem.W.Frag) (M : Mk) (G0 : Hp) (k : Lk) (tp : Bool) (xs : List D) (J : L2.It) : Prop := ∀ (i : Nat) (R G : Hp) (ρ : En) (σ : L2.St) (H : Hp), Same G0 G → Rel K M R G ρ σ H → lkOk k ρ = true →
  (∀ d, xs[i]? = some d → J.go i H ∧ ∀ x H1, J.yld i H x H1 → ∃ G1, Same G G1 ∧ Rel K M R G1 ρ σ H1 ∧ DatG K G1 tp x d) ∧ (xs.length ≤ i → J.stop i H)
def Unlk (K : PySem.W.Frag) (M M' : Mk) (k : Lk) : Prop := ∀ (R G : Hp) (ρ : En) (σ : L2.St) (H : Hp), Rel K M' R G ρ σ H → lkOk k ρ = true → Rel K M R G (unl k ρ) σ H
variable (Γ : Cn) (cT : Nat → Addr)
def tI (K : PySem.W.Frag) (W : WX) (it : It) : TI := fun σ H Rk => ∃ M R G ρ, Rel K M R G ρ σ H ∧ Post K cT W M R G σ (evIt Γ it ρ) fun p ρ' => ∀ G' H' M' J, Same G G' → Rel K M' R G' ρ' σ H' → Unlk K M M' p.2 → Wk K M' G' p.2 (itTp it) p.1 J → Rk J H'
def ISound (it : It) : Prop := ∀ (c : Cc) (k : Nat) (X : Cx) (W : WX) (tg e : Expr), Good Γ cT c k X W → chkI c it e = true → (itTp it = true → ∃ es kk p, tg = .Tuple es kk p) → PI X tg e (tI Γ cT X.K W it)
section
variable {Γ : Cn} {cT : Nat → Addr} {K : PySem.W.Frag} {W : WX} {M : Mk} {R G G' H : Hp} {ρ ρ' : En} {σ : L2.St} {Q : VK} {a b : Tm} {x : Rv} {v : V} {d : D}
theorem piW {X : Cx} {tg e : Expr} {t t' : TI} (h : PI X tg e t) (k : ∀ σ H R, t' σ H R → t σ H R) : PI X tg e t' := ⟨fun pins s σ H R I q => h.run pins s σ H R I (k σ H R q)⟩
theorem unlk_none : Unlk K M M none := fun R G ρ σ H r _ => r
theorem wk_data {xs : List D} {p : Addr} {vs : List V} (h : SqL K G p vs) (t : Dats K G vs xs) : Wk K M G none false xs (Itl K p) := by
  intro i R' G' ρ' σ' H' e r _
  have sq : SqL K H' p vs := sqL_mono (e.trans r.fz) h
  refine ⟨fun d hd => ?_, fun hl => ⟨vs, sq, by rw [t.length]; exact hl⟩⟩
  obtain ⟨v, h1, h2⟩ := t.get hd
  refine ⟨⟨vs, v, sq, h1⟩, fun x H1 ⟨e1, e2⟩ => ?_⟩
  subst e1
  have := e2 vs sq
  rw [h1] at this; cases this
  exact ⟨G', Same.refl _, r, .inl (h2.mono e)⟩
theorem wk_tup {xs : List D} {p : Addr} {vs : List V} (h : TupF K G p vs) (t : Dats K G vs xs) : Wk K M G none false xs (Itt K p) := by
  intro i R' G' ρ' σ' H' e r _
  have sq : SqT K H' p vs := (h.mono (e.trans r.fz)).sq
  refine ⟨fun d hd => ?_, fun hl => ⟨vs, sq, by rw [t.length]; exact hl⟩⟩
  obtain ⟨v, h1, h2⟩ := t.get hd
  refine ⟨⟨vs, v, sq, h1⟩, fun x H1 ⟨e1, e2⟩ => ?_⟩
  subst e1
  have := e2 vs sq
  rw [h1] at this; cases this
  exact ⟨G', Same.refl _, r, .inl (h2.mono e)⟩
theorem lkOk_own {i : Nat} {pr m : Bool} (h : lkOk (some (i, pr, m)) ρ = true) : ∃ f o, ρ[i]? = some (.own f o) ∧ ((pr = false ∧ f = .lock) ∨ (pr = true ∧ f = .plock)) := by
  have h : (match ρ[i]? with
    | some (.own .lock _) => !pr
    | some (.own .plock _) => pr
    | _ => false) = true := h
  split at h
  · rename_i o ho; exact ⟨_, o, ho, .inl ⟨by simpa using h, rfl⟩⟩
  · rename_i o ho; exact ⟨_, o, ho, .inr ⟨h, rfl⟩⟩
  · cases h
theorem wk_own {xs : List D} {p : Addr} {i0 : Nat} {pr m : Bool} (hM : M i0 = some (p, some (.lst xs))) : Wk K M G (some (i0, pr, m)) false xs (Itl K p) := by
  intro i R' G' ρ' σ' H' e r hk
  obtain ⟨f, o, ho, hf⟩ := lkOk_own hk
  obtain ⟨q, q1, q2, q3, q4, q5, q6⟩ := r.own i0 f o ho
  have := q6 (by rcases hf with ⟨_, rfl⟩ | ⟨_, rfl⟩; exact .inl rfl; exact .inr rfl)
  rw [hM] at this
  simp only [Option.some.injEq, Prod.mk.injEq] at this
  obtain ⟨rfl, rfl⟩ := this
  obtain ⟨vs, hp, t⟩ := q4
  have sq : SqL K H' p vs := .inl (.inl hp)
  refine ⟨fun d hd => ?_, fun hl => ⟨vs, sq, by rw [t.length]; exact hl⟩⟩
  obtain ⟨v, h1, h2⟩ := t.get hd
  refine ⟨⟨vs, v, sq, h1⟩, fun x H1 ⟨e1, e2⟩ => ?_⟩
  subst e1
  have := e2 vs sq
  rw [h1] at this; cases this
  exact ⟨G', Same.refl _, r, .inl h2⟩
theorem unlk_own {p : Addr} {i0 : Nat} {pr : Bool} {o : Ob} (hp : pr = true → ∃ w, M i0 = some (p, w)) : Unlk K M (lockM M i0 p o) (some (i0, pr, true)) := by
  intro R' G' ρ' σ' H' r hk
  obtain ⟨f, o, ho, hf⟩ := lkOk_own hk
  show Rel K M R' G' (unlockAt i0 ρ') σ' H'
  unfold unlockAt
  rw [ho]
  rcases hf with ⟨h1, rfl⟩ | ⟨h1, rfl⟩
  · exact r.unlock ho (.inl rfl) (.inl ⟨rfl, rfl⟩)
  · exact r.unlock ho (.inr rfl) (.inr ⟨rfl, rfl, hp h1⟩)
theorem rngD_ok {lo hi : Int} {xs : List D} (h : rngD lo hi = some xs) : (-(2 ^ 62) ≤ lo ∧ lo < 2 ^ 62 ∧ -(2 ^ 62) ≤ hi ∧ hi < 2 ^ 62) ∧ xs = (List.range (hi - lo).toNat).map fun k => PyData.int (lo + (k : Nat)) := by
  unfold rngD at h
  split at h
  · rename_i hc
    cases h
    obtain ⟨h1, h2⟩ := ba2 hc
    have h1 := Nat.le_of_ble_eq_true h1
    have h2 := Nat.le_of_ble_eq_true h2
    exact ⟨⟨by omega, by omega, by omega, by omega⟩, rfl⟩
  · cases h
theorem wk_rng {lo : Int} {n : Nat} : Wk K M G none false ((List.range n).map fun k => PyData.int (lo + (k : Nat))) (Itr lo n) := by
  intro i R' G' ρ' σ' H' e r _
  refine ⟨fun d hd => ?_, fun hl => by show n ≤ i; simpa using hl⟩
  have hi : i < n := by have := get_lt hd; simpa using this
  refine ⟨hi, fun x H1 ⟨e1, e2⟩ => ?_⟩
  subst e1 e2
  simp [hi] at hd
  subst hd
  exact ⟨G', Same.refl _, r, .inl (.int _)⟩
def iAny (K : PySem.W.Frag) (tl : TE) : TI := fun σ H R => tl σ H fun x H1 => (∃ a, x = .ref a ∧ (∃ xs, SqL K H1 a xs) ∧ R (Itl K a) H1) ∨ (∃ a, x = .ref a ∧ (∃ xs, SqT K H1 a xs) ∧ R (Itt K a) H1)
theorem pi_any {X : Cx} {tg l : Expr} {tl : TE} (hl : PE X l tl) : PI X tg l (iAny X.K tl) := by
  refine ⟨fun pins s σ H R I h => ?_⟩
  refine thn (hl.run pins s σ H _ I h) fun v s1 ⟨x, H1, I1, r1, q1⟩ => ?_
  rcases q1 with q1 | q1
  · obtain ⟨a, e, ⟨xs, hq⟩, q⟩ := q1
    subst e
    cases r1
    obtain ⟨its, rv, p, hz⟩ := I1.list hq
    refine wpAny_pyIter_list p.isList ?_
    refine ⟨s1.heap.objs.size, [s1.heap.objs.size], _, _, H1, rfl, I1.kept (t' := s1.toks) fun b o e => Heap.get?_push_of_some _ e, turn_list a _, ⟨_, Heap.get?_push_size _ rfl, rfl, rfl⟩, fun b hb => ?_, q⟩
    have e : b = s1.heap.objs.size := by simpa using hb
    subst e
    exact I1.fpOk (Nat.le_refl _) (I1.hok.fresh (Nat.le_refl _))
  · obtain ⟨a, e, ⟨xs, hq⟩, q⟩ := q1
    subst e
    cases r1
    obtain ⟨its, rv, p, hz⟩ := I1.tuple hq
    refine wpAny_pyIter_tuple (show s1.heap.IsTuple a its.toArray from p) ?_
    refine ⟨s1.heap.objs.size, [s1.heap.objs.size], _, _, H1, rfl, I1.kept (t' := s1.toks) fun b o e => Heap.get?_push_of_some _ e, turn_tuple a _, ⟨_, Heap.get?_push_size _ rfl, rfl, rfl⟩, fun b hb => ?_, q⟩
    have e : b = s1.heap.objs.size := by simpa using hb
    subst e
    exact I1.fpOk (Nat.le_refl _) (I1.hok.fresh (Nat.le_refl _))
theorem seq_data {Rk : L2.It → Hp → Prop} {xs : List D} (r : Rel K M R G ρ σ H) (h : Dat K G v d) (hs : seqItems d = some xs) (q : ∀ J, Wk K M G none false xs J → Rk J H) :
    (∃ a, v = .ref a ∧ (∃ xs, SqL K H a xs) ∧ Rk (Itl K a) H) ∨ (∃ a, v = .ref a ∧ (∃ xs, SqT K H a xs) ∧ Rk (Itt K a) H) := by
  cases h with
  | @lst a vs _ h t =>
    cases hs
    exact .inl ⟨_, rfl, ⟨vs, sqL_mono r.fz h⟩, q _ (wk_data h t)⟩
  | tup h t =>
    cases hs
    exact .inr ⟨_, rfl, ⟨_, (h.mono r.fz).sq⟩, q _ (wk_tup h t)⟩
  | non => cases hs
  | bl b => cases hs
  | int i => cases hs
  | str x => cases hs
  | dic _ _ => cases hs
theorem IS_seq (ha : ESound (Γ := Γ) (cT := cT) a) : ISound Γ cT (.seq a) := by
  intro c k X W tg e g h htp
  simp only [chkI] at h
  refine piW (pi_any (ha c k X W e g h)) fun σ H Rk ⟨M, R, G, ρ, r, q⟩ => ?_
  unfold evIt at q
  refine tE_then r q.bind fun x ρ1 G1 H1 v e1 r1 a1 q1 => ?_
  split at q1
  · rename_i d
    obtain ⟨p, hp, q2⟩ := q1.lift
    obtain ⟨l, hl, rfl⟩ := Option.map_eq_some_iff.mp hp
    exact seq_data r1 a1 hl fun J wk => q2 G1 H1 M J e1 r1 unlk_none wk
  · rename_i o
    obtain ⟨p, hp, q2⟩ := q1.lift
    obtain ⟨l, hl, rfl⟩ := Option.map_eq_some_iff.mp hp
    exact seq_data r1 a1 hl fun J wk => q2 G1 H1 M J e1 r1 unlk_none wk
  · rename_i i
    have own : ∀ f l, ρ1[i]? = some (.own f (.lst l)) → ∃ p, v = .ref p ∧ (∃ xs, SqL X.K H1 p xs) ∧ σ[i]? = some (some (.ref p)) ∧ (f = .par → ∃ w, M i = some (p, w)) ∧ ((f = .lock ∨ f = .plock) → M i = some (p, some (.lst l))) := fun f l ho => by
      obtain ⟨p, p1, p2, p3, p4, p5, p6⟩ := r1.own i f _ ho
      have a1 : σ[i]? = some (some v) := a1
      rw [a1] at p1
      have ev : v = .ref p := by simpa using p1
      subst ev
      obtain ⟨vs, hp, t⟩ := p4
      exact ⟨p, rfl, ⟨vs, .inl (.inl hp)⟩, a1, p5, p6⟩
    split at q1
    · rename_i l ho
      obtain ⟨p, rfl, hs, hσ, p5, p6⟩ := own _ _ ho
      exact .inl ⟨p, rfl, hs, q1 G1 H1 (lockM M i p (.lst l)) _ e1 (r1.lock ho hσ (.inl rfl)) (unlk_own fun z => by cases z) (wk_own (if_pos rfl))⟩
    · rename_i l ho
      obtain ⟨p, rfl, hs, hσ, p5, p6⟩ := own _ _ ho
      exact .inl ⟨p, rfl, hs, q1 G1 H1 (lockM M i p (.lst l)) _ e1 (r1.lock ho hσ (.inr rfl)) (unlk_own fun z => p5 rfl) (wk_own (if_pos rfl))⟩
    · rename_i l ho
      obtain ⟨p, rfl, hs, hσ, p5, p6⟩ := own _ _ ho
      exact .inl ⟨p, rfl, hs, q1 G1 H1 M _ e1 r1 (fun R G ρ σ H r _ => r) (wk_own (p6 (.inl rfl)))⟩
    · rename_i l ho
      obtain ⟨p, rfl, hs, hσ, p5, p6⟩ := own _ _ ho
      exact .inl ⟨p, rfl, hs, q1 G1 H1 M _ e1 r1 (fun R G ρ σ H r _ => r) (wk_own (p6 (.inr rfl)))⟩
    · exact q1.elim
theorem IS_rng1 (ha : ESound (Γ := Γ) (cT := cT) a) : ISound Γ cT (.rng1 a) := by
  intro c k X W tg e g h htp
  simp only [chkI] at h
  split at h <;> try cases h
  rename_i x p0 e p
  obtain ⟨h1234, h5⟩ := ba2 h
  obtain ⟨h123, h4⟩ := ba2 h1234
  obtain ⟨h12, h3⟩ := ba2 h123
  obtain ⟨h1, h2⟩ := ba2 h12
  have h1 := of_decide_eq_true h1
  subst h1
  refine piW (pi_range1 (g.gl_ h2) (g.bi _ (memC h3)) (pa_cons (ha c k X W e g h4) pa_nil (star1 h5)) (by rw [star1 h5]; rfl)) fun σ H Rk ⟨M, R, G, ρ, r, q⟩ => ?_
  unfold evIt at q
  refine tE_then r q.bind fun x ρ1 G1 H1 v e1 r1 a1 q1 => ?_
  split at q1
  · rename_i n
    obtain ⟨p, hp, q2⟩ := q1.lift
    obtain ⟨l, hl, rfl⟩ := Option.map_eq_some_iff.mp hp
    obtain ⟨⟨_, _, b1, b2⟩, rfl⟩ := rngD_ok hl
    cases a1.int
    refine ⟨n, rfl, b1, b2, q2 G1 H1 M _ e1 r1 unlk_none ?_⟩
    rw [Int.sub_zero]
    exact wk_rng
  · exact q1.elim
theorem IS_rng2 (ha : ESound (Γ := Γ) (cT := cT) a) (hb : ESound (Γ := Γ) (cT := cT) b) : ISound Γ cT (.rng2 a b) := by
  intro c k X W tg e g h htp
  simp only [chkI] at h
  split at h <;> try cases h
  rename_i x p0 e e2 p
  obtain ⟨h123456, h7⟩ := ba2 h
  obtain ⟨h12345, h6⟩ := ba2 h123456
  obtain ⟨h1234, h5⟩ := ba2 h12345
  obtain ⟨h123, h4⟩ := ba2 h1234
  obtain ⟨h12, h3⟩ := ba2 h123
  obtain ⟨h1, h2⟩ := ba2 h12
  have h1 := of_decide_eq_true h1
  subst h1
  refine piW (pi_range2 (g.gl_ h2) (g.bi _ (memC h3)) (pa_cons (ha c k X W e g h4) (pa_cons (hb c k X W e2 g h6) pa_nil (star1 h7)) (star1 h5)) (by rw [star1 h5, star1 h7]; rfl) (by rw [star1 h7]; rfl)) fun σ H Rk ⟨M, R, G, ρ, r, q⟩ => ?_
  unfold evIt at q
  refine tE_then r q.bind fun x ρ1 G1 H1 v e1 r1 a1 q1 => ?_
  refine tE_then r1 (q1.bind.monoG e1 fun _ _ z => z) fun y ρ2 G2 H2 w e2 r2 a2 q2 => ?_
  split at q2
  · rename_i m n
    obtain ⟨p, hp, q3⟩ := q2.lift
    obtain ⟨l, hl, rfl⟩ := Option.map_eq_some_iff.mp hp
    obtain ⟨⟨b1, b2, b3, b4⟩, rfl⟩ := rngD_ok hl
    cases a1.int
    cases a2.int
    exact ⟨m, n, rfl, ⟨b1, b2, b3, b4⟩, q3 G2 H2 M _ (e1.trans e2) r2 unlk_none wk_rng⟩
  · exact q2.elim
theorem zipD_get {ds es : List D} {i : Nat} {d : D} (h : (zipD ds es)[i]? = some d) : ∃ p q, ds[i]? = some p ∧ es[i]? = some q ∧ d = .tuple [p, q] := by
  unfold zipD at h
  rw [List.getElem?_map] at h
  obtain ⟨⟨p, q⟩, h1, rfl⟩ := Option.map_eq_some_iff.mp h
  obtain ⟨h2, h3⟩ := List.getElem?_zip_eq_some.mp h1
  exact ⟨p, q, h2, h3, rfl⟩
theorem zipD_len {ds es : List D} {i : Nat} (h : (zipD ds es).length ≤ i) : ds.length ≤ i ∨ es.length ≤ i := by
  unfold zipD at h
  rw [List.length_map, List.length_zip] at h
  omega
theorem pair_in {x y : V} {p q : D} {T : Addr} (r : Rel K M R G ρ σ H) (hT : H T = none) (h1 : Dat K G x p) (h2 : Dat K G y q) : ∃ G1, Same G G1 ∧ Rel K M R G1 ρ σ (upd H T (.tup [x, y])) ∧ DatG K G1 true (.ref T) (.tuple [p, q]) :=
  ⟨_, same_new (none_of r.fz hT), r.alloc hT, .inr ⟨rfl, T, [x, y], [p, q], rfl, rfl, .inl (.inl upd_same), .cons (h1.mono (same_new (none_of r.fz hT))) (.cons (h2.mono (same_new (none_of r.fz hT))) .nil)⟩⟩
theorem wk_zipT {ds es : List D} {a1 b1 : Addr} {vs ws : List V} (h1 : TupF K G a1 vs) (t1 : Dats K G vs ds) (h2 : TupF K G b1 ws) (t2 : Dats K G ws es) : Wk K M G none true (zipD ds es) (RZ.ItzT K a1 b1) := by
  intro i R' G' ρ' σ' H' e r _
  have s1 : SqT K H' a1 vs := (h1.mono (e.trans r.fz)).sq
  have s2 : SqT K H' b1 ws := (h2.mono (e.trans r.fz)).sq
  refine ⟨fun d hd => ?_, fun hl => ⟨vs, ws, s1, s2, by rw [t1.length, t2.length]; exact zipD_len hl⟩⟩
  obtain ⟨p, q, hp, hq, rfl⟩ := zipD_get hd
  obtain ⟨x, hx, dx⟩ := t1.get hp
  obtain ⟨y, hy, dy⟩ := t2.get hq
  refine ⟨⟨vs, ws, x, y, s1, s2, hx, hy⟩, fun z H1 ⟨T, x', y', e1, hT, e2, f1, f2⟩ => ?_⟩
  subst e1 e2
  have g1 := f1 vs s1
  have g2 := f2 ws s2
  rw [hx] at g1
  rw [hy] at g2
  cases g1
  cases g2
  exact pair_in r hT (dx.mono e) (dy.mono e)
theorem wk_zipL {ds es : List D} {a1 b1 : Addr} {vs ws : List V} (h1 : SqL K G a1 vs) (t1 : Dats K G vs ds) (h2 : SqL K G b1 ws) (t2 : Dats K G ws es) : Wk K M G none true (zipD ds es) (L2.Itz K a1 b1) := by
  intro i R' G' ρ' σ' H' e r _
  have s1 : SqL K H' a1 vs := sqL_mono (e.trans r.fz) h1
  have s2 : SqL K H' b1 ws := sqL_mono (e.trans r.fz) h2
  refine ⟨fun d hd => ?_, fun hl => ⟨vs, ws, s1, s2, by rw [t1.length, t2.length]; exact zipD_len hl⟩⟩
  obtain ⟨p, q, hp, hq, rfl⟩ := zipD_get hd
  obtain ⟨x, hx, dx⟩ := t1.get hp
  obtain ⟨y, hy, dy⟩ := t2.get hq
  refine ⟨⟨vs, ws, x, y, s1, s2, hx, hy⟩, fun z H1 ⟨T, x', y', e1, hT, e2, f1, f2⟩ => ?_⟩
  subst e1 e2
  have g1 := f1 vs s1
  have g2 := f2 ws s2
  rw [hx] at g1
  rw [hy] at g2
  cases g1
  cases g2
  exact pair_in r hT (dx.mono e) (dy.mono e)
theorem IS_zip (ha : ESound (Γ := Γ) (cT := cT) a) (hb : ESound (Γ := Γ) (cT := cT) b) : ISound Γ cT (.zip a b) := by
  intro c k X W tg e g h htp
  obtain ⟨tes, kk, tp, rfl⟩ := htp rfl
  simp only [chkI] at h
  split at h <;> try cases h
  rename_i x p0 e e2 p
  obtain ⟨h123456, h7⟩ := ba2 h
  obtain ⟨h12345, h6⟩ := ba2 h123456
  obtain ⟨h1234, h5⟩ := ba2 h12345
  obtain ⟨h123, h4⟩ := ba2 h1234
  obtain ⟨h12, h3⟩ := ba2 h123
  obtain ⟨h1, h2⟩ := ba2 h12
  have h1 := of_decide_eq_true h1
  subst h1
  refine piW (RZ.pi_zipA (g.gl_ h2) (g.bi _ (memC h3)) (pa_cons (ha c k X W e g h4) (pa_cons (hb c k X W e2 g h6) pa_nil (star1 h7)) (star1 h5)) (by rw [star1 h5]) (by rw [star1 h7]; rfl)) fun σ H Rk ⟨M, R, G, ρ, r, q⟩ => ?_
  unfold evIt at q
  refine tE_then r q.bind fun x ρ1 G1 H1 v e1 r1 a1 q1 => ?_
  refine tE_then r1 (q1.bind.monoG e1 fun _ _ z => z) fun y ρ2 G2 H2 w e2 r2 a2 q2 => ?_
  split at q2
  · rename_i xs ys
    have d1 : Dat X.K G2 v (.tuple xs) := Dat.mono e2 a1
    have d2 : Dat X.K G2 w (.tuple ys) := a2
    cases d1 with
    | tup h1 t1 =>
      cases d2 with
      | tup h2 t2 => exact ⟨_, _, _, _, rfl, .inr ⟨(h1.mono r2.fz).sq, (h2.mono r2.fz).sq, q2 G2 H2 M _ (e1.trans e2) r2 unlk_none (wk_zipT h1 t1 h2 t2)⟩⟩
  · rename_i xs ys
    have d1 : Dat X.K G2 v (.list xs) := Dat.mono e2 a1
    have d2 : Dat X.K G2 w (.list ys) := a2
    cases d1 with
    | lst h1 t1 =>
      cases d2 with
      | lst h2 t2 => exact ⟨_, _, _, _, rfl, .inl ⟨sqL_mono r2.fz h1, sqL_mono r2.fz h2, q2 G2 H2 M _ (e1.trans e2) r2 unlk_none (wk_zipL h1 t1 h2 t2)⟩⟩
  · exact q2.elim
theorem enumD_get {ds : List D} {i : Nat} {d : D} (h : (enumD ds)[i]? = some d) : ∃ q, ds[i]? = some q ∧ d = .tuple [.int (i : Nat), q] := by
  obtain ⟨p, q, h1, h2, rfl⟩ := zipD_get h
  rw [List.getElem?_map] at h1
  obtain ⟨j, h3, rfl⟩ := Option.map_eq_some_iff.mp h1
  rw [List.getElem?_range (get_lt h2)] at h3
  cases h3
  exact ⟨q, h2, rfl⟩
theorem enumD_len {ds : List D} {i : Nat} (h : (enumD ds).length ≤ i) : ds.length ≤ i := by
  have := zipD_len h
  simpa using this
theorem wk_enumT {ds : List D} {a1 : Addr} {vs : List V} (h1 : TupF K G a1 vs) (t1 : Dats K G vs ds) : Wk K M G none true (enumD ds) (IteT K a1) := by
  intro i R' G' ρ' σ' H' e r _
  have s1 : SqT K H' a1 vs := (h1.mono (e.trans r.fz)).sq
  refine ⟨fun d hd => ?_, fun hl => ⟨vs, s1, by rw [t1.length]; exact enumD_len hl⟩⟩
  obtain ⟨q, hq, rfl⟩ := enumD_get hd
  obtain ⟨x, hx, dx⟩ := t1.get hq
  refine ⟨⟨vs, x, s1, hx⟩, fun z H1 ⟨T, x', e1, hT, e2, f1⟩ => ?_⟩
  subst e1 e2
  have g1 := f1 vs s1
  rw [hx] at g1
  cases g1
  exact pair_in r hT (Dat.int _) (dx.mono e)
theorem wk_enumL {ds : List D} {a1 : Addr} {vs : List V} (h1 : SqL K G a1 vs) (t1 : Dats K G vs ds) : Wk K M G none true (enumD ds) (L2.Ite K a1) := by
  intro i R' G' ρ' σ' H' e r _
  have s1 : SqL K H' a1 vs := sqL_mono (e.trans r.fz) h1
  refine ⟨fun d hd => ?_, fun hl => ⟨vs, s1, by rw [t1.length]; exact enumD_len hl⟩⟩
  obtain ⟨q, hq, rfl⟩ := enumD_get hd
  obtain ⟨x, hx, dx⟩ := t1.get hq
  refine ⟨⟨vs, x, s1, hx⟩, fun z H1 ⟨T, x', e1, hT, e2, f1⟩ => ?_⟩
  subst e1 e2
  have g1 := f1 vs s1
  rw [hx] at g1
  cases g1
  exact pair_in r hT (Dat.int _) (dx.mono e)
theorem IS_enum (ha : ESound (Γ := Γ) (cT := cT) a) : ISound Γ cT (.enum a) := by
  intro c k X W tg e g h htp
  obtain ⟨tes, kk, tp, rfl⟩ := htp rfl
  simp only [chkI] at h
  split at h <;> try cases h
  rename_i x p0 e p
  obtain ⟨h1234, h5⟩ := ba2 h
  obtain ⟨h123, h4⟩ := ba2 h1234
  obtain ⟨h12, h3⟩ := ba2 h123
  obtain ⟨h1, h2⟩ := ba2 h12
  have h1 := of_decide_eq_true h1
  subst h1
  refine piW (pi_enumA (g.gl_ h2) (g.bi _ (memC h3)) (pa_cons (ha c k X W e g h4) pa_nil (star1 h5)) (by rw [star1 h5]; rfl)) fun σ H Rk ⟨M, R, G, ρ, r, q⟩ => ?_
  unfold evIt at q
  refine tE_then r q.bind fun x ρ1 G1 H1 v e1 r1 a1 q1 => ?_
  split at q1
  · rename_i xs
    have d1 : Dat X.K G1 v (.tuple xs) := a1
    cases d1 with
    | tup h1 t1 => exact ⟨_, _, rfl, .inr ⟨(h1.mono r1.fz).sq, q1 G1 H1 M _ e1 r1 unlk_none (wk_enumT h1 t1)⟩⟩
  · rename_i xs
    have d1 : Dat X.K G1 v (.list xs) := a1
    cases d1 with
    | lst h1 t1 => exact ⟨_, _, rfl, .inl ⟨sqL_mono r1.fz h1, q1 G1 H1 M _ e1 r1 unlk_none (wk_enumL h1 t1)⟩⟩
  · rename_i xs
    have d1 : Dat X.K G1 v (.list xs) := a1
    cases d1 with
    | lst h1 t1 => exact ⟨_, _, rfl, .inl ⟨sqL_mono r1.fz h1, q1 G1 H1 M _ e1 r1 unlk_none (wk_enumL h1 t1)⟩⟩
  · exact q1.elim
end
end Vi
set_option maxHeartbeats 4000000
namespace Vi
open PySem PySem.Spec PyProof.Rows L2
section
variable {Γ : Cn} {cT : Nat → Addr} {K : PySem.W.Frag} {W : WX} {M : Mk} {R G G' H : Hp} {ρ ρ' : En} {σ : L2.St} {Q : VK} {a b : Tm} {x : Rv} {v : V} {d : D} {p : Addr} {u u' : HO}
theorem Rel.nownR (r : Rel K M R G ρ σ H) (h : R p = some u) : Nown ρ σ p := fun i f o e z => by
  obtain ⟨q, h1, _, h3, _⟩ := r.own i f o e
  rw [h1] at z
  have z2 : q = p := by simpa using z
  subst z2
  rw [h] at h3; cases h3
theorem Rel.weakR (r : Rel K M (upd R p u) G ρ σ H) (h : R p = none) : Rel K M R G ρ σ H where
  len := r.len
  fz := r.fz
  rs := fun a w e => r.rs a w (by rw [upd_ne (ne_of_none e h)]; exact e)
  dj := fun a w e => r.dj a w (by rw [upd_ne (ne_of_none e h)]; exact e)
  dat := r.dat
  own := fun i f o e => by
    obtain ⟨q, h1, h2, h3, h4, h5⟩ := r.own i f o e
    refine ⟨q, h1, h2, ?_, h4, h5⟩
    by_cases z : q = p
    · subst z; exact h
    · rw [upd_ne z] at h3; exact h3
  inj := r.inj
theorem Rel.chgR (r : Rel K M (upd R p u) G ρ σ H) : Rel K M (upd R p u') G ρ σ (upd H p u') where
  len := r.len
  fz := same_upd r.fz (r.dj p u upd_same)
  rs := fun a w e => by
    by_cases z : a = p
    · subst z; rw [upd_same] at e ⊢; exact e
    · rw [upd_ne z] at e ⊢; exact r.rs a w (by rw [upd_ne z]; exact e)
  dj := fun a w e => by
    by_cases z : a = p
    · subst z; exact r.dj a u upd_same
    · rw [upd_ne z] at e; exact r.dj a w (by rw [upd_ne z]; exact e)
  dat := r.dat
  own := fun i f o e => by
    obtain ⟨q, h1, h2, h3, h4, h5⟩ := r.own i f o e
    have ne : q ≠ p := fun z => by subst z; rw [upd_same] at h3; cases h3
    refine ⟨q, h1, h2, by rw [upd_ne ne] at h3 ⊢; exact h3, h4.mono (Same.refl _) (fun w hw => by rw [upd_ne ne]; exact hw), h5⟩
  inj := r.inj
theorem Rel.addR (r : Rel K M R G ρ σ H) (h : H p = none) : Rel K M (upd R p u) G ρ σ (upd H p u) where
  len := r.len
  fz := same_upd r.fz (none_of r.fz h)
  rs := same_both r.rs
  dj := fun a w e => by
    by_cases z : a = p
    · subst z; exact none_of r.fz h
    · rw [upd_ne z] at e; exact r.dj a w e
  dat := r.dat
  own := fun i f o e => by
    obtain ⟨q, h1, h2, h3, h4, h5⟩ := r.own i f o e
    obtain ⟨w, hw⟩ := h4.ex
    have ne : q ≠ p := ne_of_none hw h
    exact ⟨q, h1, h2, by rw [upd_ne ne]; exact h3, h4.mono (Same.refl _) (fun z hz => by rw [upd_ne ne]; exact hz), h5⟩
  inj := r.inj
theorem wipe_get (σ : L2.St) : ∀ (vs : List Nat) (i : Nat), (wipe σ vs)[i]? = if i ∈ vs then (if i < σ.length then some none else none) else σ[i]?
  | [], i => by simp [wipe]
  | v :: vs, i => by
    unfold wipe
    have ih := wipe_get σ vs i
    by_cases h : v = i
    · subst h
      rw [if_pos (List.mem_cons_self ..)]
      by_cases hl : v < σ.length
      · rw [if_pos hl, get_set_self (by rw [wipe_length]; exact hl)]
      · rw [if_neg hl, List.getElem?_eq_none (by rw [List.length_set, wipe_length]; omega)]
    · rw [get_set_ne h, ih]
      by_cases h2 : i ∈ vs
      · rw [if_pos h2, if_pos (List.mem_cons_of_mem _ h2)]
      · rw [if_neg h2, if_neg (fun z => (List.mem_cons.mp z).elim (fun z => h z.symm) h2)]
theorem wipe_eq {σ σ' : L2.St} {l vs : List Nat} (h : Wiped l σ σ') (hl : ∀ i ∈ l, i ∈ vs) : wipe σ' vs = wipe σ vs := by
  apply List.ext_getElem?
  intro i
  rw [wipe_get, wipe_get, h.1]
  by_cases hi : i ∈ vs
  · rw [if_pos hi, if_pos hi]
  · rw [if_neg hi, if_neg hi]
    exact h.2 i fun z => hi (hl i z)
theorem Rel.wipe (r : Rel K M R G ρ σ H) : ∀ ow : List Nat, Rel K M R G (wipeE ρ ow) (L2.wipe σ ow) H
  | [] => r
  | i :: ow => (r.wipe ow).setNon2
theorem wipeE_len (ρ : En) : ∀ ow : List Nat, (wipeE ρ ow).length = ρ.length
  | [] => rfl
  | i :: ow => by unfold wipeE; rw [List.length_set, wipeE_len ρ ow]
theorem backE_len (ρ0 ρ : En) : ∀ ow : List Nat, (backE ρ0 ow ρ).length = ρ.length
  | [] => rfl
  | i :: ow => by unfold backE; rw [List.length_set, backE_len ρ0 ρ ow]
theorem backE_get (ρ0 ρ : En) (hl : ρ0.length = ρ.length) : ∀ (ow : List Nat) (i : Nat), (backE ρ0 ow ρ)[i]? = if i ∈ ow then ρ0[i]? else ρ[i]?
  | [], i => by simp [backE]
  | j :: ow, i => by
    unfold backE
    have ih := backE_get ρ0 ρ hl ow i
    by_cases h : j = i
    · subst h
      rw [if_pos (List.mem_cons_self ..)]
      by_cases hlt : j < ρ.length
      · rw [get_set_self (by rw [backE_len]; exact hlt), List.getD_eq_getElem?_getD]
        have : j < ρ0.length := by omega
        simp [this]
      · rw [List.getElem?_eq_none (by rw [List.length_set, backE_len]; omega), List.getElem?_eq_none (by omega)]
    · rw [get_set_ne h, ih]
      by_cases h2 : i ∈ ow
      · rw [if_pos h2, if_pos (List.mem_cons_of_mem _ h2)]
      · rw [if_neg h2, if_neg (fun z => (List.mem_cons.mp z).elim (fun z => h z.symm) h2)]
theorem Rel.back {ow : List Nat} {ρ0 : En} {G0 : Hp} {R0 H0 : Hp} {M0 : Mk} (r0 : Rel K M0 R0 G0 ρ0 σ H0) (e : Same G0 G) (hp : plainAt ρ0 ow = true) (r : Rel K M R G ρ (L2.wipe σ ow) H) : Rel K M R G (backE ρ0 ow ρ) σ H := by
  have hl : ρ0.length = ρ.length := by rw [r0.len, r.len, wipe_length]
  have get := backE_get ρ0 ρ hl ow
  have no : ∀ i ∈ ow, ∀ f o, ρ0[i]? ≠ some (.own f o) := fun i hi f o z => by
    have := List.all_eq_true.mp hp i hi
    rw [z] at this
    cases this
  have own' : ∀ (i : Nat) (f : Fl) (o : Ob), (backE ρ0 ow ρ)[i]? = some (.own f o) → i ∉ ow ∧ ρ[i]? = some (.own f o) := fun i f o z => by
    rw [get] at z
    by_cases hi : i ∈ ow
    · rw [if_pos hi] at z; exact absurd z (no i hi f o)
    · rw [if_neg hi] at z; exact ⟨hi, z⟩
  have sg : ∀ i, i ∉ ow → (L2.wipe σ ow)[i]? = σ[i]? := fun i hi => by rw [wipe_get, if_neg hi]
  refine ⟨by rw [backE_len, r.len, wipe_length], r.fz, r.rs, r.dj, fun i d z => ?_, fun i f o z => ?_, fun i j f f' o o' p z1 z2 y1 y2 => ?_⟩
  · rw [get] at z
    by_cases hi : i ∈ ow
    · rw [if_pos hi] at z
      obtain ⟨v, h1, h2⟩ := r0.dat i d z
      exact ⟨v, h1, h2.mono e⟩
    · rw [if_neg hi] at z
      obtain ⟨v, h1, h2⟩ := r.dat i d z
      exact ⟨v, by rw [← sg i hi]; exact h1, h2⟩
  · obtain ⟨hi, z⟩ := own' i f o z
    obtain ⟨p, h1, h2⟩ := r.own i f o z
    exact ⟨p, by rw [← sg i hi]; exact h1, h2⟩
  · obtain ⟨hi, z1⟩ := own' i f o z1
    obtain ⟨hj, z2⟩ := own' j f' o' z2
    exact r.inj i j f f' o o' p z1 z2 (by rw [sg i hi]; exact y1) (by rw [sg j hj]; exact y2)
abbrev W0 : WX := fun _ _ _ _ => False
theorem Good.blk {c : Cc} {k : Nat} {X : Cx} (g : Good Γ cT c k X W) {scope : Scope} {own : List (Str × Nat)} (ok : BlkOk X.N X.env.scope scope own) (s : Shared) (H : Hp) (C : Addr) (cl : List (Str × Addr)) (fp : List Addr) :
    Good Γ cT { c with sc := relS scope c.sc, so := scope.names } k (X.blk s H scope (compEnvC scope cl C X.env) fp) W0 where
  N := g.N
  nd := g.nd
  sc := by show relS scope X.env.scope = _; rw [g.sc]
  kind := ok.kind
  calm := g.calm
  room := g.room
  tk := fun u s' h => by
    obtain ⟨_, _, _, _, _, _, _, _, _, _, _, _, _, _, _, _, w⟩ := h
    exact w
  po := PassesOwn.never
  sto := fun x h => by
    unfold stoB at h
    have hx : scope.names.lookup x = some .local ∨ scope.names.lookup x = some .cell := by
      split at h
      · rename_i q; exact .inl q
      · rename_i q; exact .inr q
      · cases h
    rcases hx with hx | hx
    · have := lookup_relS_keep (sc := X.env.scope) (k := .local) (by decide) hx
      exact ⟨.inl this, .inr this⟩
    · have := lookup_relS_keep (sc := X.env.scope) (k := .cell) (by decide) hx
      exact ⟨.inr this, .inl (by show (scope.names.lookup x == some .cell) = true; rw [hx]; rfl)⟩
  bi := g.bi
  gcd := g.gcd
  fn := fun j fn hj => by
    obtain ⟨x, ps, f, fd, e, co⟩ := g.fn j fn hj
    exact ⟨x, ps, f, fd, e, ⟨co.ok, co.np, co.mg, co.kp, co.bd, co.kb⟩⟩
  gl := g.gl
theorem C_sound {c : Option Tm} (h : ∀ a, c = some a → TSound (Γ := Γ) (cT := cT) a) (cc : Cc) (k : Nat) (X : Cx) (W : WX) (es : List Expr) (g : Good Γ cT cc k X W) (hc : chkC cc c es = true) : PTs X es (tC Γ cT X.K W c) := by
  cases c with
  | none =>
    simp only [chkC] at hc
    split at hc <;> try cases hc
    refine ⟨fun pins s σ H Q I ⟨M, R, G, ρ, r, q⟩ => pts_nil.run pins s σ H Q I ?_⟩
    unfold evC at q
    exact q G H (Same.refl _) r
  | some a =>
    simp only [chkC] at hc
    split at hc <;> try cases hc
    rename_i e
    exact pts_one (ptW (h a rfl cc k X W e g hc) fun σ H Q ⟨M, R, G, ρ, r, q⟩ => ⟨M, R, G, ρ, r, by unfold evC at q; exact q⟩)
theorem lcL_ok {k : Lk} {f : D → En → Rs (Option D)} (hf : ∀ x ρ, (∃ o ρ', f x ρ = .ok o ρ') ∨ f x ρ = .no) : ∀ (xs : List D) (ρ : En), (∃ ds ρ', lcL k f xs ρ = .ok ds ρ') ∨ lcL k f xs ρ = .no
  | [], ρ => .inl ⟨_, _, rfl⟩
  | x :: xs, ρ => by
    unfold lcL
    by_cases hk : lkOk k ρ = true
    · rw [if_pos hk]
      rcases hf x ρ with ⟨o, ρ1, e⟩ | e
      · rw [e]
        simp only [Rs.bind_ok]
        rcases lcL_ok hf xs ρ1 with ⟨ds, ρ2, e2⟩ | e2
        · rw [e2]; exact .inl ⟨_, _, rfl⟩
        · rw [e2]; exact .inr rfl
      · rw [e]; exact .inr rfl
    · rw [if_neg hk]; exact .inr rfl
theorem calm_ok {α : Type} (x : Rs α) : (∃ o ρ', x.calm = .ok o ρ') ∨ x.calm = .no := by
  cases x with
  | no => exact .inr rfl
  | ex c d ρ => exact .inr rfl
  | ok a ρ => exact .inl ⟨a, ρ, rfl⟩
theorem calm_eq {α : Type} {x : Rs α} {a : α} (h : x.calm = .ok a ρ) : x = .ok a ρ := by
  cases x with
  | no => cases h
  | ex c d ρ => cases h
  | ok a ρ => exact h
theorem bind_eq {α β : Type} {x : Rs α} {f : α → En → Rs β} {b : β} (h : x.bind f = .ok b ρ) : ∃ a ρ1, x = .ok a ρ1 ∧ f a ρ1 = .ok b ρ := by
  cases x with
  | no => cases h
  | ex c d ρ => cases h
  | ok a ρ1 => exact ⟨a, ρ1, rfl, h⟩
theorem lcL_cons {k : Lk} {f : D → En → Rs (Option D)} {x : D} {xs rest : List D} {ρe : En} (h : lcL k f (x :: xs) ρ = .ok rest ρe) : ∃ o ρ5 rest', lkOk k ρ = true ∧ f x ρ = .ok o ρ5 ∧ lcL k f xs ρ5 = .ok rest' ρe ∧ rest = o.toList ++ rest' := by
  unfold lcL at h
  split at h
  · rename_i hk
    obtain ⟨o, ρ5, ho, h⟩ := bind_eq h
    obtain ⟨rest', ρ6, h6, h⟩ := bind_eq h
    cases o with
    | none => cases h; exact ⟨none, ρ5, _, hk, ho, h6, rfl⟩
    | some y => cases h; exact ⟨some y, ρ5, _, hk, ho, h6, rfl⟩
  · cases h
theorem ownN_map {N : List Str} (ow : List Nat) : (ownN N ow).map (·.2) = ow := by
  unfold ownN
  rw [List.map_map]
  exact (List.map_congr_left (g := id) fun _ _ => rfl).trans (List.map_id _)
def lcF (Γ : Cn) (tg : Tg) (ow : List Nat) (c : Option Tm) (e : Tm) (x : D) (ρ1 : En) : Rs (Option D) :=
  ((letD tg x ρ1).bind fun _ ρ1 => (evC Γ c ρ1).bind fun k ρ1 => if k then (evR Γ e ρ1).bind fun r ρ1 => (esc r ρ1).bind fun d ρ1 => .ok (some d) (wipeE ρ1 ow) else .ok none (wipeE ρ1 ow)).calm
theorem lc_wish {it : It} {tg : Tg} {ow : List Nat} {c : Option Tm} {e : Tm} (hti : itTp it = true → isTp tg = true) (hsub : ∀ i ∈ tgIx tg, i ∈ ow) (r : Rel K M R G ρ σ H) (q : Post K cT W M R G σ (evR Γ (.lc it tg ow c e) ρ) fun r ρ' => Res K M R G ρ' σ r Q) :
    tLc (tI Γ cT K W it) (gT K tg) (tC Γ cT K W0 c) (tE Γ cT K W0 e) ow σ H Q := by
  unfold evR at q
  refine ⟨M, R, G, ρ, r, q.bind.imp fun pq ρ1 q1 G1 H1 M1 J e1 r1 un wk => ?_⟩
  obtain ⟨xs, k⟩ := pq
  simp only at q1 un wk
  split at q1
  case isFalse => exact q1.elim
  rename_i hcond
  obtain ⟨hpl, hln⟩ := ba2 hcond
  have hln : xs.length ≤ 1000000 := of_decide_eq_true hln
  replace q1 : Post K cT W M R G σ ((lcL k (lcF Γ tg ow c e) xs (wipeE ρ1 ow)).bind fun ds ρ2 => if lkOk k (backE ρ1 ow ρ2) then .ok (.new (.lst ds)) (unl k (backE ρ1 ow ρ2)) else .no) fun r ρ' => Res K M R G ρ' σ r Q := q1
  rcases lcL_ok (k := k) (f := lcF Γ tg ow c e) (fun x ρ => calm_ok _) xs (wipeE ρ1 ow) with ⟨ds, ρe, he⟩ | he
  case inr => rw [he] at q1; exact q1.elim
  rw [he] at q1
  simp only [Rs.bind_ok] at q1
  split at q1
  case isFalse => exact q1.elim
  rename_i hlk
  have hres : Res K M R G (unl k (backE ρ1 ow ρe)) σ (.new (.lst ds)) Q := q1
  intro D hD
  have hRD : R D = none := none_of r1.rs hD
  refine ⟨fun i m H => m = xs.length - i ∧ i ≤ xs.length ∧ ∃ G2 ρ2 acc ds0 rest, Same G1 G2 ∧ Rel K M1 (upd R D (.lst acc)) G2 ρ2 (wipe σ ow) H ∧ Dats K G2 acc ds0 ∧ acc.length ≤ i ∧ lcL k (lcF Γ tg ow c e) (xs.drop i) ρ2 = .ok rest ρe ∧ ds = ds0 ++ rest,
    ⟨_, rfl, Nat.zero_le _, G1, wipeE ρ1 ow, [], [], ds, Same.refl _, (r1.addR hD).wipe ow, .nil, Nat.le_refl _, he, rfl⟩, ?_⟩
  rintro i m H2 ⟨rfl, hi, G2, ρ2, acc, ds0, rest, e2, r2, t2, ha, hl, hds⟩
  by_cases hlt : i < xs.length
  case neg =>
    left
    have ei : i = xs.length := by omega
    subst ei
    rw [List.drop_length] at hl
    cases hl
    have rb : Rel K M1 (upd R D (.lst acc)) G2 (backE ρ1 ow ρe) σ H2 := Rel.back r1 e2 hpl r2
    have ru := un _ _ _ _ _ rb hlk
    refine ⟨((wk xs.length _ _ _ _ _ e2 rb hlk).2 (Nat.le_refl _)), ?_⟩
    refine hres G2 H2 (.ref D) (e1.trans e2) (ru.weakR hRD) ⟨D, rfl, ru.dj D _ upd_same, hRD, ru.nownR upd_same, acc, ru.rs D _ upd_same, ?_⟩
    rw [hds, List.append_nil]; exact t2
  right
  have hdrop : xs.drop i = xs[i] :: xs.drop (i + 1) := List.drop_eq_getElem_cons hlt
  rw [hdrop] at hl
  obtain ⟨o, ρ5, rest', hk2, ho, hrest, erest⟩ := lcL_cons hl
  have hx : xs[i]? = some xs[i] := List.getElem?_eq_getElem hlt
  obtain ⟨go, step⟩ := (wk i _ _ _ _ _ e2 r2 hk2).1 _ hx
  refine ⟨go, fun H' => ∃ G2 ρ2 acc ds0 rest, Same G1 G2 ∧ Rel K M1 (upd R D (.lst acc)) G2 ρ2 (wipe σ ow) H' ∧ Dats K G2 acc ds0 ∧ acc.length ≤ i + 1 ∧ lcL k (lcF Γ tg ow c e) (xs.drop (i + 1)) ρ2 = .ok rest ρe ∧ ds = ds0 ++ rest,
    fun H' z => ⟨_, by omega, rfl, hlt, z⟩, fun xv H3 hy => ?_⟩
  obtain ⟨G3, e3, r3, d3⟩ := step xv H3 hy
  obtain ⟨_, ρ3, hlet, ho⟩ := bind_eq (calm_eq ho)
  obtain ⟨bk, ρ4, hc4, ho⟩ := bind_eq ho
  refine ⟨M1, _, G3, ρ2, _, ρ3, r3, d3.imp hti, hlet, fun σ4 r4 w4 => ⟨wipe_eq w4 hsub |>.trans ?_, M1, _, G3, ρ3, r4, ?_⟩⟩
  · apply List.ext_getElem?
    intro j
    rw [wipe_get, wipe_length, wipe_get]
    by_cases hj : j ∈ ow
    · rw [if_pos hj, if_pos hj]
    · rw [if_neg hj, if_neg hj]
  have hww : wipe σ4 ow = wipe σ ow := by
    refine (wipe_eq w4 hsub).trans ?_
    apply List.ext_getElem?
    intro j
    rw [wipe_get, wipe_length, wipe_get]
    by_cases hj : j ∈ ow
    · rw [if_pos hj, if_pos hj]
    · rw [if_neg hj, if_neg hj]
  show Post K cT W0 M1 _ G3 σ4 (evC Γ c ρ3) _
  rw [hc4]
  intro G5 H5 e5 r5
  cases bk with
  | false =>
    rw [if_neg Bool.false_ne_true] at ho ⊢
    have eo : o = none := by injection ho with h1 h2; exact h1.symm
    have e5' : ρ5 = wipeE ρ4 ow := by injection ho with h1 h2; exact h2.symm
    subst eo e5'
    refine ⟨G5, wipeE ρ4 ow, acc, ds0, rest', (e2.trans e3).trans e5, ?_, t2.mono (e3.trans e5), by omega, hrest, by rw [hds, erest]; rfl⟩
    rw [← hww]; exact r5.wipe ow
  | true =>
    rw [if_pos rfl] at ho ⊢
    obtain ⟨rv, ρ7, hev, ho⟩ := bind_eq ho
    obtain ⟨dv, ρ8, hesc, ho⟩ := bind_eq ho
    have eo : o = some dv := by injection ho with h1 h2; exact h1.symm
    have e5' : ρ5 = wipeE ρ8 ow := by injection ho with h1 h2; exact h2.symm
    subst eo e5'
    refine ⟨M1, _, G5, ρ4, r5, ?_⟩
    show Post K cT W0 M1 _ G5 σ4 (evR Γ e ρ4) _
    rw [hev]
    intro G6 H6 y e6 r6 hy6
    obtain ⟨G7, e7, r7, a7⟩ := settle r6 hy6
    obtain ⟨G8, e8, r8, d8⟩ := escape r7 a7 hesc
    refine ⟨acc, r8.rs D _ upd_same, by rw [sizeLine_eq]; omega, G8, wipeE ρ8 ow, acc ++ [y], ds0 ++ [dv], rest', ((((e2.trans e3).trans e5).trans e6).trans e7).trans e8, ?_, (t2.mono ((((e3.trans e5).trans e6).trans e7).trans e8)).snoc d8, by simp; omega, hrest, ?_⟩
    · have := (r8.chgR (u' := .lst (acc ++ [y]))).wipe ow
      rw [hww] at this
      exact this
    · rw [hds, erest, List.append_assoc]; rfl
theorem foldedSet_of {e : Expr} {env : Env} (h : (!isSet e) = true) : ∀ x, foldedSetIterable e env x = pure x := by
  intro x
  cases e <;> first | rfl | cases h
theorem tp_tuple {it : It} {tg : Tg} {N : List Str} {so : List (Str × NameKind)} {et : Expr} (h : tpOk it tg = true) (h2 : chkTg N so tg et = true) : itTp it = true → ∃ es kk p, et = .Tuple es kk p := fun hi => by
  unfold tpOk at h
  rw [hi] at h
  cases tg with
  | nm i => cases h
  | tp ts =>
    simp only [chkTg] at h2
    split at h2
    · exact ⟨_, _, _, rfl⟩
    · cases h2
theorem tp_imp {it : It} {tg : Tg} (h : tpOk it tg = true) : itTp it = true → isTp tg = true := fun hi => by
  unfold tpOk at h
  rw [hi] at h
  exact h
theorem ES_lc {it : It} {tg : Tg} {ow : List Nat} {c : Option Tm} {e : Tm} (hi : ISound Γ cT it) (hc : ∀ a, c = some a → TSound (Γ := Γ) (cT := cT) a) (he : ESound (Γ := Γ) (cT := cT) e) : ESound (Γ := Γ) (cT := cT) (.lc it tg ow c e) := by
  intro cc k X W ex g h
  simp only [chkE] at h
  split at h <;> try cases h
  rename_i ee et ei ifs scope pos
  obtain ⟨h1234567, h8⟩ := ba2 h
  obtain ⟨h123456, h7⟩ := ba2 h1234567
  obtain ⟨h12345, h6⟩ := ba2 h123456
  obtain ⟨h1234, h5⟩ := ba2 h12345
  obtain ⟨h123, h4⟩ := ba2 h1234
  obtain ⟨h12, h3⟩ := ba2 h123
  obtain ⟨h1, h2⟩ := ba2 h12
  have nd : X.N.Nodup := by rw [g.N]; exact g.nd
  have ok : BlkOk X.N X.env.scope scope (ownN cc.N ow) := by rw [g.N, g.sc]; exact blkOk_by h3
  have hsub : ∀ i ∈ tgIx tg, i ∈ ow := fun i hi => by
    have := List.all_eq_true.mp h8 i hi
    simpa using this
  have := pe_lc (g := gT X.K tg) (tt := tC Γ cT X.K W0 c) (te := tE Γ cT X.K W0 e) (elt := ee) (ifs := ifs) (pos := pos) g.calm nd (hi cc k X W et ei g (ba2 h1).1 (tp_tuple (ba2 h1).2 h4)) ok
    (fun s H C cl fp => PG_tg (X := X.blk s H scope (compEnvC scope cl C X.env) fp) g.calm nd (so := scope.names) (fun x hx => (g.blk ok s H C cl fp).sto x hx) tg et (by show chkTg X.N _ _ _ = true; rw [g.N]; exact h4))
    (fun s H C cl fp => C_sound hc _ k _ _ ifs (g.blk ok s H C cl fp) h5)
    (fun s H C cl fp => he _ k _ _ ee (g.blk ok s H C cl fp) h6) (foldedSet_of h2)
  rw [ownN_map] at this
  exact peW this fun σ H Q ⟨M, R, G, ρ, r, q⟩ => lc_wish (tp_imp (ba2 h1).2) hsub r q
end
end Vi
set_option maxHeartbeats 4000000
namespace Vi
open PySem PySem.Spec PyProof.Rows L2
section
variable {Γ : Cn} {cT : Nat → Addr} {K : PySem.W.Frag} {W : WX} {M : Mk} {R G G' H : Hp} {ρ ρ' : En} {σ : L2.St} {Q : VK}
theorem lc2L_ok {k : Lk} {f : D → En → Rs (List D)} (hf : ∀ x ρ, (∃ o ρ', f x ρ = .ok o ρ') ∨ f x ρ = .no) : ∀ (xs : List D) (ρ : En), (∃ ds ρ', lc2L k f xs ρ = .ok ds ρ') ∨ lc2L k f xs ρ = .no
  | [], ρ => .inl ⟨_, _, rfl⟩
  | x :: xs, ρ => by
    unfold lc2L
    by_cases hk : lkOk k ρ = true
    · rw [if_pos hk]
      rcases hf x ρ with ⟨o, ρ1, e⟩ | e
      · rw [e, Rs.bind_ok]
        rcases lc2L_ok hf xs ρ1 with ⟨ds, ρ2, e2⟩ | e2
        · rw [e2]; exact .inl ⟨_, _, rfl⟩
        · rw [e2]; exact .inr rfl
      · rw [e]; exact .inr rfl
    · rw [if_neg hk]; exact .inr rfl
theorem lc2L_cons {k : Lk} {f : D → En → Rs (List D)} {x : D} {xs rest : List D} {ρe : En} (h : lc2L k f (x :: xs) ρ = .ok rest ρe) : ∃ o ρ5 rest', lkOk k ρ = true ∧ f x ρ = .ok o ρ5 ∧ lc2L k f xs ρ5 = .ok rest' ρe ∧ rest = o ++ rest' := by
  unfold lc2L at h
  split at h
  · rename_i hk
    obtain ⟨o, ρ5, ho, h⟩ := bind_eq h
    obtain ⟨rest', ρ6, h6, h⟩ := bind_eq h
    cases h
    exact ⟨o, ρ5, _, hk, ho, h6, rfl⟩
  · cases h
def lcG (Γ : Cn) (tg : Tg) (ow : List Nat) (c0 : Option Tm) (it1 : It) (F : D → En → Rs (Option D)) (ow1 : List Nat) (x : D) (ρ1 : En) : Rs (List D) :=
  ((letD tg x ρ1).bind fun _ ρ1 => (evC Γ c0 ρ1).bind fun k ρ1 => if k then (evIt Γ it1 ρ1).bind fun p1 ρ1 => (lcL p1.2 F p1.1 (wipeE ρ1 ow1)).bind fun ds ρ2 => if lkOk p1.2 ρ2 then .ok ds (wipeE (unl p1.2 ρ2) ow) else .no
    else .ok [] (wipeE ρ1 ow)).calm
theorem wipe_two {σ : L2.St} {ow ow1 : List Nat} (h : ∀ i ∈ ow1, i ∈ ow) : L2.wipe (L2.wipe σ ow1) ow = L2.wipe σ ow := by
  apply List.ext_getElem?
  intro j
  simp only [wipe_get, wipe_length]
  by_cases hj : j ∈ ow
  · simp only [hj, if_true]
  · have hj1 : ¬ j ∈ ow1 := fun z => hj (h j z)
    simp only [hj, hj1, if_false]
theorem lc2_wish {it it1 : It} {tg tg1 : Tg} {ow ow1 : List Nat} {c0 c : Option Tm} {e : Tm} (hti : itTp it = true → isTp tg = true) (hti1 : itTp it1 = true → isTp tg1 = true) (hsub : ∀ i ∈ tgIx tg, i ∈ ow) (hsub1 : ∀ i ∈ tgIx tg1, i ∈ ow1) (hoo : ∀ i ∈ ow1, i ∈ ow)
    (r : Rel K M R G ρ σ H) (q : Post K cT W M R G σ (evR Γ (.lc2 it tg c0 it1 tg1 ow ow1 c e) ρ) fun r ρ' => Res K M R G ρ' σ r Q) :
    tLc2 (tI Γ cT K W it) (gT K tg) (tC Γ cT K W0 c0) (tI Γ cT K W0 it1) (gT K tg1) (tC Γ cT K W0 c) (tE Γ cT K W0 e) ow ow1 σ H Q := by
  unfold evR at q
  refine ⟨M, R, G, ρ, r, q.bind.imp fun pq ρ1 q1 G1 H1 M1 J e1 r1 un wk => ?_⟩
  obtain ⟨xs, k⟩ := pq
  simp only at q1 un wk
  split at q1
  case isFalse => exact q1.elim
  rename_i hcond
  obtain ⟨hpl, hln⟩ := ba2 hcond
  replace q1 : Post K cT W M R G σ ((lc2L k (lcG Γ tg ow c0 it1 (lcF Γ tg1 ow1 c e) ow1) xs (wipeE ρ1 ow)).bind fun ds ρ2 => if (lkOk k (backE ρ1 ow ρ2) && lenOk ds.length) = true then .ok (.new (.lst ds)) (unl k (backE ρ1 ow ρ2)) else .no) fun r ρ' => Res K M R G ρ' σ r Q := q1
  rcases lc2L_ok (k := k) (f := lcG Γ tg ow c0 it1 (lcF Γ tg1 ow1 c e) ow1) (fun x ρ => calm_ok _) xs (wipeE ρ1 ow) with ⟨ds, ρe, he⟩ | he
  case inr => rw [he] at q1; exact q1.elim
  rw [he] at q1
  simp only [Rs.bind_ok] at q1
  split at q1
  case isFalse => exact q1.elim
  rename_i hlk
  obtain ⟨hlk, hlen⟩ := ba2 hlk
  have hlen : ds.length ≤ 1000000 := of_decide_eq_true hlen
  have hres : Res K M R G (unl k (backE ρ1 ow ρe)) σ (.new (.lst ds)) Q := q1
  intro D hD
  have hRD : R D = none := none_of r1.rs hD
  refine ⟨fun i m H => m = xs.length - i ∧ i ≤ xs.length ∧ ∃ G2 ρ2 acc ds0 rest, Same G1 G2 ∧ Rel K M1 (upd R D (.lst acc)) G2 ρ2 (wipe σ ow) H ∧ Dats K G2 acc ds0 ∧ lc2L k (lcG Γ tg ow c0 it1 (lcF Γ tg1 ow1 c e) ow1) (xs.drop i) ρ2 = .ok rest ρe ∧ ds = ds0 ++ rest,
    ⟨_, rfl, Nat.zero_le _, G1, wipeE ρ1 ow, [], [], ds, Same.refl _, (r1.addR hD).wipe ow, .nil, he, rfl⟩, ?_⟩
  rintro i m H2 ⟨rfl, hi, G2, ρ2, acc, ds0, rest, e2, r2, t2, hl, hds⟩
  by_cases hlt : i < xs.length
  case neg =>
    left
    have ei : i = xs.length := by omega
    subst ei
    rw [List.drop_length] at hl
    cases hl
    have rb : Rel K M1 (upd R D (.lst acc)) G2 (backE ρ1 ow ρe) σ H2 := Rel.back r1 e2 hpl r2
    have ru := un _ _ _ _ _ rb hlk
    refine ⟨((wk xs.length _ _ _ _ _ e2 rb hlk).2 (Nat.le_refl _)), ?_⟩
    refine hres G2 H2 (.ref D) (e1.trans e2) (ru.weakR hRD) ⟨D, rfl, ru.dj D _ upd_same, hRD, ru.nownR upd_same, acc, ru.rs D _ upd_same, ?_⟩
    rw [hds, List.append_nil]; exact t2
  right
  have hdrop : xs.drop i = xs[i] :: xs.drop (i + 1) := List.drop_eq_getElem_cons hlt
  rw [hdrop] at hl
  obtain ⟨o, ρ5, rest', hk2, ho, hrest, erest⟩ := lc2L_cons hl
  have hx : xs[i]? = some xs[i] := List.getElem?_eq_getElem hlt
  obtain ⟨go, step⟩ := (wk i _ _ _ _ _ e2 r2 hk2).1 _ hx
  refine ⟨go, fun H' => ∃ G2 ρ2 acc ds0 rest, Same G1 G2 ∧ Rel K M1 (upd R D (.lst acc)) G2 ρ2 (wipe σ ow) H' ∧ Dats K G2 acc ds0 ∧ lc2L k (lcG Γ tg ow c0 it1 (lcF Γ tg1 ow1 c e) ow1) (xs.drop (i + 1)) ρ2 = .ok rest ρe ∧ ds = ds0 ++ rest,
    fun H' z => ⟨_, by omega, rfl, hlt, z⟩, fun xv H3 hy => ?_⟩
  obtain ⟨G3, e3, r3, d3⟩ := step xv H3 hy
  obtain ⟨_, ρ3, hlet, ho⟩ := bind_eq (calm_eq ho)
  obtain ⟨bk, ρ4, hc4, ho⟩ := bind_eq ho
  have hww : ∀ {σ4 : L2.St}, Wiped (tgIx tg) (wipe σ ow) σ4 → wipe σ4 ow = wipe σ ow := fun {σ4} w4 => by
    refine (wipe_eq w4 hsub).trans ?_
    apply List.ext_getElem?
    intro j
    rw [wipe_get, wipe_length, wipe_get]
    by_cases hj : j ∈ ow
    · rw [if_pos hj, if_pos hj]
    · rw [if_neg hj, if_neg hj]
  refine ⟨M1, _, G3, ρ2, _, ρ3, r3, d3.imp hti, hlet, fun σ4 r4 w4 => ⟨hww w4, M1, _, G3, ρ3, r4, ?_⟩⟩
  show Post K cT W0 M1 _ G3 σ4 (evC Γ c0 ρ3) _
  rw [hc4]
  intro G5 H5 e5 r5
  cases bk with
  | false =>
    rw [if_neg Bool.false_ne_true] at ho ⊢
    have eo : o = [] := by injection ho with h1 h2; exact h1.symm
    have e5' : ρ5 = wipeE ρ4 ow := by injection ho with h1 h2; exact h2.symm
    subst eo e5'
    refine ⟨G5, wipeE ρ4 ow, acc, ds0, rest', (e2.trans e3).trans e5, ?_, t2.mono (e3.trans e5), hrest, by rw [hds, erest]; rfl⟩
    rw [← hww w4]; exact r5.wipe ow
  | true =>
    rw [if_pos rfl] at ho ⊢
    obtain ⟨p1, ρ6, hit, ho⟩ := bind_eq ho
    obtain ⟨xs1, k1⟩ := p1
    obtain ⟨ds1, ρ7, hin, ho⟩ := bind_eq ho
    simp only at hin ho
    split at ho
    case isFalse => cases ho
    rename_i hlk1
    have eo : o = ds1 := by injection ho with h1 h2; exact h1.symm
    have e7' : ρ5 = wipeE (unl k1 ρ7) ow := by injection ho with h1 h2; exact h2.symm
    subst eo e7'
    refine ⟨M1, _, G5, ρ4, r5, ?_⟩
    show Post K cT W0 M1 _ G5 σ4 (evIt Γ it1 ρ4) _
    rw [hit]
    intro G6 H6 M2 J1 e6 r6 un1 wk1
    refine ⟨fun j m H => m = xs1.length - j ∧ j ≤ xs1.length ∧ ∃ G2 ρ2 acc ds0 rest1, Same G6 G2 ∧ Rel K M2 (upd R D (.lst acc)) G2 ρ2 (wipe σ4 ow1) H ∧ Dats K G2 acc ds0 ∧ lcL k1 (lcF Γ tg1 ow1 c e) (xs1.drop j) ρ2 = .ok rest1 ρ7 ∧ ds = ds0 ++ (rest1 ++ rest'),
      ⟨_, rfl, Nat.zero_le _, G6, wipeE ρ6 ow1, acc, ds0, o, Same.refl _, r6.wipe ow1, t2.mono ((e3.trans e5).trans e6), hin, by rw [hds, erest]⟩, ?_⟩
    rintro j m H7 ⟨rfl, hj, G7, ρ8, acc7, ds7, rest1, e7, r7, t7, hl7, hds7⟩
    by_cases hlt1 : j < xs1.length
    case neg =>
      left
      have ej : j = xs1.length := by omega
      subst ej
      rw [List.drop_length] at hl7
      cases hl7
      refine ⟨((wk1 xs1.length _ _ _ _ _ e7 r7 hlk1).2 (Nat.le_refl _)), ?_⟩
      have ru := (un1 _ _ _ _ _ r7 hlk1).wipe ow
      rw [wipe_two hoo, hww w4] at ru
      exact ⟨G7, _, acc7, ds7, rest', ((((e2.trans e3).trans e5).trans e6).trans e7), ru, t7, hrest, by rw [hds7]; rfl⟩
    right
    have hdrop1 : xs1.drop j = xs1[j] :: xs1.drop (j + 1) := List.drop_eq_getElem_cons hlt1
    rw [hdrop1] at hl7
    obtain ⟨o1, ρ9, rest2, hk3, ho1, hrest2, erest2⟩ := lcL_cons hl7
    have hx1 : xs1[j]? = some xs1[j] := List.getElem?_eq_getElem hlt1
    obtain ⟨go1, step1⟩ := (wk1 j _ _ _ _ _ e7 r7 hk3).1 _ hx1
    refine ⟨go1, fun H' => ∃ G2 ρ2 acc ds0 rest1, Same G6 G2 ∧ Rel K M2 (upd R D (.lst acc)) G2 ρ2 (wipe σ4 ow1) H' ∧ Dats K G2 acc ds0 ∧ lcL k1 (lcF Γ tg1 ow1 c e) (xs1.drop (j + 1)) ρ2 = .ok rest1 ρ7 ∧ ds = ds0 ++ (rest1 ++ rest'),
      fun H' z => ⟨_, by omega, rfl, hlt1, z⟩, fun xv H8 hy1 => ?_⟩
    obtain ⟨G8, e8, r8, d8⟩ := step1 xv H8 hy1
    obtain ⟨_, ρ10, hlet1, ho1⟩ := bind_eq (calm_eq ho1)
    obtain ⟨bk1, ρ11, hc11, ho1⟩ := bind_eq ho1
    have hww1 : ∀ {σ9 : L2.St}, Wiped (tgIx tg1) (wipe σ4 ow1) σ9 → wipe σ9 ow1 = wipe σ4 ow1 := fun {σ9} w9 => by
      refine (wipe_eq w9 hsub1).trans ?_
      apply List.ext_getElem?
      intro j
      rw [wipe_get, wipe_length, wipe_get]
      by_cases hj : j ∈ ow1
      · rw [if_pos hj, if_pos hj]
      · rw [if_neg hj, if_neg hj]
    refine ⟨M2, _, G8, ρ8, _, ρ10, r8, d8.imp hti1, hlet1, fun σ9 r9 w9 => ⟨hww1 w9, M2, _, G8, ρ10, r9, ?_⟩⟩
    show Post K cT W0 M2 _ G8 σ9 (evC Γ c ρ10) _
    rw [hc11]
    intro G11 H11 e11 r11
    cases bk1 with
    | false =>
      rw [if_neg Bool.false_ne_true] at ho1 ⊢
      have eo : o1 = none := by injection ho1 with h1 h2; exact h1.symm
      have e9' : ρ9 = wipeE ρ11 ow1 := by injection ho1 with h1 h2; exact h2.symm
      subst eo e9'
      refine ⟨G11, wipeE ρ11 ow1, acc7, ds7, rest2, (e7.trans e8).trans e11, ?_, t7.mono (e8.trans e11), hrest2, by rw [hds7, erest2]; rfl⟩
      rw [← hww1 w9]; exact r11.wipe ow1
    | true =>
      rw [if_pos rfl] at ho1 ⊢
      obtain ⟨rv, ρ12, hev, ho1⟩ := bind_eq ho1
      obtain ⟨dv, ρ13, hesc, ho1⟩ := bind_eq ho1
      have eo : o1 = some dv := by injection ho1 with h1 h2; exact h1.symm
      have e9' : ρ9 = wipeE ρ13 ow1 := by injection ho1 with h1 h2; exact h2.symm
      subst eo e9'
      refine ⟨M2, _, G11, ρ11, r11, ?_⟩
      show Post K cT W0 M2 _ G11 σ9 (evR Γ e ρ11) _
      rw [hev]
      intro G12 H12 y e12 r12 hy12
      obtain ⟨G13, e13, r13, a13⟩ := settle r12 hy12
      obtain ⟨G14, e14, r14, d14⟩ := escape r13 a13 hesc
      have hal : acc7.length = ds7.length := t7.length
      have hdl := congrArg List.length hds7
      rw [erest2] at hdl
      simp only [List.length_append, Option.toList_some, List.length_cons, List.length_nil] at hdl
      refine ⟨acc7, r14.rs D _ upd_same, by rw [sizeLine_eq]; omega, G14, wipeE ρ13 ow1, acc7 ++ [y], ds7 ++ [dv], rest2, (((((e7.trans e8).trans e11).trans e12).trans e13).trans e14), ?_, (t7.mono (((((e8).trans e11).trans e12).trans e13).trans e14)).snoc d14, hrest2, ?_⟩
      · have := (r14.chgR (u' := .lst (acc7 ++ [y]))).wipe ow1
        rw [hww1 w9] at this
        exact this
      · rw [hds7, erest2]
        simp [List.append_assoc]
theorem ES_lc2 {it it1 : It} {tg tg1 : Tg} {ow ow1 : List Nat} {c0 c : Option Tm} {e : Tm} (hi : ISound Γ cT it) (hi1 : ISound Γ cT it1) (hc0 : ∀ a, c0 = some a → TSound (Γ := Γ) (cT := cT) a) (hc : ∀ a, c = some a → TSound (Γ := Γ) (cT := cT) a) (he : ESound (Γ := Γ) (cT := cT) e) : ESound (Γ := Γ) (cT := cT) (.lc2 it tg c0 it1 tg1 ow ow1 c e) := by
  intro cc k X W ex g h
  simp only [chkE] at h
  split at h <;> try cases h
  rename_i ee et ei ifs et1 ei1 ifs1 scope pos
  obtain ⟨h, z16⟩ := ba2 h
  obtain ⟨h, z15⟩ := ba2 h
  obtain ⟨h, z14⟩ := ba2 h
  obtain ⟨h, z13⟩ := ba2 h
  obtain ⟨h, z12⟩ := ba2 h
  obtain ⟨h, z11⟩ := ba2 h
  obtain ⟨h, z10⟩ := ba2 h
  obtain ⟨h, z9⟩ := ba2 h
  obtain ⟨h, z8⟩ := ba2 h
  obtain ⟨h, z7⟩ := ba2 h
  obtain ⟨h, z6⟩ := ba2 h
  obtain ⟨h, z5⟩ := ba2 h
  obtain ⟨h, z4⟩ := ba2 h
  obtain ⟨h, z3⟩ := ba2 h
  obtain ⟨z1, z2⟩ := ba2 h
  have nd : X.N.Nodup := by rw [g.N]; exact g.nd
  have ok : BlkOk X.N X.env.scope scope (ownN cc.N ow) := by rw [g.N, g.sc]; exact blkOk_by z4
  have sub : ∀ {l : List Nat} {o : List Nat}, l.all o.contains = true → ∀ i ∈ l, i ∈ o := fun h i hi => by
    have := List.all_eq_true.mp h i hi
    simpa using this
  have := pe_lc2 (g := gT X.K tg) (tt := tC Γ cT X.K W0 c0) (wi1 := tI Γ cT X.K W0 it1) (g1 := gT X.K tg1) (tt1 := tC Γ cT X.K W0 c) (te := tE Γ cT X.K W0 e) (elt := ee) (ifs := ifs) (ifs1 := ifs1) (vs1 := ow1) (pos := pos) g.calm nd (hi cc k X W et ei g z1 (tp_tuple z2 z5)) ok
    (fun i hi => by rw [ownN_map]; exact sub z16 i hi)
    (fun s H C cl fp => PG_tg (X := X.blk s H scope (compEnvC scope cl C X.env) fp) g.calm nd (so := scope.names) (fun x hx => (g.blk ok s H C cl fp).sto x hx) tg et (by show chkTg X.N _ _ _ = true; rw [g.N]; exact z5))
    (fun s H C cl fp => C_sound hc0 _ k _ _ ifs (g.blk ok s H C cl fp) z6)
    (fun s H C cl fp => hi1 _ k _ _ et1 ei1 (g.blk ok s H C cl fp) z7 (tp_tuple z8 z10))
    (fun s H C cl fp => PG_tg (X := X.blk s H scope (compEnvC scope cl C X.env) fp) g.calm nd (so := scope.names) (fun x hx => (g.blk ok s H C cl fp).sto x hx) tg1 et1 (by show chkTg X.N _ _ _ = true; rw [g.N]; exact z10))
    (fun s H C cl fp => C_sound hc _ k _ _ ifs1 (g.blk ok s H C cl fp) z11)
    (fun s H C cl fp => he _ k _ _ ee (g.blk ok s H C cl fp) z12) (foldedSet_of z3) (fun env x => foldedSet_of z9 x)
  rw [ownN_map] at this
  exact peW this fun σ H Q ⟨M, R, G, ρ, r, q⟩ => lc2_wish (tp_imp z2) (tp_imp z8) (sub z14) (sub z15) (sub z16) r q
end
end Vi
set_option maxHeartbeats 4000000
namespace Vi
open PySem PySem.Spec PyProof.Rows L2
section
variable {Γ : Cn} {cT : Nat → Addr} {K : PySem.W.Frag} {W : WX} {M : Mk} {R R' G G' H : Hp} {ρ ρ' : En} {σ : L2.St} {Q : VK} {a b : Tm} {x : Rv} {v : V} {d : D} {p : Addr} {u u' : HO}
theorem TS_ite {k0 : Tm} (hk : TSound (Γ := Γ) (cT := cT) k0) (ha : TSound (Γ := Γ) (cT := cT) a) (hb : TSound (Γ := Γ) (cT := cT) b) : TSound (Γ := Γ) (cT := cT) (.ite k0 a b) := by
  intro c k X W e g h
  simp only [chkE] at h
  split at h <;> try cases h
  rename_i ek ea eb p
  obtain ⟨h12, h3⟩ := ba2 h
  obtain ⟨h1, h2⟩ := ba2 h12
  refine ⟨fun pins s σ H Q I ⟨M, R, G, ρ, r, q⟩ => ?_⟩
  unfold evT at q
  show wpAny _ _ (do if ← isTrue ek X.env (eval ek X.env) then isTrue ea X.env (eval ea X.env) else isTrue eb X.env (eval eb X.env)) _ _ s
  refine wpAny_bind (thn ((hk c k X W ek g h1).run pins s σ H (fun kk H1 => if kk = true then tT Γ cT X.K W a σ H1 Q else tT Γ cT X.K W b σ H1 Q) I ⟨M, R, G, ρ, r, q.bind.imp fun b ρ1 q1 G1 H1 e1 r1 => ?_⟩) fun b s1 ⟨H1, I1, q1⟩ => ?_)
  · cases b with
    | true =>
      rw [if_pos rfl] at q1 ⊢
      exact ⟨M, R, G1, ρ1, r1, q1.monoG e1 fun b ρ2 z G2 H2 e2 r2 => z G2 H2 (e1.trans e2) r2⟩
    | false =>
      rw [if_neg Bool.false_ne_true] at q1 ⊢
      exact ⟨M, R, G1, ρ1, r1, q1.monoG e1 fun b ρ2 z G2 H2 e2 r2 => z G2 H2 (e1.trans e2) r2⟩
  · cases b with
    | true =>
      rw [if_pos rfl] at q1 ⊢
      exact (ha c k X W ea g h2).run pins s1 σ H1 Q I1 q1
    | false =>
      rw [if_neg Bool.false_ne_true] at q1 ⊢
      exact (hb c k X W eb g h3).run pins s1 σ H1 Q I1 q1
theorem ES_bot : ESound (Γ := Γ) (cT := cT) .bot := by
  intro c k X W e g h
  refine peF fun σ H Q ⟨M, R, G, ρ, r, q⟩ => ?_
  unfold evR at q
  exact q
theorem TS_bot : TSound (Γ := Γ) (cT := cT) .bot := by
  intro c k X W e g h
  refine ⟨fun pins s σ H Q I ⟨M, R, G, ρ, r, q⟩ => ?_⟩
  unfold evT evR at q
  exact q.elim
theorem rev_ok {dx : D} {rv : Rv} {K : PySem.W.Frag} {M : Mk} {R G H : Hp} {ρ : En} {σ : L2.St} {x : V} {Q : VK} (hb : revD dx = some rv) (r : Rel K M R G ρ σ H) (hx : Rdb K G H x dx) (h : Res K M R G ρ σ rv Q) :
    (∃ a xs, x = .ref a ∧ SqT K H a xs ∧ ∀ p o, H p = none → o.dict = none → Q (.ref p) (upd H p (.frz o (.tup xs.reverse)))) ∨ ∃ a xs, x = .ref a ∧ SqL K H a xs ∧ ∀ p, H p = none → Q (.ref p) (upd H p (.lst xs.reverse)) := by
  unfold revD at hb
  split at hb
  · cases hb
    obtain ⟨p, vs, rfl, h1, t1⟩ := hx.lst r.fz
    exact .inr ⟨p, vs, rfl, h1, fun q hq => h.mkL r hq t1.rev⟩
  · cases hb
    obtain ⟨p, vs, rfl, h1, t1, _⟩ := hx.tup r.fz
    exact .inl ⟨p, vs, rfl, h1, fun q o hq ho => h.mk r hq (.tup (.new ho) (t1.rev.mono (same_new (none_of r.fz hq))))⟩
  · cases hb
theorem pe_sset {x y : Str} {p p2 q q2 : Pos} {e : Expr} {ta : TE} (hc : X.calm = true) (hu : X.A.units + 70 < cLine) (hg : Gl X x) (hm : X.mg x = none) (hx : x = "sorted") (hg2 : Gl X y) (hm2 : X.mg y = none) (hy : y = "set") (ha : PE X e ta) (hs : (!isStar e) = true) :
    PE X (.Call (.Name x p) [.Call (.Name y p2) [e] [] q] [] q2) (tCB (rSortS X.K X.w) (tCons (tCB (rSetK X.K X.w) (tCons ta tNil)) tNil)) := by
  subst hx hy
  have inner : PE X (.Call (.Name "set" p2) [e] [] q) (tCB (rSetK X.K X.w) (tCons ta tNil)) := pe_callTy (cr_setK hc hu) hg2 hm2 (by decide +kernel) (pa_cons ha pa_nil (star1 hs)) (by decide) (by decide) (star1 hs) (by rfl)
  exact pe_callB (cr_sortS hc hu) hg hm (by decide +kernel) (pa_cons inner pa_nil (by rfl)) (by decide) (by decide) (by rfl) (by rfl)
theorem ES_sset (ha : ESound (Γ := Γ) (cT := cT) a) : ESound (Γ := Γ) (cT := cT) (.sset a) := by
  intro c k X W e g h
  simp only [chkE] at h
  split at h <;> try cases h
  rename_i x p0 y p1 e1 p2 p3
  obtain ⟨h1, a8⟩ := ba2 h
  obtain ⟨h1, a7⟩ := ba2 h1
  obtain ⟨h1, a6⟩ := ba2 h1
  obtain ⟨h1, a5⟩ := ba2 h1
  obtain ⟨h1, a4⟩ := ba2 h1
  obtain ⟨h1, a3⟩ := ba2 h1
  obtain ⟨a1, a2⟩ := ba2 h1
  refine peW (pe_sset g.calm g.units (g.gl_ a3) (by rw [of_decide_eq_true a1]; exact g.bi _ (memC a5)) (of_decide_eq_true a1) (g.gl_ a4) (by rw [of_decide_eq_true a2]; exact g.bi _ (memC a6)) (of_decide_eq_true a2) (ha c k X W e1 g a7) a8) fun σ H Q ⟨M, R, G, ρ, r, q⟩ => ?_
  unfold evR at q
  refine tE_then r q.bind fun x ρ1 G1 H1 v E1 r1 a1 q1 => ?_
  split at q1
  · rename_i xs hxs
    split at q1
    · rename_i ho
      have q2 : Res X.K M R G ρ1 σ (.new (.lst (ssetD xs))) Q := q1
      obtain ⟨b1, b2, b3, b4⟩ := setOk_ok ho
      obtain ⟨l, ws, rfl, hs, hd⟩ := (a1.rdb r1 hxs).lst r1.fz
      refine ⟨l, ws, xs, G1, rfl, hs, r1.fz, hd, ho, fun p L hp nd hL hall => ?_⟩
      have inj : ∀ a b : NestedKey, kOk a = true → kOk b = true → a.data = b.data → a = b := fun a b ka kb e => by
        have h1 := eqv_dec ka ka
        have h2 := eqv_dec ka kb
        rw [← e, h1] at h2
        simpa using h2.symm
      have ndd : (L.map fun q => q.2.data).Nodup := by
        rw [List.nodup_iff_pairwise_ne, List.pairwise_map] at nd ⊢
        exact List.Pairwise.imp_of_mem (fun {a b} ha hb hne e => hne (inj _ _ (hL a ha).1 (hL b hb).1 e)) nd
      have pm : (L.map fun q => q.2.data).Perm (dedup xs) := dedup_perm b2 ndd (fun y hy => by
        obtain ⟨q, hq, rfl⟩ := List.mem_map.mp hy
        exact (hL q hq).2.2) fun d hd => by
        obtain ⟨q, hq, rfl⟩ := hall d hd
        exact List.mem_map.mpr ⟨q, hq, rfl⟩
      have fz2 : Same G1 (upd H1 p (SetKO X.w p L)) := (r1.make hp).fz
      refine ⟨p, L, G1, rfl, upd_same, fz2, fun q hq => ⟨(hL q hq).1, (hL q hq).2.1⟩, perm_ok pm b4, fun p' L' hp' pL => ?_⟩
      have pm' : (L'.map fun q => q.2.data).Perm (dedup xs) := (pL.map _).trans pm
      have dd : Dats X.K G1 (L'.map fun q => V.ref q.1) (L'.map fun q => q.2.data) := by
        have g : ∀ M : Lk2, (∀ q ∈ M, q ∈ L') → Dats X.K G1 (M.map fun q => V.ref q.1) (M.map fun q => q.2.data) := fun M => by
          induction M with
          | nil => exact fun _ => .nil
          | cons q M ih => exact fun z => .cons (hL q (pL.mem_iff.mp (z q (by simp)))).2.1 (ih fun r y => z r (by simp [y]))
        exact g L' fun q z => z
      have es : sortD (L'.map fun q => q.2.data) = ssetD xs := sort_one pm' (fun d hd => b2 d (dedup_sub (pm'.mem_iff.mp hd))) (fun a ha b hb => b3 a (dedup_sub (pm'.mem_iff.mp ha)) b (dedup_sub (pm'.mem_iff.mp hb)))
      have d2 := dd.sort
      rw [es] at d2
      exact (Res.mono q2 E1).mkL (r1.make hp) hp' d2
    · exact q1.elim
  · exact q1.elim
theorem ES_rev (ha : ESound (Γ := Γ) (cT := cT) a) : ESound (Γ := Γ) (cT := cT) (.rev a) := by
  intro c k X W e g h
  simp only [chkE] at h
  split at h <;> try cases h
  rename_i ea kk p1 x1 p2 p3 p4
  obtain ⟨h1, h2⟩ := ba2 h
  have hst : chkO c (some (.neg (.con (.int 1)))) (some (.UnaryOp .USub (.Constant kk p1 x1) p2)) = true := by simp only [chkO, chkE]; exact h2
  refine peW (pe_revS (ha c k X W ea g h1) (O_some (a := .neg (.con (.int 1))) (ES_neg ES_con) g hst)) fun σ H Q ⟨M, R, G, ρ, r, q⟩ => ?_
  unfold evR at q
  refine tE_then r q.bind fun x ρ1 G1 H1 v e1 r1 a1 q1 => ?_
  refine ⟨M, R, G1, ρ1, r1, ?_⟩
  have hv : evO Γ (some (.neg (.con (.int 1)))) ρ1 = .ok (some (-1)) ρ1 := by simp [evO, evR]
  rw [hv]
  refine fun G2 H2 e2 r2 => ⟨rfl, ?_⟩
  split at q1
  · rename_i dx hx
    obtain ⟨rv, hrv, q2⟩ := q1.lift
    exact rev_ok hrv r2 ((a1.mono e2).rdb r2 hx) (Res.mono q2 (e1.trans e2))
  · exact q1.elim
theorem ES_dct : ESound (Γ := Γ) (cT := cT) .dct := by
  intro c k X W e g h
  simp only [chkE] at h
  split at h <;> try cases h
  refine peW pe_dnewN fun σ H Q ⟨M, R, G, ρ, r, q⟩ p hp => ?_
  unfold evR at q
  have h : Res X.K M R G ρ σ (.new (.dic [])) Q := q
  exact h _ _ _ (Same.refl _) (r.make hp) ⟨p, rfl, none_of r.fz hp, none_of r.rs hp, r.nown_free hp, [], upd_same, .nil⟩
theorem ES_dct1 {a b : Tm} (ha : ESound (Γ := Γ) (cT := cT) a) (hb : ESound (Γ := Γ) (cT := cT) b) : ESound (Γ := Γ) (cT := cT) (.dct1 a b) := by
  intro cc k X W e g h
  simp only [chkE] at h
  split at h <;> try cases h
  rename_i ea eb pos
  obtain ⟨h1, h2⟩ := ba2 h
  refine peW (pe_disp1 g.units (ha cc k X W ea g h1) (hb cc k X W eb g h2)) fun σ H Q ⟨M, R, G, ρ, r, q⟩ p hp => ?_
  have hRp : R p = none := none_of r.rs hp
  unfold evR at q
  generalize hx : ((evR Γ a ρ).bind _) = x at q
  cases x with
  | no => exact q.elim
  | ex c d ρ' => exact q.elim
  | ok o ρe =>
    obtain ⟨r1, ρ1, h1, hx⟩ := bind_eq hx
    obtain ⟨dk, ρ2, h2, hx⟩ := bind_eq hx
    obtain ⟨r3, ρ3, h3, hx⟩ := bind_eq hx
    obtain ⟨dv, ρ4, h4, hx⟩ := bind_eq hx
    split at hx
    case isFalse => cases hx
    rename_i hkk
    obtain ⟨rfl, rfl⟩ : Rv.new (.dic [(dk, dv)]) = o ∧ ρ4 = ρe := by injection hx with z1 z2; exact ⟨z1, z2⟩
    obtain ⟨kk, hkd, hko, hal⟩ := keyK_ok hkk
    have q : Res X.K M R G ρ4 σ (.new (.dic [(dk, dv)])) Q := q
    refine ⟨M, _, G, ρ, r.addR (u := DictNO p []) hp, ?_⟩
    show Post X.K cT W M _ G σ (evR Γ a ρ) _
    rw [h1]
    intro G1 H1 x e1 r1' a1
    obtain ⟨G2, e2, r2, a2⟩ := settle r1' a1
    obtain ⟨G3, e3, r3', d3⟩ := escape r2 a2 h2
    refine ⟨M, _, G3, ρ2, r3', ?_⟩
    show Post X.K cT W M _ G3 σ (evR Γ b ρ2) _
    rw [h3]
    intro G4 H4 y e4 r4 a4
    obtain ⟨G5, e5, r5, a5⟩ := settle r4 a4
    obtain ⟨G6, e6, r6, d6⟩ := escape r5 a5 h4
    have d3' := d3.mono ((e4.trans e5).trans e6)
    rw [← hkd] at d3'
    have r7 := r6.chgR (u' := DictNO p [(kk, x, y)])
    refine ⟨r6.rs p _ upd_same, kk, G6, r6.fz, hko, hal.imp And.left And.left, d3', ?_⟩
    refine q G6 _ (.ref p) (((((e1.trans e2).trans e3).trans e4).trans e5).trans e6) (r7.weakR hRp) ⟨p, rfl, r7.dj p _ upd_same, hRp, r7.nownR upd_same, _, upd_same, ?_⟩
    rw [← hkd]
    exact .cons hko d3' d6 .nil
mutual
theorem ETS : ∀ a : Tm, ESound (Γ := Γ) (cT := cT) a ∧ TSound (Γ := Γ) (cT := cT) a
  | .var i => ⟨ES_var, by exact TS_gen ES_var (fun c e h => by simp only [chkE] at h; (try split at h) <;> first | rfl | cases h) (fun ρ => by first | rfl | (rw [evT] <;> first | rfl | nofun))⟩
  | .con d => ⟨ES_con, by exact TS_gen ES_con (fun c e h => by simp only [chkE] at h; (try split at h) <;> first | rfl | cases h) (fun ρ => by first | rfl | (rw [evT] <;> first | rfl | nofun))⟩
  | .glo j => ⟨ES_glo, by exact TS_gen ES_glo (fun c e h => by simp only [chkE] at h; (try split at h) <;> first | rfl | cases h) (fun ρ => by first | rfl | (rw [evT] <;> first | rfl | nofun))⟩
  | .bin op a b => ⟨ES_bin (ETS a).1 (ETS b).1, by exact TS_gen (ES_bin (ETS a).1 (ETS b).1) (fun c e h => by simp only [chkE] at h; (try split at h) <;> first | rfl | cases h) (fun ρ => by first | rfl | (rw [evT] <;> first | rfl | nofun))⟩
  | .neg a => ⟨ES_neg (ETS a).1, by exact TS_gen (ES_neg (ETS a).1) (fun c e h => by simp only [chkE] at h; (try split at h) <;> first | rfl | cases h) (fun ρ => by first | rfl | (rw [evT] <;> first | rfl | nofun))⟩
  | .not a => ⟨ES_not (ETS a).1, TS_not (ETS a).2⟩
  | .and a b => ⟨ES_and (ETS a).1 (ETS b).1, TS_and (ETS a).2 (ETS b).2⟩
  | .or a b => ⟨ES_or (ETS a).1 (ETS b).1, TS_or (ETS a).2 (ETS b).2⟩
  | .ite c a b => ⟨ES_ite (ETS c).2 (ETS a).1 (ETS b).1, TS_ite (ETS c).2 (ETS a).2 (ETS b).2⟩
  | .cmp op a b => ⟨ES_cmp (ETS a).1 (ETS b).1, TS_cmp (ETS a).1 (ETS b).1⟩
  | .chn o1 o2 a b c => ⟨ES_chn (ETS a).1 (ETS b).1 (ETS c).1, TS_chn (ETS a).1 (ETS b).1 (ETS c).1⟩
  | .call f as => ⟨ES_call (ETSl as), by exact TS_gen (ES_call (ETSl as)) (fun c e h => by simp only [chkE] at h; (try split at h) <;> first | rfl | cases h) (fun ρ => by first | rfl | (rw [evT] <;> first | rfl | nofun))⟩
  | .callk f n perm as bs => ⟨ES_callk (ETSl as) (ETSl bs), by exact TS_gen (ES_callk (ETSl as) (ETSl bs)) (fun c e h => by simp only [chkE] at h; (try split at h) <;> first | rfl | cases h) (fun ρ => by first | rfl | (rw [evT] <;> first | rfl | nofun))⟩
  | .call1 f a => ⟨ES_call1 (ETS a).1, by exact TS_gen (ES_call1 (ETS a).1) (fun c e h => by simp only [chkE] at h; (try split at h) <;> first | rfl | cases h) (fun ρ => by first | rfl | (rw [evT] <;> first | rfl | nofun))⟩
  | .bi b as => ⟨ES_bi (ETSl as), by exact TS_gen (ES_bi (ETSl as)) (fun c e h => by simp only [chkE] at h; (try split at h) <;> first | rfl | cases h) (fun ρ => by first | rfl | (rw [evT] <;> first | rfl | nofun))⟩
  | .isi a ts => ⟨ES_isi (ETS a).1, by exact TS_gen (ES_isi (ETS a).1) (fun c e h => by simp only [chkE] at h; (try split at h) <;> first | rfl | cases h) (fun ρ => by first | rfl | (rw [evT] <;> first | rfl | nofun))⟩
  | .mth m a as => ⟨ES_mth (ETS a).1 (ETSl as), by exact TS_gen (ES_mth (ETS a).1 (ETSl as)) (fun c e h => by simp only [chkE] at h; (try split at h) <;> first | rfl | cases h) (fun ρ => by first | rfl | (rw [evT] <;> first | rfl | nofun))⟩
  | .app i a => ⟨ES_app (ETS a).1, by exact TS_gen (ES_app (ETS a).1) (fun c e h => by simp only [chkE] at h; (try split at h) <;> first | rfl | cases h) (fun ρ => by first | rfl | (rw [evT] <;> first | rfl | nofun))⟩
  | .ext i a => ⟨ES_ext (ETS a).1, by exact TS_gen (ES_ext (ETS a).1) (fun c e h => by simp only [chkE] at h; (try split at h) <;> first | rfl | cases h) (fun ρ => by first | rfl | (rw [evT] <;> first | rfl | nofun))⟩
  | .rvs i => ⟨ES_rvs, by exact TS_gen ES_rvs (fun c e h => by simp only [chkE] at h; (try split at h) <;> first | rfl | cases h) (fun ρ => by first | rfl | (rw [evT] <;> first | rfl | nofun))⟩
  | .idx a i => ⟨ES_idx (ETS a).1 (ETS i).1, by exact TS_gen (ES_idx (ETS a).1 (ETS i).1) (fun c e h => by simp only [chkE] at h; (try split at h) <;> first | rfl | cases h) (fun ρ => by first | rfl | (rw [evT] <;> first | rfl | nofun))⟩
  | .slc a lo hi => ⟨ES_slc (ETS a).1 (fun b hb => (ETSo lo b hb).1) (fun b hb => (ETSo hi b hb).1), by exact TS_gen (ES_slc (ETS a).1 (fun b hb => (ETSo lo b hb).1) (fun b hb => (ETSo hi b hb).1)) (fun c e h => by simp only [chkE] at h; (try split at h) <;> first | rfl | cases h) (fun ρ => by first | rfl | (rw [evT] <;> first | rfl | nofun))⟩
  | .rev a => ⟨ES_rev (ETS a).1, by exact TS_gen (ES_rev (ETS a).1) (fun c e h => by simp only [chkE] at h; (try split at h) <;> first | rfl | cases h) (fun ρ => by first | rfl | (rw [evT] <;> first | rfl | nofun))⟩
  | .sset a => ⟨ES_sset (ETS a).1, by exact TS_gen (ES_sset (ETS a).1) (fun c e h => by simp only [chkE] at h; (try split at h) <;> first | rfl | cases h) (fun ρ => by first | rfl | (rw [evT] <;> first | rfl | nofun))⟩
  | .tup as => ⟨ES_tup (ETSl as), by exact TS_gen (ES_tup (ETSl as)) (fun c e h => by simp only [chkE] at h; (try split at h) <;> first | rfl | cases h) (fun ρ => by first | rfl | (rw [evT] <;> first | rfl | nofun))⟩
  | .lst as => ⟨ES_lst (ETSl as), by exact TS_gen (ES_lst (ETSl as)) (fun c e h => by simp only [chkE] at h; (try split at h) <;> first | rfl | cases h) (fun ρ => by first | rfl | (rw [evT] <;> first | rfl | nofun))⟩
  | .dct => ⟨ES_dct, by exact TS_gen ES_dct (fun c e h => by simp only [chkE] at h; (try split at h) <;> first | rfl | cases h) (fun ρ => by first | rfl | (rw [evT] <;> first | rfl | nofun))⟩
  | .dct1 a b => ⟨ES_dct1 (ETS a).1 (ETS b).1, by exact TS_gen (ES_dct1 (ETS a).1 (ETS b).1) (fun c e h => by simp only [chkE] at h; (try split at h) <;> first | rfl | cases h) (fun ρ => by first | rfl | (rw [evT] <;> first | rfl | nofun))⟩
  | .lc it tg ow c e => ⟨ES_lc (IS it) (fun b hb => (ETSo c b hb).2) (ETS e).1, by exact TS_gen (ES_lc (IS it) (fun b hb => (ETSo c b hb).2) (ETS e).1) (fun c e h => by simp only [chkE] at h; (try split at h) <;> first | rfl | cases h) (fun ρ => by first | rfl | (rw [evT] <;> first | rfl | nofun))⟩
  | .lc2 it tg c0 it1 tg1 ow ow1 c e => ⟨ES_lc2 (IS it) (IS it1) (fun b hb => (ETSo c0 b hb).2) (fun b hb => (ETSo c b hb).2) (ETS e).1, by exact TS_gen (ES_lc2 (IS it) (IS it1) (fun b hb => (ETSo c0 b hb).2) (fun b hb => (ETSo c b hb).2) (ETS e).1) (fun c e h => by simp only [chkE] at h; (try split at h) <;> first | rfl | cases h) (fun ρ => by first | rfl | (rw [evT] <;> first | rfl | nofun))⟩
  | .bot => ⟨ES_bot, TS_bot⟩
termination_by structural a => a
theorem ETSl : ∀ (as : List Tm), ∀ a ∈ as, ESound (Γ := Γ) (cT := cT) a
  | [], a, h => by cases h
  | b :: bs, a, h => (List.mem_cons.mp h).elim (fun e => e ▸ (ETS b).1) (fun h => ETSl bs a h)
termination_by structural as => as
theorem ETSo : ∀ (o : Option Tm), ∀ a, o = some a → ESound (Γ := Γ) (cT := cT) a ∧ TSound (Γ := Γ) (cT := cT) a
  | none, a, h => by cases h
  | some b, a, h => by cases h; exact ETS b
termination_by structural o => o
theorem IS : ∀ it : It, ISound Γ cT it
  | .rng1 a => IS_rng1 (ETS a).1
  | .rng2 a b => IS_rng2 (ETS a).1 (ETS b).1
  | .seq a => IS_seq (ETS a).1
  | .zip a b => IS_zip (ETS a).1 (ETS b).1
  | .enum a => IS_enum (ETS a).1
termination_by structural it => it
end
end
end Vi
set_option maxHeartbeats 4000000
namespace Vi
open PySem PySem.Spec PyProof.Rows L2
def CtlP (K : PySem.W.Frag) (M : Mk) (R G : Hp) (c : Ctl) (ρ : En) (D : Ends) : Prop := match c with
  | .nx => ∀ G' σ H, Same G G' → Rel K M R G' ρ σ H → D.nx σ H
  | .bk => ∀ G' σ H, Same G G' → Rel K M R G' ρ σ H → D.bk σ H
  | .ct => ∀ G' σ H, Same G G' → Rel K M R G' ρ σ H → D.ct σ H
  | .rt x => ∀ G' σ H v, Same G G' → Rel K M R G' ρ σ H → RvIs K G' R ρ σ H x v → x.isRef = false → D.rt v H
def PostS (K : PySem.W.Frag) (cT : Nat → Addr) (W : WX) (M : Mk) (R G : Hp) (x : Rs Ctl) (D : Ends) : Prop := match x with
  | .no => False
  | .ok c ρ => CtlP K M R G c ρ D
  | .ex c d ρ => ∀ σ, ExcP K cT M R G ρ σ c d fun cl dd H => W cl dd σ H
section
variable {K : PySem.W.Frag} {cT : Nat → Addr} {W : WX} {M : Mk} {R G G' H : Hp} {ρ : En} {σ : L2.St} {D : Ends}
theorem CtlP.mono {c : Ctl} (h : CtlP K M R G c ρ D) (e : Same G G') : CtlP K M R G' c ρ D := by
  cases c with
  | nx => exact fun G1 σ H e1 => h G1 σ H (e.trans e1)
  | bk => exact fun G1 σ H e1 => h G1 σ H (e.trans e1)
  | ct => exact fun G1 σ H e1 => h G1 σ H (e.trans e1)
  | rt x => exact fun G1 σ H v e1 => h G1 σ H v (e.trans e1)
theorem PostS.mono {x : Rs Ctl} (h : PostS K cT W M R G x D) (e : Same G G') : PostS K cT W M R G' x D := by
  cases x with
  | no => exact h
  | ok c ρ => exact CtlP.mono h e
  | ex c d ρ => exact fun σ => (h σ).mono e
theorem PostS.bind {α : Type} {x : Rs α} {f : α → En → Rs Ctl} (h : PostS K cT W M R G (x.bind f) D) : Post K cT W M R G σ x fun a ρ => PostS K cT W M R G (f a ρ) D := by
  cases x with
  | no => exact h
  | ok c ρ => exact h
  | ex c d ρ => exact h σ
end
variable (Γ : Cn) (cT : Nat → Addr)
def tS (K : PySem.W.Frag) (W : WX) (s : Sm) : TS := fun D σ H => ∃ M R G ρ, Rel K M R G ρ σ H ∧ PostS K cT W M R G (evS Γ s ρ) D
def tB (K : PySem.W.Frag) (W : WX) (s : List Sm) : TS := fun D σ H => ∃ M R G ρ, Rel K M R G ρ σ H ∧ PostS K cT W M R G (evB Γ s ρ) D
def SSound (s : Sm) : Prop := ∀ (c : Cc) (k : Nat) (X : Cx) (W : WX) (st : Stmt), Good Γ cT c k X W → chkS c s st = true → PS X st (tS Γ cT X.K W s)
def BSound (s : List Sm) : Prop := ∀ (c : Cc) (k : Nat) (X : Cx) (W : WX) (st : List Stmt), Good Γ cT c k X W → chkB c s st = true → PSs X st (tB Γ cT X.K W s)
section
variable {Γ : Cn} {cT : Nat → Addr} {K : PySem.W.Frag} {W : WX} {M : Mk} {R R' G G' H : Hp} {ρ ρ' : En} {σ : L2.St} {Q : VK} {a b e : Tm} {x : Rv} {v : V} {d : D} {p : Addr} {u u' : HO} {D : Ends}
theorem psW {X : Cx} {st : Stmt} {t t' : TS} (h : PS X st t) (k : ∀ D σ H, t' D σ H → t D σ H) : PS X st t' := ⟨fun pins s σ H D I q => h.run pins s σ H D I (k D σ H q)⟩
theorem pssW {X : Cx} {st : List Stmt} {t t' : TS} (h : PSs X st t) (k : ∀ D σ H, t' D σ H → t D σ H) : PSs X st t' := ⟨fun pins s σ H D I q => h.run pins s σ H D I (k D σ H q)⟩
theorem free_sto {i : Nat} {s : Sl} (h : sto i s ρ = .ok () ρ') : ρ' = ρ.set i s ∧ (∃ y, ρ[i]? = some y) := by
  unfold sto at h
  split at h
  · rename_i hf
    cases h
    refine ⟨rfl, ?_⟩
    cases e : ρ[i]? with
    | none => rw [e] at hf; cases hf
    | some y => exact ⟨y, rfl⟩
  · cases h
theorem letR_nm {i : Nat} (r : Rel K M R G ρ σ H) (hv : RvIs K G R ρ σ H x v) (h : letR (.nm i) x ρ = .ok () ρ') : ∃ G', Same G G' ∧ Rel K M R G' ρ' (σ.set i (some v)) H := by
  cases x with
  | new o =>
    obtain ⟨rfl, _⟩ := free_sto h
    obtain ⟨p, rfl, h1, h2, h3, h4⟩ := hv
    exact ⟨G, Same.refl _, r.setOwn h1 h2 h3 h4⟩
  | dat d =>
    obtain ⟨rfl, _⟩ := free_sto h
    exact ⟨G, Same.refl _, r.setDat hv⟩
  | ref j =>
    obtain ⟨d, ρ1, he, h⟩ := bind_eq (b := ()) h
    obtain ⟨G1, e1, r1, d1⟩ := escape r (x := .ref j) (v := v) hv.1 he
    obtain ⟨rfl, _⟩ := free_sto h
    exact ⟨G1, e1, r1.setDat d1⟩
theorem Post.sto {α : Type} {x : Rs Unit} {f : Unit → En → Rs α} {P : α → En → Prop} (h : Post K cT W M R G σ (x.bind f) P) (hx : (∃ ρ', x = .ok () ρ') ∨ x = .no) : ∃ ρ', x = .ok () ρ' ∧ Post K cT W M R G σ (f () ρ') P := by
  rcases hx with ⟨ρ', e⟩ | e
  · rw [e] at h; exact ⟨ρ', e, h⟩
  · rw [e] at h; exact h.elim
theorem PostS.sto {x : Rs Unit} {f : Unit → En → Rs Ctl} (h : PostS K cT W M R G (x.bind f) D) (hx : (∃ ρ', x = .ok () ρ') ∨ x = .no) : ∃ ρ', x = .ok () ρ' ∧ PostS K cT W M R G (f () ρ') D := by
  rcases hx with ⟨ρ', e⟩ | e
  · rw [e] at h; exact ⟨ρ', e, h⟩
  · rw [e] at h; exact h.elim
theorem sto_cases {i : Nat} {s : Sl} : (∃ ρ', sto i s ρ = .ok () ρ') ∨ sto i s ρ = .no := by
  unfold sto
  split
  · exact .inl ⟨_, rfl⟩
  · exact .inr rfl
mutual
theorem letD_cases : ∀ (t : Tg) (d : PyData) (ρ : En), (∃ ρ', letD t d ρ = .ok () ρ') ∨ letD t d ρ = .no
  | .nm i, d, ρ => by unfold letD; exact sto_cases
  | .tp ts, d, ρ => by
    unfold letD
    split
    · exact letDs_cases ts _ ρ
    · exact letDs_cases ts _ ρ
    · exact .inr rfl
theorem letDs_cases : ∀ (ts : List Tg) (ds : List PyData) (ρ : En), (∃ ρ', letDs ts ds ρ = .ok () ρ') ∨ letDs ts ds ρ = .no
  | [], ds, ρ => by
    unfold letDs
    split
    · exact .inl ⟨_, rfl⟩
    · exact .inr rfl
  | t :: ts, ds, ρ => by
    unfold letDs
    split
    · rcases letD_cases t _ ρ with ⟨ρ1, e⟩ | e
      · rw [e]; exact letDs_cases ts _ ρ1
      · rw [e]; exact .inr rfl
    · exact .inr rfl
end
theorem esc_bind_cases {x : Rv} {f : PyData → En → Rs Unit} (hf : ∀ d ρ, (∃ ρ', f d ρ = .ok () ρ') ∨ f d ρ = .no) : (∃ ρ', (esc x ρ).bind f = .ok () ρ') ∨ (esc x ρ).bind f = .no := by
  rcases esc_cases x ρ with e | ⟨d, ρ', e⟩
  · rw [e]; exact .inr rfl
  · rw [e]; exact hf d ρ'
theorem letR_cases (t : Tg) (x : Rv) (ρ : En) : (∃ ρ', letR t x ρ = .ok () ρ') ∨ letR t x ρ = .no := by
  cases t with
  | nm i =>
    cases x with
    | new o => exact sto_cases
    | dat d => exact sto_cases
    | ref j => exact esc_bind_cases fun _ _ => sto_cases
  | tp ts => exact esc_bind_cases fun d ρ => letD_cases (.tp ts) d ρ
theorem asg_nm {i : Nat} (h : tS Γ cT K W (.asg (.nm i) e) D σ H) : tAsg (tE Γ cT K W e) (gName i) D σ H := by
  obtain ⟨M, R, G, ρ, r, q⟩ := h
  unfold evS at q
  refine ⟨M, R, G, ρ, r, q.bind.imp fun x ρ1 q1 G1 H1 v e1 r1 hv => ?_⟩
  obtain ⟨ρ2, hl, q2⟩ := q1.sto (letR_cases _ _ _)
  obtain ⟨G2, e2, r2⟩ := letR_nm r1 hv hl
  exact q2 G2 _ _ (e1.trans e2) r2
theorem sw_false {v : Expr} {t : Option Expr} {l : Nat} {env : Env} (h : isComp v = false) : swapsWith v t l env = pure false := by
  cases v <;> first | rfl | cases h
theorem sw_tup {v : Expr} {es : List Expr} {k : Nat} {p : Pos} {l : Nat} {env : Env} : swapsWithSole [.Tuple es k p] v l env = pure false := by
  cases v <;> rfl
theorem sw_sub {v o i : Expr} {p : Pos} {l : Nat} {env : Env} : swapsWithSole [.Subscript o i p] v l env = pure false := by
  cases v <;> rfl
theorem swP_ok {env : Env} {sc : Scope} {ts vs : List Expr} {k k2 : Nat} {p p2 : Pos} {r : Option (List Str)} (hk : env.scope.kind = .function) (hs : env.scope = sc) (h : swP sc ts vs = some r) : swappedStores [.Tuple ts k p] (.Tuple vs k2 p2) env = pure r := by
  have hb : env.blockKind = .function := by unfold Env.blockKind; rw [hk]; rfl
  subst hs
  unfold swP at h
  unfold swappedStores
  simp only [hb]
  by_cases c1 : (!(ts.length == 2 || ts.length == 3) || vs.length != ts.length) = true
  · rw [if_pos c1] at h
    cases h
    rw [if_pos (by rw [c1]; rfl)]
  · rw [if_neg c1] at h
    rw [if_neg (by
      intro z
      have : (!(ts.length == 2 || ts.length == 3) || vs.length != ts.length || false) = true := z
      rw [Bool.or_false] at this
      exact c1 this)]
    by_cases c2 : vs.any isStar = true
    · rw [if_pos c2] at h
      cases h
      exact if_pos c2
    · rw [if_neg c2] at h
      refine (if_neg c2).trans ?_
      simp only [] at h
      split at h
      · rename_i c3
        cases h
        exact if_pos c3
      · rename_i c3
        refine (if_neg c3).trans ?_
        split at h
        · rename_i c4
          cases h
          exact if_pos c4
        · rename_i c4
          refine (if_neg c4).trans ?_
          split at h
          · cases h
          · rename_i c5
            cases h
            exact if_neg c5
theorem swK1 {sc : Scope} {v : Expr} {y : Str} {py : Pos} (h : swK sc v y py = 1) : isComp v = false := by
  cases v <;> first | rfl | skip
  · unfold swK at h
    simp only [] at h
    split at h
    · split at h <;> cases h
    · cases h
  · cases h
  · cases h
theorem isLc_ex (h : isLc e = true) : ∃ it tg ow cc e', e = .lc it tg ow cc e' := by
  cases e <;> first | exact ⟨_, _, _, _, _, rfl⟩ | cases h
theorem chk_lc {c : Cc} {v : Expr} {it : It} {tg : Tg} {ow : List Nat} {k : Option Tm} {e' : Tm} (h : chkE c (.lc it tg ow k e') v = true) : ∃ ee et ei ifs scope lpos, v = .ListComp ee [⟨et, ei, ifs, 0⟩] scope lpos ∧
    (chkI c it ei && tpOk it tg && !isSet ei && blkC c.N c.sc scope (ownN c.N ow) && chkTg c.N scope.names tg et && chkC { c with sc := relS scope c.sc, so := scope.names } k ifs && chkE { c with sc := relS scope c.sc, so := scope.names } e' ee && decide (ow.Nodup) && (tgIx tg).all ow.contains) = true := by
  simp only [chkE] at h
  split at h
  · exact ⟨_, _, _, _, _, _, rfl, h⟩
  · cases h
theorem SS_asgN {i : Nat} : SSound Γ cT (.asg (.nm i) e) := by
  intro c k X W st g h
  simp only [chkS] at h
  split at h <;> try cases h
  rename_i tg v pos
  split at h <;> try cases h
  rename_i y py
  obtain ⟨h123, h4⟩ := ba2 h
  obtain ⟨h12, h3⟩ := ba2 h123
  obtain ⟨h1, h2⟩ := ba2 h12
  have nd : X.N.Nodup := by rw [g.N]; exact g.nd
  have hi : X.N[i]? = some y := by rw [g.N]; exact of_decide_eq_true h1
  obtain ⟨l1, l2⟩ := g.sto y h2
  rcases Bool.or_eq_true_iff.mp h4 with h4 | h4
  · have h4 : swK c.sc v y py = 1 := by simpa using h4
    exact psW (ps_set nd hi l1 ((ETS e).1 c k X W v g h3) (sw_false (swK1 h4)) l2) fun D σ H q => asg_nm q
  · obtain ⟨h4, h5⟩ := ba2 h4
    have h4 : swK c.sc v y py = 2 := by simpa using h4
    obtain ⟨it, tg, ow, cc, e', rfl⟩ := isLc_ex h5
    obtain ⟨ee, et, ei, ifs, scope, lpos, rfl, h3⟩ := chk_lc h3
    obtain ⟨k1234567, k8⟩ := ba2 h3
    obtain ⟨k123456, k7⟩ := ba2 k1234567
    obtain ⟨k12345, k6⟩ := ba2 k123456
    obtain ⟨k1234, k5⟩ := ba2 k12345
    obtain ⟨k123, k4⟩ := ba2 k1234
    obtain ⟨k12, k3⟩ := ba2 k123
    obtain ⟨k1, k2⟩ := ba2 k12
    have ok : BlkOk X.N X.env.scope scope (ownN c.N ow) := by rw [g.N, g.sc]; exact blkOk_by k3
    have hsub : ∀ i ∈ tgIx tg, i ∈ ow := fun i hi => by
      have := List.all_eq_true.mp k8 i hi
      simpa using this
    unfold swK at h4
    simp only [] at h4
    split at h4
    · rename_i hloc
      split at h4
      · rename_i hcond
        obtain ⟨hline, hany⟩ := ba2 hcond
        have hloc' : X.env.scope.names.lookup y = some .local := by rw [g.sc]; exact hloc
        have := ps_setLc (i := i) (y := y) (py := py) (spos := pos) (g := gT X.K tg) (tt := tC Γ cT X.K W0 cc) (te := tE Γ cT X.K W0 e') (elt := ee) (ifs := ifs) (pos := lpos) g.calm nd hi hloc'
          (sw_true (by rw [g.sc]; exact g.kind) hloc' hline (by simpa using hany)) (IS it c k X W et ei g (ba2 k1).1 (tp_tuple (ba2 k1).2 k4)) ok
          (fun s H C cl fp => PG_tg (X := X.blk s H scope (compEnvC scope cl C X.env) fp) g.calm nd (so := scope.names) (fun x hx => (g.blk ok s H C cl fp).sto x hx) tg et (by show chkTg X.N _ _ _ = true; rw [g.N]; exact k4))
          (fun s H C cl fp => C_sound (fun a ha => (ETSo cc a ha).2) _ k _ _ ifs (g.blk ok s H C cl fp) k5)
          (fun s H C cl fp => (ETS e').1 _ k _ _ ee (g.blk ok s H C cl fp) k6) (foldedSet_of k2)
        rw [ownN_map] at this
        refine psW this fun D σ H q => ?_
        obtain ⟨M, R, G, ρ, r, q⟩ := asg_nm q
        exact lc_wish (tp_imp (ba2 k1).2) hsub r q
      · cases h4
    · cases h4
theorem asg_tp {ts : List Tg} (h : tS Γ cT K W (.asg (.tp ts) e) D σ H) : tAsg (tE Γ cT K W e) (gT K (.tp ts)) D σ H := by
  obtain ⟨M, R, G, ρ, r, q⟩ := h
  unfold evS at q
  refine tE_then r q.bind fun x ρ1 G1 H1 v e1 r1 a1 q1 => ?_
  obtain ⟨ρ2, hl, q2⟩ := q1.sto (letR_cases _ _ _)
  obtain ⟨d, ρ3, he, hl⟩ := bind_eq (b := ()) hl
  obtain ⟨G2, e2, r2, d2⟩ := escape r1 a1 he
  exact ⟨M, R, G2, ρ3, d, ρ2, r2, .inl d2, hl, fun σ' r' w => q2 G2 _ _ (e1.trans e2) r'⟩
theorem SS_asgT {ts : List Tg} : SSound Γ cT (.asg (.tp ts) e) := by
  intro c k X W st g h
  simp only [chkS] at h
  split at h <;> try cases h
  rename_i tg v pos
  split at h <;> try cases h
  rename_i es k0 p
  obtain ⟨h12, h3⟩ := ba2 h
  obtain ⟨h1, h2⟩ := ba2 h12
  have nd : X.N.Nodup := by rw [g.N]; exact g.nd
  have hw : swappedStores [.Tuple es k0 p] v X.env = pure none := by
    by_cases ht : isTup v = true
    · cases v <;> try cases ht
      exact swP_ok (by rw [g.sc]; exact g.kind) g.sc (of_decide_eq_true h3)
    · cases v <;> first | rfl | exact absurd rfl ht
  exact psW (ps_asg ((ETS e).1 c k X W v g h2) (PG_tg g.calm nd g.sto (.tp ts) _ (by rw [g.N]; exact h1)) sw_tup hw (by rfl)) fun D σ H q => asg_tp q
end
end Vi
set_option maxHeartbeats 4000000
namespace Vi
open PySem PySem.Spec PyProof.Rows L2
section
variable {Γ : Cn} {cT : Nat → Addr} {K : PySem.W.Frag} {W : WX} {M M1 : Mk} {R R' G G' H : Hp} {ρ ρ' : En} {σ : L2.St} {Q : VK} {a b e : Tm} {x : Rv} {v : V} {d : D} {p : Addr} {u u' : HO} {D : Ends}
theorem Rel.less (e : Same R R') (r : Rel K M R' G ρ σ H) : Rel K M R G ρ σ H where
  len := r.len
  fz := r.fz
  rs := e.trans r.rs
  dj := fun a u h => r.dj a u (e a u h)
  dat := r.dat
  own := fun i f o h => by
    obtain ⟨p, h1, h2, h3, h4, h5⟩ := r.own i f o h
    exact ⟨p, h1, h2, none_of e h3, h4, h5⟩
  inj := r.inj
theorem Post.less {α : Type} {x : Rs α} {P : α → En → Prop} (e : Same R R') (h : Post K cT W M R G σ x P) : Post K cT W M R' G σ x P := by
  cases x with
  | no => exact h
  | ok a ρ => exact h
  | ex c d ρ => exact fun G' H' dd v e1 r1 => h G' H' dd v e1 (r1.less e)
inductive Held (K : PySem.W.Frag) (G H R' : Hp) : Hp → List Rv → List V → Prop
  | nil {R : Hp} : Same R R' → Held K G H R' R [] []
  | dat {R : Hp} {d : PyData} {v : V} {xs : List Rv} {vs : List V} : Dat K G v d → Held K G H R' R xs vs → Held K G H R' R (.dat d :: xs) (v :: vs)
  | new {R : Hp} {o : Ob} {p : Addr} {u : HO} {xs : List Rv} {vs : List V} : R p = none → ObAt K G H p o → Held K G H R' (upd R p u) xs vs → Held K G H R' R (.new o :: xs) (.ref p :: vs)
theorem Held.sub {xs : List Rv} {vs : List V} (h : Held K G H R' R xs vs) : Same R R' := by
  induction h with
  | nil e => exact e
  | dat _ _ ih => exact ih
  | new hp _ _ ih => exact fun a u e => ih a u (by rw [upd_ne (ne_of_none e hp)]; exact e)
def setAll : List Nat → List V → L2.St → L2.St
  | i :: is, v :: vs, σ => (setAll is vs σ).set i (some v)
  | _, _, σ => σ
theorem Held.store {xs : List Rv} {vs : List V} (h : Held K G H R' R xs vs) : ∀ {is : List Nat} {ρ ρ' : En} {σ : L2.St}, Rel K M R' G ρ σ H → letRs is xs ρ = .ok () ρ' → Rel K M R G ρ' (setAll is vs σ) H := by
  induction h with
  | nil e =>
    intro is ρ ρ' σ r hl
    cases is with
    | nil => cases hl; exact r.less e
    | cons i is => cases hl
  | dat hd _ ih =>
    intro is ρ ρ' σ r hl
    cases is with
    | nil => cases hl
    | cons i is =>
      obtain ⟨_, ρ1, h1, h2⟩ := bind_eq (b := ()) hl
      have r1 := ih r h1
      obtain ⟨rfl, _⟩ := free_sto h2
      exact r1.setDat hd
  | new hp ho _ ih =>
    intro is ρ ρ' σ r hl
    cases is with
    | nil => cases hl
    | cons i is =>
      obtain ⟨_, ρ1, h1, h2⟩ := bind_eq (b := ()) hl
      have r1 := ih r h1
      obtain ⟨rfl, _⟩ := free_sto h2
      exact (r1.weakR hp).setOwn (r1.dj _ _ upd_same) hp (r1.nownR upd_same) ho
def tPs (Γ : Cn) (cT : Nat → Addr) (K : PySem.W.Frag) (W : WX) (as : List Tm) : TA := fun σ H Q => ∃ M R G ρ, Rel K M R G ρ σ H ∧ Post K cT W M R G σ (evPs Γ as ρ) fun xs ρ' => ∀ R' G' H' vs, Same G G' → Rel K M R' G' ρ' σ H' → Held K G' H' R' R xs vs → Q vs H'
theorem nrm_cases (x : Rv) (ρ : En) : nrm x ρ = .no ∨ ∃ y ρ', nrm x ρ = .ok y ρ' := by
  cases x with
  | dat d => exact .inr ⟨_, _, rfl⟩
  | new o => exact .inr ⟨_, _, rfl⟩
  | ref i =>
    show (esc (.ref i) ρ).bind _ = _ ∨ ∃ y ρ', (esc (.ref i) ρ).bind _ = _
    rcases esc_cases (.ref i) ρ with e | ⟨d, ρ', e⟩
    · rw [e]; exact .inl rfl
    · rw [e]; exact .inr ⟨_, _, rfl⟩
theorem Ps_sound : ∀ (as : List Tm) (c : Cc) (k : Nat) (X : Cx) (W : WX) (es : List Expr), Good Γ cT c k X W → chkAs c as es = true → PA X es (tPs Γ cT X.K W as)
  | [], c, k, X, W, es, g, h => by
    simp only [chkAs] at h
    split at h <;> try cases h
    refine paW pa_nil fun σ H Q ⟨M, R, G, ρ, r, q⟩ => ?_
    unfold evPs at q
    exact q R G H [] (Same.refl _) r (.nil (Same.refl _))
  | a :: as, c, k, X, W, es, g, h => by
    simp only [chkAs] at h
    split at h <;> try cases h
    rename_i e es
    obtain ⟨h12, h3⟩ := ba2 h
    obtain ⟨h1, h2⟩ := ba2 h12
    refine paW (pa_cons ((ETS a).1 c k X W e g h1) (Ps_sound as c k X W es g h3) (star1 h2)) fun σ H Q ⟨M, R, G, ρ, r, q⟩ => ?_
    unfold evPs at q
    refine ⟨M, R, G, ρ, r, q.bind.imp fun x ρ1 q1 G1 H1 v e1 r1 hv => ?_⟩
    rcases nrm_cases x ρ1 with en | ⟨y, ρ2, en⟩
    · rw [en] at q1; exact q1.elim
    rw [en] at q1
    simp only [Rs.bind_ok] at q1
    have dat : ∀ d G2, y = .dat d → Same G1 G2 → Rel X.K M R G2 ρ2 σ H1 → Dat X.K G2 v d → tPs Γ cT X.K W as σ H1 (fun vs H => Q (v :: vs) H) := fun d G2 ey e2 r2 hd => by
      subst ey
      refine ⟨M, R, G2, ρ2, r2, q1.bind.monoG (e1.trans e2) fun xs ρ3 q3 R' G3 H3 vs e3 r3 hh => ?_⟩
      exact q3 R' G3 H3 (v :: vs) ((e1.trans e2).trans e3) r3 (.dat (hd.mono e3) hh)
    cases x with
    | dat d => cases en; exact dat d G1 rfl (Same.refl _) r1 hv
    | new o =>
      cases en
      obtain ⟨p, rfl, p1, p2, p3, p4⟩ := hv
      obtain ⟨u, hu⟩ := p4.ex
      have sub : Same R (upd R p u) := same_new p2
      have r2 : Rel X.K M (upd R p u) G1 ρ1 σ H1 := ⟨r1.len, r1.fz, fun a w e => by
          by_cases z : a = p
          · subst z; rw [upd_same] at e; cases e; exact hu
          · rw [upd_ne z] at e; exact r1.rs a w e, fun a w e => by
          by_cases z : a = p
          · subst z; exact p1
          · rw [upd_ne z] at e; exact r1.dj a w e, r1.dat, fun i f o e => by
          obtain ⟨q, h1, h2, h3, h4, h5⟩ := r1.own i f o e
          have ne : q ≠ p := fun z => by subst z; exact p3 i f o e h1
          exact ⟨q, h1, h2, by rw [upd_ne ne]; exact h3, h4, h5⟩, r1.inj⟩
      refine ⟨M, upd R p u, G1, ρ1, r2, ((q1.bind.less sub).monoG e1 fun xs ρ3 q3 R' G3 H3 vs e3 r3 hh => ?_)⟩
      refine q3 R' G3 H3 (.ref p :: vs) (e1.trans e3) r3 (.new p2 (p4.mono e3 fun w hw => ?_) hh)
      rw [hu] at hw; cases hw
      exact r3.rs p u (hh.sub p u upd_same)
    | ref i =>
      obtain ⟨d, ρ3, he, en⟩ := bind_eq en
      cases en
      obtain ⟨G2, e2, r2, d2⟩ := escape r1 (x := .ref i) (v := v) hv.1 he
      exact dat d G2 rfl e2 r2 d2
theorem letRs_cases : ∀ (is : List Nat) (xs : List Rv) (ρ : En), (∃ ρ', letRs is xs ρ = .ok () ρ') ∨ letRs is xs ρ = .no
  | [], [], ρ => .inl ⟨_, rfl⟩
  | [], _ :: _, ρ => .inr rfl
  | _ :: _, [], ρ => .inr rfl
  | i :: is, x :: xs, ρ => by
    unfold letRs
    rcases letRs_cases is xs ρ with ⟨ρ1, e⟩ | e
    · rw [e]; exact letR_cases (.nm i) x ρ1
    · rw [e]; exact .inr rfl
theorem letRs_len : ∀ {is : List Nat} {xs : List Rv} {ρ ρ' : En}, letRs is xs ρ = .ok () ρ' → is.length = xs.length
  | [], [], ρ, _, _ => rfl
  | [], _ :: _, ρ, _, h => by cases h
  | _ :: _, [], ρ, _, h => by cases h
  | i :: is, x :: xs, ρ, _, h => by
    obtain ⟨_, ρ1, h1, h2⟩ := bind_eq (b := ()) h
    simp [letRs_len h1]
theorem Held.len {xs : List Rv} {vs : List V} (h : Held K G H R' R xs vs) : xs.length = vs.length := by
  induction h with
  | nil _ => rfl
  | dat _ _ ih => simp [ih]
  | new _ _ _ ih => simp [ih]
theorem SS_par {is : List Nat} {as : List Tm} : SSound Γ cT (.par is as) := by
  intro c k X W st g h
  have wish : ∀ D σ H, tS Γ cT X.K W (.par is as) D σ H → tPs Γ cT X.K W as σ H fun vs H1 => is.length = vs.length ∧ D.nx (setAll is vs σ) H1 := fun D σ H ⟨M, R, G, ρ, r, q⟩ => by
    unfold evS at q
    refine ⟨M, R, G, ρ, r, q.bind.imp fun xs ρ1 q1 R' G1 H1 vs e1 r1 hh => ?_⟩
    obtain ⟨ρ2, hl, q2⟩ := q1.sto (letRs_cases _ _ _)
    exact ⟨(letRs_len hl).trans hh.len, q2 G1 _ _ e1 (hh.store r1 hl)⟩
  have nd : X.N.Nodup := by rw [g.N]; exact g.nd
  have loc : ∀ x, locB c.sc x = true → X.env.scope.names.lookup x = some .local := fun x h => by
    rw [g.sc]
    unfold locB at h
    split at h
    · assumption
    · cases h
  simp only [chkS] at h
  split at h <;> try cases h
  rename_i ts k1 p1 vs k2 p2 pos
  split at h <;> try cases h
  · rename_i i j
    split at h <;> try cases h
    rename_i x px y py
    obtain ⟨h1234567, h8⟩ := ba2 h
    obtain ⟨h123456, h7⟩ := ba2 h1234567
    obtain ⟨h12345, h6⟩ := ba2 h123456
    obtain ⟨h1234, h5⟩ := ba2 h12345
    obtain ⟨h123, h4⟩ := ba2 h1234
    obtain ⟨h12, h3⟩ := ba2 h123
    obtain ⟨h1, h2⟩ := ba2 h12
    have h5 : i ≠ j := of_decide_eq_true h5
    have h7 : vs.length = 2 := of_decide_eq_true h7
    match vs, h7, h6, h8 with
    | [va, vb], _, h6, h8 =>
    refine psW (ps_par g.calm nd (by rw [g.N]; exact of_decide_eq_true h1) (by rw [g.N]; exact of_decide_eq_true h2) h5 (loc x h3) (loc y h4) (Ps_sound as c k X W _ g h6) (swP_ok (by rw [g.sc]; exact g.kind) g.sc (of_decide_eq_true h8)) sw_tup) fun D σ H q => ?_
    obtain ⟨M, R, G, ρ, r, q⟩ := wish D σ H q
    refine ⟨M, R, G, ρ, r, q.imp fun xs ρ1 q1 R' G1 H1 ws e1 r1 hh => ?_⟩
    obtain ⟨hl, q2⟩ := q1 R' G1 H1 ws e1 r1 hh
    match ws, hl, q2 with
    | [v, w], _, q2 => exact ⟨v, w, rfl, by rw [List.set_comm _ _ h5]; exact q2⟩
  · rename_i i j l
    split at h <;> try cases h
    rename_i x px y py z pz
    obtain ⟨g1, h12⟩ := ba2 h
    obtain ⟨g2, h11⟩ := ba2 g1
    obtain ⟨g3, h10⟩ := ba2 g2
    obtain ⟨g4, h9⟩ := ba2 g3
    obtain ⟨g5, h8⟩ := ba2 g4
    obtain ⟨g6, h7⟩ := ba2 g5
    obtain ⟨g7, h6⟩ := ba2 g6
    obtain ⟨g8, h5⟩ := ba2 g7
    obtain ⟨g9, h4⟩ := ba2 g8
    obtain ⟨g10, h3⟩ := ba2 g9
    obtain ⟨h1, h2⟩ := ba2 g10
    have n1 : i ≠ j := of_decide_eq_true h7
    have n2 : i ≠ l := of_decide_eq_true h8
    have n3 : j ≠ l := of_decide_eq_true h9
    have hv3 : vs.length = 3 := of_decide_eq_true h11
    match vs, hv3, h10, h12 with
    | [va, vb, vc], _, h10, h12 =>
    refine psW (ps_par3 g.calm nd (by rw [g.N]; exact of_decide_eq_true h1) (by rw [g.N]; exact of_decide_eq_true h2) (by rw [g.N]; exact of_decide_eq_true h3) n1 n2 n3 (loc x h4) (loc y h5) (loc z h6) (Ps_sound as c k X W _ g h10) (swP_ok (by rw [g.sc]; exact g.kind) g.sc (of_decide_eq_true h12)) sw_tup) fun D σ H q => ?_
    obtain ⟨M, R, G, ρ, r, q⟩ := wish D σ H q
    refine ⟨M, R, G, ρ, r, q.imp fun xs ρ1 q1 R' G1 H1 ws e1 r1 hh => ?_⟩
    obtain ⟨hl, q2⟩ := q1 R' G1 H1 ws e1 r1 hh
    match ws, hl, q2 with
    | [t, v, w], _, q2 =>
      refine ⟨t, v, w, rfl, ?_⟩
      have : ((σ.set i (some t)).set j (some v)).set l (some w) = ((σ.set l (some w)).set j (some v)).set i (some t) := by
        rw [List.set_comm _ _ n1, List.set_comm _ _ n2, List.set_comm _ _ n3]
      rw [this]; exact q2
theorem putD_cases {o o' : Ob} {dk v : PyData} (h : putD o.toD dk v = some o') : (∃ xs i j, o = .lst xs ∧ dk = .int i ∧ ixN xs.length i = some j ∧ o' = .lst (xs.set j v)) ∨ ∃ kvs, o = .dic kvs ∧ keyK kvs dk = true ∧ kvs.length ≤ 1000000 ∧ o' = .dic (putKV kvs dk v) := by
  cases o with
  | dic kvs =>
    right
    have h : (if keyK kvs dk && lenOk kvs.length then some (Ob.dic (putKV kvs dk v)) else none) = some o' := by
      cases dk <;> exact h
    split at h
    · rename_i c
      cases h
      exact ⟨kvs, rfl, (ba2 c).1, of_decide_eq_true (ba2 c).2, rfl⟩
    · cases h
  | lst xs =>
    left
    cases dk <;> try cases h
    rename_i i
    obtain ⟨j, hj, rfl⟩ := Option.map_eq_some_iff.mp h
    exact ⟨xs, i, j, rfl, rfl, hj, rfl⟩
theorem PSetOr {X : Cx} {t t' : TSet} (h : PSet X t) (h' : PSet X t') : PSet X (fun o i v H Q => t o i v H Q ∨ t' o i v H Q) := by
  intro pins s σ H o i v ov iv u Q I ro ri rv q
  rcases q with q | q
  · exact h pins s σ H o i v ov iv u Q I ro ri rv q
  · exact h' pins s σ H o i v ov iv u Q I ro ri rv q
theorem asg_sub {env : Env} {o i : Expr} {pos : Pos} (h : isSlice i = false) (v : Value) : assign (.Subscript o i pos) env v = (do
      let ov ← holding [v] (eval o env)
      let iv ← holding [v, ov] (eval i env)
      standAt pos
      holding [v, ov, iv] (setItem ov iv v)
      release [v, ov, iv] []) := by
  cases i <;> first | rfl | cases h
theorem subS_ok {y : Nat} {dk dv : PyData} (h : PostS K cT W M R G (subS y dk dv ρ) D) : ∃ f o o', (f = .loc ∨ f = .par) ∧ ρ[y]? = some (.own f o) ∧ putD o.toD dk dv = some o' ∧ CtlP K M R G .nx (ρ.set y (.own f o')) D := by
  unfold subS at h
  split at h
  · rename_i o ho
    split at h
    · rename_i o' ho'
      exact ⟨.loc, o, o', .inl rfl, ho, ho', h⟩
    · exact h.elim
  · rename_i o ho
    split at h
    · rename_i o' ho'
      exact ⟨.par, o, o', .inr rfl, ho, ho', h⟩
    · exact h.elim
  · exact h.elim
theorem PostS.esc {f : PyData → En → Rs Ctl} (h : PostS K cT W M R G ((Vi.esc x ρ).bind f) D) : ∃ d ρ', Vi.esc x ρ = .ok d ρ' ∧ PostS K cT W M R G (f d ρ') D := by
  rcases esc_cases x ρ with e | ⟨d, ρ', e⟩
  · rw [e] at h; exact h.elim
  · rw [e] at h; exact ⟨d, ρ', e, h⟩
theorem SS_sub {y : Nat} : SSound Γ cT (.sub y a e) := by
  intro c k X W st g h
  simp only [chkS] at h
  split at h <;> try cases h
  rename_i z p0 ek p1 v pos
  obtain ⟨h12345, h6⟩ := ba2 h
  obtain ⟨h1234, h5⟩ := ba2 h12345
  obtain ⟨h123, h4⟩ := ba2 h1234
  obtain ⟨h12, h3⟩ := ba2 h123
  obtain ⟨h1, h2⟩ := ba2 h12
  have hi : X.N[y]? = some z := by rw [g.N]; exact of_decide_eq_true h1
  refine psW (ps_asg ((ETS e).1 c k X W v g h5) (pg_sub (pe_var hi (g.vis h2) (okName1 h3) (okName2 h3)) ((ETS a).1 c k X W ek g h4) (PSetOr set_list (set_dic g.units)) (asg_sub (by simpa using h6))) sw_sub (by rfl) (by rfl)) fun D σ H ⟨M, R, G, ρ, r, q⟩ => ?_
  unfold evS at q
  refine tE_then r q.bind fun x ρ1 G1 H1 w e1 r1 a1 q1 => ?_
  obtain ⟨dv, ρ2, he, q2⟩ := q1.esc
  obtain ⟨G2, e2, r2, d2⟩ := escape r1 a1 he
  split at q2
  · rename_i f0 o0 ho0
    obtain ⟨p, hσ, _⟩ := r2.own y f0 o0 ho0
    refine ⟨_, hσ, ?_⟩
    refine tE_then r2 (q2.bind.monoG (e1.trans e2) fun _ _ z => z) fun x2 ρ3 G3 H3 w2 e3 r3 a3 q3 => ?_
    obtain ⟨dk, ρ4, he4, q4⟩ := q3.esc
    obtain ⟨G4, e4, r4, d4⟩ := escape r3 a3 he4
    obtain ⟨f, o, o', hf, ho, hput, q5⟩ := subS_ok q4
    obtain ⟨p', hσ', g1, g2, hob, _⟩ := r4.own y f _ ho
    have ep : p' = p := by rw [hσ] at hσ'; simpa using hσ'.symm
    subst ep
    rcases putD_cases hput with ⟨xs, i, j, rfl, rfl, hj, rfl⟩ | ⟨kvs, rfl, hk, hl, rfl⟩
    · obtain ⟨vs, hp, t⟩ := hob
      cases d4
      refine .inl ⟨p', vs, i, j, rfl, rfl, hp, by rw [t.length]; exact hj, ?_⟩
      exact q5 G4 _ _ (((e1.trans e2).trans e3).trans e4) (r4.change ho hf hσ ⟨_, upd_same, t.set (d2.mono (e3.trans e4)) j⟩)
    · obtain ⟨ys, hp, t⟩ := hob
      obtain ⟨kk, rfl, hko, hal⟩ := keyK_ok hk
      refine .inr ⟨p', ys, kk, G4, rfl, hp, r4.fz, hko, d4, t.keys, t.alike hal, by rw [t.length, sizeLine_eq]; omega, ?_⟩
      exact q5 G4 _ _ (((e1.trans e2).trans e3).trans e4) (r4.change ho hf hσ ⟨_, upd_same, DatKs.put hko d4 (d2.mono (e3.trans e4)) t⟩)
  · exact q2.elim
theorem SS_exp : SSound Γ cT (.exp e) := by
  intro c k X W st g h
  simp only [chkS] at h
  split at h <;> try cases h
  rename_i v pos
  obtain ⟨h1, h2⟩ := ba2 h
  refine psW (ps_expr ((ETS e).1 c k X W v g h1) (sw_false (by simpa using h2))) fun D σ H ⟨M, R, G, ρ, r, q⟩ => ?_
  unfold evS at q
  exact tE_then r q.bind fun x ρ1 G1 H1 w e1 r1 a1 q1 => q1 G1 σ H1 e1 r1
theorem SS_ret : SSound Γ cT (.ret e) := by
  intro c k X W st g h
  simp only [chkS] at h
  split at h <;> try cases h
  rename_i v pos
  refine psW (ps_ret ((ETS e).1 c k X W v g h)) fun D σ H ⟨M, R, G, ρ, r, q⟩ => ?_
  unfold evS at q
  refine ⟨M, R, G, ρ, r, q.bind.imp fun x ρ1 q1 G1 H1 w e1 r1 hv => ?_⟩
  cases x with
  | dat d => exact q1 G1 σ H1 w e1 r1 hv rfl
  | new o => exact q1 G1 σ H1 w e1 r1 hv rfl
  | ref i =>
    have q1 : PostS X.K cT W M R G (match ρ1[i]? with
      | some (.own .loc o) => .ok (.rt (.new o)) (ρ1.set i .non)
      | _ => .no) D := q1
    split at q1
    · rename_i o ho
      obtain ⟨p, p1, p2, p3, p4, _⟩ := r1.own i .loc o ho
      have hw : σ[i]? = some (some w) := hv.1
      rw [hw] at p1
      have ew : w = .ref p := by simpa using p1
      subst ew
      refine q1 G1 σ H1 _ e1 r1.setNon ⟨p, rfl, p2, p3, fun j f o' hj hs => ?_, p4⟩ rfl
      rcases get_set hj with ⟨_, z⟩ | ⟨ne, z⟩
      · cases z
      · exact ne (r1.inj i j .loc f o o' p ho z hw hs)
    · exact q1.elim
theorem SS_retn : SSound Γ cT .retn := by
  intro c k X W st g h
  simp only [chkS] at h
  split at h <;> try cases h
  refine psW ps_retN fun D σ H ⟨M, R, G, ρ, r, q⟩ => ?_
  unfold evS at q
  exact q G σ H _ (Same.refl _) r Dat.non rfl
theorem SS_brk : SSound Γ cT .brk := by
  intro c k X W st g h
  simp only [chkS] at h
  split at h <;> try cases h
  refine psW ps_break fun D σ H ⟨M, R, G, ρ, r, q⟩ => ?_
  unfold evS at q
  exact q G σ H (Same.refl _) r
theorem SS_cnt : SSound Γ cT .cnt := by
  intro c k X W st g h
  simp only [chkS] at h
  split at h <;> try cases h
  refine psW ps_continue fun D σ H ⟨M, R, G, ρ, r, q⟩ => ?_
  unfold evS at q
  exact q G σ H (Same.refl _) r
theorem SS_pas : SSound Γ cT .pas := by
  intro c k X W st g h
  simp only [chkS] at h
  split at h <;> try cases h
  refine psW ps_pass fun D σ H ⟨M, R, G, ρ, r, q⟩ => ?_
  unfold evS at q
  exact q G σ H (Same.refl _) r
theorem SS_rse {cl : Nat} : SSound Γ cT (.rse cl e) := by
  intro c k X W st g h
  simp only [chkS] at h
  cases h
theorem SS_nev : SSound Γ cT .nev := by
  intro c k X W st g h
  refine psW ps_never fun D σ H ⟨M, R, G, ρ, r, q⟩ => ?_
  unfold evS at q
  exact q
theorem SS_iff {a' b' : List Sm} (ha : BSound Γ cT a') (hb : BSound Γ cT b') : SSound Γ cT (.iff e a' b') := by
  intro c k X W st g h
  simp only [chkS] at h
  split at h <;> try cases h
  rename_i t u v pos
  obtain ⟨h12, h3⟩ := ba2 h
  obtain ⟨h1, h2⟩ := ba2 h12
  refine psW (ps_if ((ETS e).2 c k X W t g h1) (ha c k X W u g h2) (hb c k X W v g h3)) fun D σ H ⟨M, R, G, ρ, r, q⟩ => ?_
  unfold evS at q
  refine ⟨M, R, G, ρ, r, q.bind.imp fun kk ρ1 q1 G1 H1 e1 r1 => ?_⟩
  cases kk with
  | true =>
    rw [if_pos rfl] at q1 ⊢
    exact ⟨M, R, G1, ρ1, r1, q1.mono e1⟩
  | false =>
    rw [if_neg Bool.false_ne_true] at q1 ⊢
    exact ⟨M, R, G1, ρ1, r1, q1.mono e1⟩
theorem BS_nil : BSound Γ cT [] := by
  intro c k X W st g h
  simp only [chkB] at h
  split at h <;> try cases h
  refine pssW pss_nil fun D σ H ⟨M, R, G, ρ, r, q⟩ => ?_
  unfold evB at q
  exact q G σ H (Same.refl _) r
theorem BS_cons {s : Sm} {ss : List Sm} (hs : SSound Γ cT s) (hss : BSound Γ cT ss) : BSound Γ cT (s :: ss) := by
  intro c k X W st g h
  simp only [chkB] at h
  split at h <;> try cases h
  rename_i st sts
  obtain ⟨h1, h2⟩ := ba2 h
  refine pssW (pss_cons (hs c k X W st g h1) (hss c k X W sts g h2)) fun D σ H ⟨M, R, G, ρ, r, q⟩ => ?_
  unfold evB at q
  refine ⟨M, R, G, ρ, r, ?_⟩
  cases e : evS Γ s ρ with
  | no => rw [e] at q; exact q
  | ex c d ρ1 => rw [e] at q; exact q
  | ok c ρ1 =>
    rw [e] at q
    simp only [Rs.bind_ok] at q
    cases c with
    | nx => exact fun G1 σ1 H1 e1 r1 => ⟨M, R, G1, ρ1, r1, q.mono e1⟩
    | bk => exact q
    | ct => exact q
    | rt x => exact q
theorem unl_own {k : Lk} {i : Nat} {f : Fl} {o : Ob} (h : (unl k ρ)[i]? = some (.own f o)) : ∃ f', ρ[i]? = some (.own f' o) := by
  have one : ∀ j, (unlockAt j ρ)[i]? = some (.own f o) → ∃ f', ρ[i]? = some (.own f' o) := fun j h => by
    unfold unlockAt at h
    split at h
    · rename_i o' ho
      rcases get_set h with ⟨e, z⟩ | ⟨_, z⟩
      · subst e; cases z; exact ⟨_, ho⟩
      · exact ⟨_, z⟩
    · rename_i o' ho
      rcases get_set h with ⟨e, z⟩ | ⟨_, z⟩
      · subst e; cases z; exact ⟨_, ho⟩
      · exact ⟨_, z⟩
    · exact ⟨_, h⟩
  match k, h with
  | none, h => exact ⟨_, h⟩
  | some (j, pr, true), h => exact one j h
  | some (j, pr, false), h => exact ⟨_, h⟩
theorem CtlP.unl {k : Lk} {c : Ctl} (un : Unlk K M M1 k) (hk : lkOk k ρ = true) (h : CtlP K M R G c (unl k ρ) D) : CtlP K M1 R G c ρ D := by
  cases c with
  | nx => exact fun G1 σ H e1 r1 => h G1 σ H e1 (un _ _ _ _ _ r1 hk)
  | bk => exact fun G1 σ H e1 r1 => h G1 σ H e1 (un _ _ _ _ _ r1 hk)
  | ct => exact fun G1 σ H e1 r1 => h G1 σ H e1 (un _ _ _ _ _ r1 hk)
  | rt x =>
    refine fun G1 σ H v e1 r1 hv hx => h G1 σ H v e1 (un _ _ _ _ _ r1 hk) ?_ hx
    cases x with
    | dat d => exact hv
    | new o =>
      obtain ⟨p, rfl, h1, h2, h3, h4⟩ := hv
      refine ⟨p, rfl, h1, h2, fun i f o hi hs => ?_, h4⟩
      obtain ⟨f', hi'⟩ := unl_own hi
      exact h3 i f' o hi' hs
    | ref i => cases hx
theorem for_wish {it : It} {tg : Tg} {b : List Sm} (hti : itTp it = true → isTp tg = true) (h : tS Γ cT K W (.for it tg b) D σ H) : tFor (tI Γ cT K W it) (gT K tg) (tB Γ cT K W b) D σ H := by
  obtain ⟨M, R, G, ρ, r, q⟩ := h
  unfold evS at q
  refine ⟨M, R, G, ρ, r, q.bind.imp fun pq ρ1 q1 G1 H1 M1 J e1 r1 un wk => ?_⟩
  obtain ⟨xs, k⟩ := pq
  simp only at q1 un wk
  generalize hF : (fun (x : PyData) (ρ : En) => (letD tg x ρ).bind fun _ ρ => evB Γ b ρ) = F at q1
  refine ⟨fun i m σ H => m = xs.length - i ∧ i ≤ xs.length ∧ ∃ G2 ρ2, Same G1 G2 ∧ Rel K M1 R G2 ρ2 σ H ∧ PostS K cT W M R G2 (fin k (forL k F (xs.drop i) ρ2)) D, ⟨_, rfl, Nat.zero_le _, G1, ρ1, Same.refl _, r1, q1.mono e1⟩, ?_⟩
  rintro i m σ2 H2 ⟨rfl, hi, G2, ρ2, e2, r2, q2⟩
  by_cases hlt : i < xs.length
  case neg =>
    left
    have ei : i = xs.length := by omega
    subst ei
    rw [List.drop_length] at q2
    have q2 : PostS K cT W M R G2 (if lkOk k ρ2 then .ok .nx (unl k ρ2) else .no) D := q2
    split at q2
    · rename_i hk
      exact ⟨(wk xs.length _ _ _ _ _ e2 r2 hk).2 (Nat.le_refl _), q2 G2 σ2 H2 (Same.refl _) (un _ _ _ _ _ r2 hk)⟩
    · exact q2.elim
  right
  have hdrop : xs.drop i = xs[i] :: xs.drop (i + 1) := List.drop_eq_getElem_cons hlt
  rw [hdrop] at q2
  unfold forL at q2
  by_cases hk2 : lkOk k ρ2 = true
  case neg => rw [if_neg hk2] at q2; exact q2.elim
  rw [if_pos hk2] at q2
  have hx : xs[i]? = some xs[i] := List.getElem?_eq_getElem hlt
  obtain ⟨go, step⟩ := (wk i _ _ _ _ _ e2 r2 hk2).1 _ hx
  refine ⟨go, fun σ' H' => ∃ G3 ρ3, Same G1 G3 ∧ Rel K M1 R G3 ρ3 σ' H' ∧ PostS K cT W M R G3 (fin k (forL k F (xs.drop (i + 1)) ρ3)) D, fun σ' H' z => ⟨_, by omega, rfl, hlt, z⟩, fun xv H3 hy => ?_⟩
  obtain ⟨G3, e3, r3, d3⟩ := step xv H3 hy
  rw [← hF] at q2
  rcases letD_cases tg xs[i] ρ2 with ⟨ρ3, hl⟩ | hl
  case inr => simp only [hl, Rs.bind_no] at q2; exact q2.elim
  simp only [hl, Rs.bind_ok] at q2
  rw [hF] at q2
  refine ⟨M1, R, G3, ρ2, _, ρ3, r3, d3.imp hti, hl, fun σ4 r4 _ => ⟨M1, R, G3, ρ3, r4, ?_⟩⟩
  cases e4 : evB Γ b ρ3 with
  | no => rw [e4] at q2; exact q2.elim
  | ex c d ρ4 =>
    rw [e4] at q2
    have q2 : PostS K cT W M R G2 (if lkOk k ρ4 then .ex c d (unl k ρ4) else .no) D := q2
    split at q2
    · rename_i hk
      exact fun σ G5 H5 dd v e5 r5 => q2 σ G5 H5 dd v (e3.trans e5) (un _ _ _ _ _ r5 hk)
    · exact q2.elim
  | ok c ρ4 =>
    rw [e4] at q2
    simp only [Rs.bind_ok] at q2
    cases c with
    | nx => exact fun G5 σ5 H5 e5 r5 => ⟨G5, ρ4, (e2.trans e3).trans e5, r5, q2.mono (e3.trans e5)⟩
    | ct => exact fun G5 σ5 H5 e5 r5 => ⟨G5, ρ4, (e2.trans e3).trans e5, r5, q2.mono (e3.trans e5)⟩
    | bk =>
      have q2 : PostS K cT W M R G2 (if lkOk k ρ4 then .ok .nx (unl k ρ4) else .no) D := q2
      split at q2
      · rename_i hk
        exact fun G5 σ5 H5 e5 r5 => q2 G5 σ5 H5 (e3.trans e5) (un _ _ _ _ _ r5 hk)
      · exact q2.elim
    | rt x =>
      have q2 : PostS K cT W M R G2 (if lkOk k ρ4 then .ok (.rt x) (unl k ρ4) else .no) D := q2
      split at q2
      · rename_i hk
        have q2 : CtlP K M R G2 (.rt x) (unl k ρ4) D := q2
        exact CtlP.unl un hk (q2.mono e3)
      · exact q2.elim
theorem SS_for {it : It} {tg : Tg} {b : List Sm} (hb : BSound Γ cT b) : SSound Γ cT (.for it tg b) := by
  intro c k X W st g h
  simp only [chkS] at h
  split at h <;> try cases h
  rename_i t i u pos
  obtain ⟨h123, h4⟩ := ba2 h
  obtain ⟨h12, h3⟩ := ba2 h123
  obtain ⟨h1, h2⟩ := ba2 h12
  have nd : X.N.Nodup := by rw [g.N]; exact g.nd
  exact psW (ps_for g.po g.calm (IS it c k X W t i g (ba2 h1).1 (tp_tuple (ba2 h1).2 h3)) (PG_tg g.calm nd g.sto tg t (by rw [g.N]; exact h3)) (hb c k X W u g h4) (foldedSet_of h2)) fun D σ H q => for_wish (tp_imp (ba2 h1).2) q
theorem whl_wish {b : List Sm} (h : tS Γ cT K W (.whl e b) D σ H) : tWhile (tT Γ cT K W e) (tB Γ cT K W b) D σ H := by
  obtain ⟨M, R, G, ρ, r, q⟩ := h
  unfold evS at q
  refine ⟨fun m σ H => ∃ G2 ρ2, Rel K M R G2 ρ2 σ H ∧ PostS K cT W M R G2 (whL (fun ρ => evT Γ e ρ) (fun ρ => evB Γ b ρ) m ρ2) D, ⟨_, G, ρ, r, q⟩, ?_⟩
  rintro m σ2 H2 ⟨G2, ρ2, r2, q2⟩
  cases m with
  | zero => exact q2.elim
  | succ n =>
    unfold whL at q2
    refine ⟨M, R, G2, ρ2, r2, q2.bind.imp fun kk ρ3 q3 G3 H3 e3 r3 => ?_⟩
    cases kk with
    | false =>
      rw [if_neg Bool.false_ne_true] at q3 ⊢
      exact q3 G3 σ2 H3 e3 r3
    | true =>
      rw [if_pos rfl] at q3 ⊢
      refine ⟨fun σ' H' => ∃ G4 ρ4, Rel K M R G4 ρ4 σ' H' ∧ PostS K cT W M R G4 (whL (fun ρ => evT Γ e ρ) (fun ρ => evB Γ b ρ) n ρ4) D, fun σ' H' z => ⟨n, Nat.lt_succ_self n, z⟩, M, R, G3, ρ3, r3, ?_⟩
      cases e4 : evB Γ b ρ3 with
      | no => rw [e4] at q3; exact q3.elim
      | ex c d ρ4 =>
        rw [e4] at q3
        exact fun σ => (q3 σ).mono e3
      | ok c ρ4 =>
        rw [e4] at q3
        simp only [Rs.bind_ok] at q3
        cases c with
        | nx => exact fun G5 σ5 H5 e5 r5 => ⟨G5, ρ4, r5, q3.mono (e3.trans e5)⟩
        | ct => exact fun G5 σ5 H5 e5 r5 => ⟨G5, ρ4, r5, q3.mono (e3.trans e5)⟩
        | bk => exact fun G5 σ5 H5 e5 r5 => q3 G5 σ5 H5 (e3.trans e5) r5
        | rt x =>
          have q3 : CtlP K M R G2 (.rt x) ρ4 D := q3
          exact q3.mono e3
theorem SS_whl {b : List Sm} (hb : BSound Γ cT b) : SSound Γ cT (.whl e b) := by
  intro c k X W st g h
  simp only [chkS] at h
  split at h <;> try cases h
  rename_i t u pos
  obtain ⟨h1, h2⟩ := ba2 h
  exact psW (ps_while g.po ((ETS e).2 c k X W t g h1) (hb c k X W u g h2)) fun D σ H q => whl_wish q
mutual
theorem SS : ∀ s : Sm, SSound Γ cT s
  | .asg (.nm i) e => SS_asgN
  | .asg (.tp ts) e => SS_asgT
  | .par is as => SS_par
  | .sub x k e => SS_sub
  | .exp e => SS_exp
  | .ret e => SS_ret
  | .retn => SS_retn
  | .iff c a b => SS_iff (BS a) (BS b)
  | .for it tg b => SS_for (BS b)
  | .whl c b => SS_whl (BS b)
  | .brk => SS_brk
  | .cnt => SS_cnt
  | .pas => SS_pas
  | .rse c e => SS_rse
  | .nev => SS_nev
termination_by structural s => s
theorem BS : ∀ s : List Sm, BSound Γ cT s
  | [] => BS_nil
  | s :: ss => BS_cons (SS s) (BS ss)
termination_by structural s => s
end
end
end Vi
set_option maxHeartbeats 4000000
namespace Vi
open PySem PySem.Spec PyProof.Rows L2
section
variable {Γ : Cn} {cT : Nat → Addr} {K : PySem.W.Frag} {W : WX} {M : Mk} {R G G0 H H0 : Hp} {ρ as os : En} {σ σ0 : L2.St} {vs : List V}
theorem Rel.pad (r : Rel K M R G ρ σ H) (n : Nat) : Rel K M R G (ρ ++ List.replicate n .non) (σ ++ List.replicate n none) H := by
  have lo : ∀ (i : Nat) (s : Sl), (ρ ++ List.replicate n Sl.non)[i]? = some s → s ≠ .non → ρ[i]? = some s ∧ (σ ++ List.replicate n (none : Option V))[i]? = σ[i]? := fun i s h hs => by
    by_cases hi : i < ρ.length
    · rw [List.getElem?_append_left hi] at h
      exact ⟨h, List.getElem?_append_left (by rw [← r.len]; exact hi)⟩
    · rw [List.getElem?_append_right (by omega), List.getElem?_replicate] at h
      split at h
      · cases h; exact absurd rfl hs
      · cases h
  refine ⟨by simp [r.len], r.fz, r.rs, r.dj, fun i d h => ?_, fun i f o h => ?_, fun i j f f' o o' p h1 h2 s1 s2 => ?_⟩
  · obtain ⟨h1, h2⟩ := lo i _ h (by intro z; cases z)
    rw [h2]; exact r.dat i d h1
  · obtain ⟨h1, h2⟩ := lo i _ h (by intro z; cases z)
    rw [h2]; exact r.own i f o h1
  · obtain ⟨a1, a2⟩ := lo i _ h1 (by intro z; cases z)
    obtain ⟨b1, b2⟩ := lo j _ h2 (by intro z; cases z)
    rw [a2] at s1
    rw [b2] at s2
    exact r.inj i j f f' o o' p a1 b1 s1 s2
theorem outs_spec : ∀ {as ρ os : En}, outs as ρ = some os → os.length = as.length ∧ ∀ i : Nat, (∀ d, os[i]? = some (.dat d) → as[i]? = some (.dat d)) ∧ (∀ f o, os[i]? = some (.own f o) → f = .par ∧ ρ[i]? = some (.own .par o) ∧ ∃ o', as[i]? = some (.own .par o'))
  | [], ρ, os, h => by
    cases h
    exact ⟨rfl, fun i => ⟨fun d z => by simp at z, fun f o z => by simp at z⟩⟩
  | a :: as, [], os, h => by
    cases a with
    | non => cases h
    | dat d => cases h
    | own f o => cases f <;> cases h
  | a :: as, s :: ρ, os, h => by
    have keep : ∀ os', outs as ρ = some os' → (∀ f o, a ≠ .own f o) → os = a :: os' → os.length = (a :: as).length ∧ ∀ i : Nat, (∀ d, os[i]? = some (.dat d) → (a :: as)[i]? = some (.dat d)) ∧ (∀ f o, os[i]? = some (.own f o) → f = .par ∧ (s :: ρ)[i]? = some (.own .par o) ∧ ∃ o', (a :: as)[i]? = some (.own .par o')) := fun os' e na eo => by
      subst eo
      obtain ⟨l, q⟩ := outs_spec e
      refine ⟨by simp [l], fun i => ?_⟩
      cases i with
      | zero => exact ⟨fun d z => z, fun f o z => absurd (by simpa using z) (na f o)⟩
      | succ i => exact ⟨fun d z => by simpa using (q i).1 d (by simpa using z), fun f o z => by simpa using (q i).2 f o (by simpa using z)⟩
    cases a with
    | non =>
      obtain ⟨os', e, rfl⟩ := Option.map_eq_some_iff.mp h
      exact keep os' e (by intro f o z; cases z) rfl
    | dat d =>
      obtain ⟨os', e, rfl⟩ := Option.map_eq_some_iff.mp h
      exact keep os' e (by intro f o z; cases z) rfl
    | own f o =>
      cases f with
      | par =>
        cases s with
        | own g o' =>
          cases g with
          | par =>
            obtain ⟨os', e, rfl⟩ := Option.map_eq_some_iff.mp h
            obtain ⟨l, q⟩ := outs_spec e
            refine ⟨by simp [l], fun i => ?_⟩
            cases i with
            | zero => exact ⟨fun d z => by simp at z, fun f2 o2 z => by
                simp at z
                obtain ⟨rfl, rfl⟩ := z
                exact ⟨rfl, rfl, o, rfl⟩⟩
            | succ i => exact ⟨fun d z => by simpa using (q i).1 d (by simpa using z), fun f o z => by simpa using (q i).2 f o (by simpa using z)⟩
          | loc => cases h
          | lock => cases h
          | plock => cases h
        | non => cases h
        | dat d => cases h
      | loc => cases h
      | lock => cases h
      | plock => cases h
theorem Rel.outs (r0 : Rel K M R G0 as σ0 H0) (e : Same G0 G) (r : Rel K M R G ρ σ H) (h : Vi.outs as ρ = some os) : Rel K M R G os σ0 H := by
  obtain ⟨hl, q⟩ := outs_spec h
  refine ⟨by rw [hl, r0.len], r.fz, r.rs, r.dj, fun i d z => ?_, fun i f o z => ?_, fun i j f f' o o' p z1 z2 s1 s2 => ?_⟩
  · obtain ⟨v, h1, h2⟩ := r0.dat i d ((q i).1 d z)
    exact ⟨v, h1, h2.mono e⟩
  · obtain ⟨rfl, h1, o', h2⟩ := (q i).2 f o z
    obtain ⟨p, p1, p2, p3, p4, p5, p6⟩ := r.own i _ _ h1
    obtain ⟨p', p1', _, _, _, p5', _⟩ := r0.own i _ _ h2
    obtain ⟨w, hw⟩ := p5 rfl
    obtain ⟨w', hw'⟩ := p5' rfl
    rw [hw] at hw'
    simp only [Option.some.injEq, Prod.mk.injEq] at hw'
    obtain ⟨ep, _⟩ := hw'
    subst ep
    exact ⟨p, p1', p2, p3, p4, fun _ => ⟨w, hw⟩, fun y => by rcases y with y | y <;> cases y⟩
  · obtain ⟨_, _, o1, h1⟩ := (q i).2 f o z1
    obtain ⟨_, _, o2, h2⟩ := (q j).2 f' o' z2
    exact r0.inj i j _ _ o1 o2 p h1 h2 s1 s2
theorem nown_outs {p : Addr} (r0 : Rel K M R G0 as σ0 H0) (r : Rel K M R G ρ σ H) (h : Vi.outs as ρ = some os) (n : Nown ρ σ p) : Nown os σ0 p := fun i f o z hs => by
  obtain ⟨hl, q⟩ := outs_spec h
  obtain ⟨rfl, h1, o', h2⟩ := (q i).2 f o z
  obtain ⟨p1, q1, _, _, _, q5, _⟩ := r.own i _ _ h1
  obtain ⟨p2, q1', _, _, _, q5', _⟩ := r0.own i _ _ h2
  obtain ⟨w, hw⟩ := q5 rfl
  obtain ⟨w', hw'⟩ := q5' rfl
  rw [hw] at hw'
  simp only [Option.some.injEq, Prod.mk.injEq] at hw'
  obtain ⟨ep, _⟩ := hw'
  rw [hs] at q1'
  have : p2 = p := by simpa using q1'.symm
  subst this ep
  exact n i _ _ h1 q1
theorem run_wish {Q : VK} {E : ExE} {n : Nat} {body : List Sm} (r : Rel K M R G as σ0 H) (h : PostF K cT M R G σ0 (runF Γ n body as) Q E) :
    PostS K cT (fun cl dd _ H => E cl dd H) M R G (evB Γ body (as ++ List.replicate (n - as.length) .non)) { nx := fun _ H' => Q .non H', rt := Q } := by
  unfold runF at h
  cases e : evB Γ body (as ++ List.replicate (n - as.length) .non) with
  | no => rw [e] at h; exact h
  | ex c d ρ =>
    rw [e] at h
    simp only at h
    cases ho : outs as ρ with
    | none => simp only [ho] at h; exact h.elim
    | some os =>
      simp only [ho] at h
      exact fun σ G1 H1 dd v e1 r1 hd hv => h G1 H1 dd v e1 (r.outs e1 r1 ho) hd hv
  | ok c ρ =>
    rw [e] at h
    cases c with
    | nx =>
      simp only at h
      cases ho : outs as ρ with
      | none => simp only [ho] at h; exact h.elim
      | some os =>
        simp only [ho] at h
        exact fun G1 σ H1 e1 r1 => h G1 H1 .non e1 (r.outs e1 r1 ho) Dat.non
    | bk => exact h.elim
    | ct => exact h.elim
    | rt x =>
      simp only at h
      cases ho : outs as ρ with
      | none => simp only [ho] at h; exact h.elim
      | some os =>
        simp only [ho] at h
        by_cases hx : x.isRef = true
        · rw [if_pos hx] at h; exact h.elim
        · rw [if_neg hx] at h
          refine fun G1 σ H1 v e1 r1 hv hr => h G1 H1 v e1 (r.outs e1 r1 ho) ?_
          cases x with
          | dat d => exact hv
          | new o =>
            obtain ⟨p, rfl, h1, h2, h3, h4⟩ := hv
            exact ⟨p, rfl, h1, h2, nown_outs r r1 ho h3, h4⟩
          | ref i => cases hr
end
structure Pc where
  ds : List Df
  kws : List (Nat × Nat × List Str × List Nat)
  gls : List Str
  bis : List String
  gcd : Bool
def Pc.cc (p : Pc) (d : Df) (sc : Scope) : Cc := { N := d.N, sc := sc, so := sc.names, fns := p.ds.map fun d => (d.x, d.ps), kws := p.kws, gls := p.gls, bis := p.bis, gcd := p.gcd, exs := [] }
def scB (d : Df) (sc : Scope) : Bool := (match sc.kind with
  | .function => true
  | _ => false) && !sc.isCoroutine && !sc.isGenerator && decide d.N.Nodup && decide (d.N.take d.ps.length = d.ps) && (d.ps.all fun x => stoB sc.names x) && (sc.names.all fun y => match y.2 with
  | .free => false
  | _ => true)
def chkD (p : Pc) (d : Df) (st : Stmt) : Bool := scB d (defScope st) && chkB (p.cc d (defScope st)) d.body (defBody st)
theorem scB_ok {d : Df} {sc : Scope} (h : scB d sc = true) : FnScope d.N d.ps sc := by
  unfold scB at h
  obtain ⟨h123456, h7⟩ := ba2 h
  obtain ⟨h12345, h6⟩ := ba2 h123456
  obtain ⟨h1234, h5⟩ := ba2 h12345
  obtain ⟨h123, h4⟩ := ba2 h1234
  obtain ⟨h12, h3⟩ := ba2 h123
  obtain ⟨h1, h2⟩ := ba2 h12
  refine ⟨?_, by simpa using h2, by simpa using h3, of_decide_eq_true h4, of_decide_eq_true h5, fun x hx => ?_, fun y hy z => ?_⟩
  · split at h1
    · assumption
    · cases h1
  · have := List.all_eq_true.mp h6 x hx
    unfold stoB at this
    split at this
    · exact .inl (by assumption)
    · exact .inr (by assumption)
    · cases this
  · have := List.all_eq_true.mp h7 y hy
    rw [z] at this
    cases this
structure Facts (p : Pc) (gd : List PyData) (K : PySem.W.Frag) (mg : Str → Option Value) (fa : Nat → Addr) (fd : Nat → FuncData) (st : Nat → Stmt) : Prop where
  fn : ∀ (j : Nat) (d : Df), p.ds[j]? = some d → mg d.x = some (.ref (fa j)) ∧ FunD K d.x d.x (defArgs (st j)) (defBody (st j)) (defScope (st j)) [] [] (fa j) (fd j) ∧ Binds K (fd j) d.ps [] ∧ chkD p d (st j) = true
  kw : ∀ j n ks perm, (j, n, ks, perm) ∈ p.kws → ∀ d, p.ds[j]? = some d → Vi.KBn K (fd j) d.ps n ks perm
  bi : ∀ x : String, x ∈ p.bis → mg x = none
  gcd : p.gcd = true → mg "gcd" = some (.builtin "math.gcd")
  gl : ∀ (j : Nat) (d : PyData), gd[j]? = some d → ∃ x u v, p.gls[j]? = some x ∧ mg x = some u ∧ RelV v u ∧ ∀ G : Hp, Dat K G v d
section
variable {P : Program} {w : World} {K : PySem.W.Frag} {mg : Str → Option Value} {base : Heap} {p : Pc} {gd : List PyData} {fuel : Nat} {fa : Nat → Addr} {fd : Nat → FuncData} {st : Nat → Stmt} {cT : Nat → Addr}
theorem fns_np {n j : Nat} {fn : Fn} (h : (Fns gd fuel p.ds n)[j]? = some fn) : ∃ d, p.ds[j]? = some d ∧ fn.np = d.ps.length ∧ fn.chg = d.chg ∧ (n = 0 → fn.sem = fun _ => .no) ∧ (∀ m, n = m + 1 → fn.sem = runF ⟨Fns gd fuel p.ds m, gd, fuel⟩ d.N.length d.body) := by
  cases n with
  | zero =>
    unfold Fns at h
    rw [List.getElem?_map] at h
    obtain ⟨d, hd, rfl⟩ := Option.map_eq_some_iff.mp h
    exact ⟨d, hd, rfl, rfl, fun _ => rfl, fun m z => by cases z⟩
  | succ n =>
    unfold Fns at h
    rw [List.getElem?_map] at h
    obtain ⟨d, hd, rfl⟩ := Option.map_eq_some_iff.mp h
    refine ⟨d, hd, rfl, rfl, fun z => ?_, fun m z => ?_⟩
    · cases z
    · cases z; rfl
theorem prog_ok (F : Facts p gd K mg fa fd st) : ∀ (n j : Nat) (d : Df) (fn : Fn), p.ds[j]? = some d → (Fns gd fuel p.ds n)[j]? = some fn → FnOk P w K mg base (L2.CX P w) n (fa j) (fd j) d.ps (spF K cT fn) := by
  intro n
  induction n with
  | zero =>
    intro j d fn hj hfn
    obtain ⟨d', hd', h1, h2, h3, h4⟩ := fns_np hfn
    rw [hj] at hd'; cases hd'
    refine ⟨fun vs H Q E h => h.1.trans h1, fun A outer s H args us vs Q E _ _ _ _ h => ?_⟩
    obtain ⟨_, M, R, G, as, r, q⟩ := h
    rw [h3 rfl] at q
    exact q.elim
  | succ n ih =>
    intro j d fn hj hfn
    obtain ⟨d', hd', h1, h2, h3, h4⟩ := fns_np hfn
    rw [hj] at hd'; cases hd'
    obtain ⟨fm, fF, fB, fC⟩ := F.fn j d hj
    unfold chkD at fC
    obtain ⟨c1, c2⟩ := ba2 fC
    have S := scB_ok c1
    refine fF.ok S (fun vs H Q E h => h.1.trans h1) fun cdv A outer s H vs Q E hr h => ?_
    obtain ⟨hl, M, R, G, as, r, q⟩ := h
    rw [h4 n rfl] at q
    have hl : vs.length = d.ps.length := hl.trans h1
    have g : Good ⟨Fns gd fuel p.ds n, gd, fuel⟩ cT (p.cc d (defScope (st j))) n (cxOf (L2.CX P w) P w K mg base d.N d.x (defScope (st j)) (fa j) cdv A outer s H E) (fun cl dd _ H => E cl dd H) := {
      N := rfl
      nd := S.nd
      sc := rfl
      kind := S.kind
      calm := rfl
      room := hr
      tk := takes_of rfl rfl rfl rfl
      po := passes_of (K := fun e s'' => L2.CX P w outer H s E e s'') rfl
      sto := fun x hx => by
        unfold stoB at hx
        refine ⟨?_, .inl rfl⟩
        split at hx
        · rename_i q; exact .inl q
        · rename_i q; exact .inr q
        · cases hx
      bi := F.bi
      gcd := F.gcd
      fn := fun i fn' hi => by
        obtain ⟨d', hd', g1, g2, _, _⟩ := fns_np hi
        obtain ⟨em, eF, eB, _⟩ := F.fn i d' hd'
        refine ⟨d'.x, d'.ps, fa i, fd i, by show (p.ds.map fun d => (d.x, d.ps))[i]? = _; rw [List.getElem?_map, hd']; rfl, ⟨ih i d' fn' hd' hi, g1, em, eF.kp, eB, fun m ks perm hm => ?_⟩⟩
        unfold kwsOf at hm
        obtain ⟨⟨i', m', ks', perm'⟩, hm1, hm2⟩ := List.mem_filterMap.mp hm
        split at hm2
        · rename_i ei
          cases hm2
          have ei : i' = i := ei
          subst ei
          exact F.kw _ _ _ _ hm1 d' hd'
        · cases hm2
      gl := F.gl }
    refine ⟨_, BS d.body _ _ _ _ _ g c2, M, R, G, as ++ List.replicate (d.N.length - as.length) Sl.non, ?_, run_wish r q⟩
    unfold L2.start
    have e1 : as.length = vs.length := by rw [r.len, List.length_map]
    rw [e1]
    exact r.pad _
end
end Vi
set_option maxHeartbeats 4000000
namespace Vi
open PySem PySem.Spec PyProof.Rows L2
mutual
def valB (K : PySem.W.Frag) (n : Nat) (u : Value) (d : PyData) : Bool := match n with
  | 0 => false
  | n + 1 => match d with
    | .none => (match u with
      | .none => true
      | _ => false)
    | .bool b => (match u with
      | .bool c => b == c
      | _ => false)
    | .int i => (match u with
      | .int j _ => decide (i = j)
      | _ => false)
    | .str x => (match u with
      | .str y _ => decide (x = y)
      | _ => false)
    | .tuple ds => (match u with
      | .ref a => (match K.lookup a with
        | some ⟨.type c, none, .seq its _, _⟩ => decide (c = "tuple") && decide (its.size ≤ 1000) && valsB K n its.toList ds
        | _ => false)
      | _ => false)
    | .list ds => (match u with
      | .ref a => (match K.lookup a with
        | some ⟨.type c, none, .seq its _, _⟩ => decide (c = "list") && decide (its.size ≤ 1000) && valsB K n its.toList ds
        | _ => false)
      | _ => false)
    | .dict _ => false
termination_by structural n
def valsB (K : PySem.W.Frag) (n : Nat) (us : List Value) (ds : List PyData) : Bool := match n with
  | 0 => false
  | n + 1 => match us, ds with
    | [], [] => true
    | u :: us, d :: ds => valB K n u d && valsB K n us ds
    | _, _ => false
termination_by structural n
end
theorem val_ok {K : PySem.W.Frag} : ∀ n : Nat, (∀ u d, valB K n u d = true → ∃ v, RelV v u ∧ ∀ G : Hp, Dat K G v d) ∧ (∀ us ds, valsB K n us ds = true → ∃ vs, Vals vs us ∧ ∀ G : Hp, Dats K G vs ds)
  | 0 => ⟨fun u d h => (by cases h), fun us ds h => (by cases h)⟩
  | n + 1 => by
    obtain ⟨ih1, ih2⟩ := val_ok (K := K) n
    refine ⟨fun u d h => ?_, fun us ds h => ?_⟩
    · unfold valB at h
      cases d with
      | none =>
        cases u <;> first | cases h | skip
        exact ⟨.non, rfl, fun G => .non⟩
      | bool b =>
        cases u <;> first | cases h | skip
        rename_i c
        have e : b = c := by simpa using h
        subst e
        exact ⟨.bl b, rfl, fun G => .bl b⟩
      | int i =>
        cases u <;> first | cases h | skip
        rename_i j t
        have e : i = j := by simpa using h
        subst e
        exact ⟨.int i, ⟨t, rfl⟩, fun G => .int i⟩
      | str x =>
        cases u <;> first | cases h | skip
        rename_i y t
        have e : x = y := by simpa using h
        subst e
        exact ⟨.str x, ⟨t, rfl⟩, fun G => .str x⟩
      | tuple ds =>
        cases u <;> first | cases h | skip
        rename_i a
        simp only at h
        split at h
        · rename_i c its m sl hk
          obtain ⟨h12, h3⟩ := ba2 h
          obtain ⟨h1, h2⟩ := ba2 h12
          have h1 : c = "tuple" := of_decide_eq_true h1
          have h2 : its.size ≤ 1000 := of_decide_eq_true h2
          subst h1
          obtain ⟨vs, r, q⟩ := ih2 _ _ h3
          exact ⟨.ref a, rfl, fun G => .tup (.inr ⟨_, its, m, hk, rfl, rfl, by rw [sizeLine_eq]; omega, r, rfl⟩) (q G)⟩
        · cases h
      | list ds =>
        cases u <;> first | cases h | skip
        rename_i a
        simp only at h
        split at h
        · rename_i c its m sl hk
          obtain ⟨h12, h3⟩ := ba2 h
          obtain ⟨h1, h2⟩ := ba2 h12
          have h1 : c = "list" := of_decide_eq_true h1
          have h2 : its.size ≤ 1000 := of_decide_eq_true h2
          subst h1
          obtain ⟨vs, r, q⟩ := ih2 _ _ h3
          exact ⟨.ref a, rfl, fun G => .lst (.inr ⟨_, its, m, hk, rfl, rfl, rfl, by rw [sizeLine_eq]; omega, r⟩) (q G)⟩
        · cases h
      | dict _ => cases h
    · unfold valsB at h
      cases us with
      | nil => cases ds with
        | nil => exact ⟨[], .nil, fun G => .nil⟩
        | cons _ _ => cases h
      | cons u us => cases ds with
        | nil => cases h
        | cons d ds =>
          obtain ⟨h1, h2⟩ := ba2 h
          obtain ⟨v, r, q⟩ := ih1 _ _ h1
          obtain ⟨vs, rs, qs⟩ := ih2 _ _ h2
          exact ⟨v :: vs, .cons r rs, fun G => .cons (q G) (qs G)⟩
def gloV (K : PySem.W.Frag) (x : Str) (d : PyData) : Bool := match PySem.W.nsIn K mainGlobals x with
  | some (some u) => valB K 100 u d
  | _ => false
def gcdV (K : PySem.W.Frag) : Bool := match PySem.W.nsIn K mainGlobals "gcd" with
  | some (some (.builtin n)) => decide (n = "math.gcd")
  | _ => false
theorem gloV_ok {K : PySem.W.Frag} {h : Heap} {mg : Str → Option Value} (X : K.In h) (G : h.Ns mainGlobals mg) {x : Str} {d : PyData} (c : gloV K x d = true) : ∃ u v, mg x = some u ∧ RelV v u ∧ ∀ G : Hp, Dat K G v d := by
  unfold gloV at c
  split at c
  · rename_i u e
    obtain ⟨v, r, q⟩ := (val_ok 100).1 _ _ c
    exact ⟨u, v, PySem.W.mg_of X G e, r, q⟩
  · cases c
theorem gcdV_ok {K : PySem.W.Frag} {h : Heap} {mg : Str → Option Value} (X : K.In h) (G : h.Ns mainGlobals mg) (c : gcdV K = true) : mg "gcd" = some (.builtin "math.gcd") := by
  unfold gcdV at c
  split at c
  · rename_i n e
    have e2 : n = "math.gcd" := of_decide_eq_true c
    subst e2
    exact PySem.W.mg_of X G e
  · cases c
abbrev AlV : Type := He.AlD × Bool
def obsV (n : Nat) (fa : List He.Fa) (fn : List He.DefD) (ex : PySem.W.Frag → Bool) (g : Addr → Option Obj) : AlV := (He.obsD fa fn (He.frG g (He.asD g n)), ex (He.frG g (He.asD g n)))
def hookV (n : Nat) (fa : List He.Fa) (fn : List He.DefD) (ex : PySem.W.Frag → Bool) : PySem.W.Hook where
  α := AlV
  obs := fun s => obsV n fa fn ex s.heap.get?
  val := fun _ => (He.valD fn, true)
  says := fun _ h => ∃ K : PySem.W.Frag, K.In h ∧ He.SaysD fa fn K ∧ ex K = true
  of := fun _ _ e => ⟨_, He.frG_in, congrArg (fun z : AlV => z.1) e, congrArg (fun z : AlV => z.2) e⟩
  keeps := fun _ _ _ ⟨K, hK, c⟩ k => ⟨K, PySem.W.Frag.In.keeps hK k, c⟩
theorem obsV_eq {n : Nat} {fa : List He.Fa} {fn : List He.DefD} {ex : PySem.W.Frag → Bool} {g : Addr → Option Obj} {s : Shared} (h : ∀ a, g a = s.heap.get? a) : obsV n fa fn ex g = (hookV n fa fn ex).obs s := by
  have e : g = s.heap.get? := funext h
  rw [e] <;> rfl
structure Prog where
  top : Nat → Stmt
  ds : List (Df × Nat)
  kws : List (Nat × Nat × List Str × List Nat)
  gls : List (Str × PyData)
  bis : List String
  gcd : Bool
def Prog.pc (p : Prog) : Pc := ⟨p.ds.map (·.1), p.kws, p.gls.map (·.1), p.bis, p.gcd⟩
def Prog.gd (p : Prog) : List PyData := p.gls.map (·.2)
def Prog.dOf (p : Prog) (q : Df × Nat) : He.DefD := ⟨(q.1.x, none), q.1.x, q.1.x, defArgs (p.top q.2), defBody (p.top q.2), defScope (p.top q.2), [], []⟩
def Prog.fn (p : Prog) : List He.DefD := p.ds.map p.dOf
def Prog.fa (p : Prog) : List He.Fa := (p.ds.map fun q => .glo q.1.x) ++ p.bis.map fun x => .free x
def Prog.ex (p : Prog) (K : PySem.W.Frag) : Bool := (p.gls.all fun q => gloV K q.1 q.2) && (!p.gcd || gcdV K)
def Prog.chk (p : Prog) : Bool := p.ds.all fun q => chkD p.pc q.1 (p.top q.2)
def BindD (p : Prog) (q : Df × Nat) : Prop := ∀ (kV doc pm : Value) (an : Option Addr) (cdv ct : Value) (us : List Value), us.length = q.1.ps.length →
  bindArgs (PySem.W.fnOf q.1.x q.1.x (defArgs (p.top q.2)) (defBody (p.top q.2)) (defScope (p.top q.2)) .none kV doc pm an cdv ct) ⟨us, []⟩ = pure (q.1.ps.zip us)
def BindK (p : Prog) (k : Nat × Nat × List Str × List Nat) : Prop := ∀ q, p.ds[k.1]? = some q → ∀ (kV doc pm : Value) (an : Option Addr) (cdv ct : Value) (us ws : List Value), us.length = k.2.1 → ws.length = k.2.2.1.length →
  bindArgs (PySem.W.fnOf q.1.x q.1.x (defArgs (p.top q.2)) (defBody (p.top q.2)) (defScope (p.top q.2)) .none kV doc pm an cdv ct) ⟨us, k.2.2.1.zip ws⟩ = pure (q.1.ps.zip (permV q.1.ps.length k.2.2.2 (us ++ ws)))
theorem fun_k {K : PySem.W.Frag} {x qual : Str} {params : Arguments} {body : List Stmt} {scope : Scope} {f : Addr} {fd : FuncData} {ps : List Str} {n : Nat} {ks : List Str} {perm : List Nat} (F : FunD K x qual params body scope [] [] f fd)
    (h : ∀ (kV doc pm : Value) (an : Option Addr) (cdv ct : Value) (us ws : List Value), us.length = n → ws.length = ks.length → bindArgs (PySem.W.fnOf x qual params body scope .none kV doc pm an cdv ct) ⟨us, ks.zip ws⟩ = pure (ps.zip (permV ps.length perm (us ++ ws)))) : Vi.KBn K fd ps n ks perm := by
  obtain ⟨oc, od, dV, kV, doc, pm, an, cdv, ct, osl, rfl, lk, hcd, hD, hK⟩ := F.ex
  rcases hD with ⟨_, rfl⟩ | ⟨e, _⟩
  · exact fun s us ws X h1 h2 _ => .of_eq (h kV doc pm an cdv ct us ws h1 h2)
  · exact absurd rfl e
section
variable {K : PySem.W.Frag} {h : Heap} {mg : Str → Option Value} {p : Prog}
theorem He_facts {fa : List He.Fa} {fn : List He.DefD} {K : PySem.W.Frag} (c : He.SaysD fa fn K) {f : He.Fa} (h : f ∈ fa) : f.ok K = true := by
  obtain ⟨i, hi, e⟩ := List.mem_iff_getElem.mp h
  exact c.fact i (f := f) (by rw [List.getElem?_eq_getElem hi, e])
theorem facts_of (X : K.In h) (G : h.Ns mainGlobals mg) (c : He.SaysD p.fa p.fn K) (ex : p.ex K = true) (hc : p.chk = true) (hb : ∀ q ∈ p.ds, BindD p q) (hk : ∀ k ∈ p.kws, BindK p k) (dflt : FuncData) :
    ∃ (fa : Nat → Addr) (fd : Nat → FuncData), Facts p.pc p.gd K mg fa fd (fun j => p.top ((p.ds[j]?.map (·.2)).getD 0)) := by
  have hdef : ∀ j : Nat, ∃ fd : FuncData, ∀ q, p.ds[j]? = some q → FunD K q.1.x q.1.x (defArgs (p.top q.2)) (defBody (p.top q.2)) (defScope (p.top q.2)) [] [] (He.ga K q.1.x) fd := fun j => by
    cases e : p.ds[j]? with
    | none => exact ⟨dflt, fun q z => by cases z⟩
    | some q =>
      obtain ⟨fd, hfd⟩ := c.def_ j (d := p.dOf q) (by unfold Prog.fn; rw [List.getElem?_map, e]; rfl)
      exact ⟨fd, fun q' z => by cases z; exact hfd⟩
  obtain ⟨fd, hfd⟩ := Classical.skolem.mp hdef
  refine ⟨fun j => He.ga K ((p.ds[j]?.map (·.1.x)).getD Str.empty), fd, ⟨fun j d hj => ?_, fun j n ks perm hm d hj => ?_, fun x hx => ?_, fun hg => ?_, fun j d hj => ?_⟩⟩
  · have hj : (p.ds.map (·.1))[j]? = some d := hj
    rw [List.getElem?_map] at hj
    obtain ⟨q, hq, rfl⟩ := Option.map_eq_some_iff.mp hj
    have hmem := List.mem_of_getElem? hq
    have F := hfd j q hq
    simp only [hq, Option.map_some, Option.getD_some]
    refine ⟨He.glo_ok X G (He_facts c (f := .glo q.1.x) (List.mem_append_left _ (List.mem_map.mpr ⟨q, hmem, rfl⟩))), F, F.bindsN (hb q hmem), List.all_eq_true.mp hc q hmem⟩
  · have hj : (p.ds.map (·.1))[j]? = some d := hj
    rw [List.getElem?_map] at hj
    obtain ⟨q, hq, rfl⟩ := Option.map_eq_some_iff.mp hj
    exact fun_k (hfd j q hq) (hk _ hm q hq)
  · exact He.free_ok X G (He_facts c (f := .free x) (List.mem_append_right _ (List.mem_map.mpr ⟨x, hx, rfl⟩)))
  · have := (ba2 ex).2
    have hg : p.gcd = true := hg
    rw [hg] at this
    exact gcdV_ok X G (by simpa using this)
  · have hj : (p.gls.map (·.2))[j]? = some d := hj
    rw [List.getElem?_map] at hj
    obtain ⟨q, hq, rfl⟩ := Option.map_eq_some_iff.mp hj
    have := List.all_eq_true.mp (ba2 ex).1 q (List.mem_of_getElem? hq)
    obtain ⟨u, v, h1, h2, h3⟩ := gloV_ok X G this
    exact ⟨q.1, u, v, by show (p.gls.map (·.1))[j]? = _; rw [List.getElem?_map, hq]; rfl, h1, h2, h3⟩
end
theorem walk_ofV {l : PySem.W.OpenLaw} {n k : Nat} {q : Program} {loose : List Str} {XP : (Str → Option Value) → Heap → Prop} {YP : World → Heap → Prop} {d : DefRec} {x : Str}
    (hn : l.most = some n) (hn2 : n ≤ sizeLine) (hdf : d.params.defaults = []) (hr : Room k callerA)
    (F : ∀ (w : World) (mg : Str → Option Value) (fa : Addr) (h : Heap), YP w h → h.Ns mainGlobals mg → mg d.name = some (.ref fa) →
      ∃ (K : PySem.W.Frag) (fd : FuncData) (sp : Sp), K.In h ∧ (∀ (s : Shared) (u : Value), BindsTo s fd ⟨[u], []⟩ [(x, u)]) ∧
        (∀ (H : Hp) (a : Addr) (ns : List Int), ns.length ≤ n → Only H → SqL K H a (ns.map V.int) → sp [.ref a] H (fun v _ => v = .bl true) fun _ _ _ => False) ∧
        ∀ base : Heap, K.In base → base.Ns mainGlobals mg → FnOk l.prog w K mg base (L2.CX l.prog w) k fa fd [x] sp) :
    PySem.W.WalkO q loose XP YP l.row.toRowW d [] (fun f vs => PySem.call f vs) := by
  refine Att.attach_call hn hdf fun w s₀ s₁ mg mb fa o pm cd doc a vs ns G Y ho hd hcd hmg hobj hints hlen hg => ?_
  obtain ⟨K, fd, sp, KX, hb, hsp, hF⟩ := F w mg fa _ Y G.T.g hmg
  exact law_call KX G.T.g G.T.b G.T.builtins G.T.nolimit hg hobj hints (Nat.le_trans hlen hn2) hr hF hb (fun H hO hS => hsp H a ns hlen hO hS) fun H e s' z => by
    obtain ⟨_, _, _, _, _, _, _, _, _, _, _, _, z⟩ := z
    exact z
def lawAns (p : Prog) (fuel n j : Nat) (ns : List Int) : Option (Rs Rv) := (Fns p.gd fuel p.pc.ds n)[j]?.map fun f => f.sem [.dat (.list (ns.map PyData.int))]
theorem law_end {l : PySem.W.OpenLaw} {p : Prog} {n fuel j m : Nat} {q : Program} {loose : List Str} {XP : (Str → Option Value) → Heap → Prop} {d : DefRec} {x : Str} {df : Df}
    (hn : l.most = some m) (hn2 : m ≤ sizeLine) (hdf : d.params.defaults = []) (hr : Room n callerA) (hc : p.chk = true) (hb : ∀ q ∈ p.ds, BindD p q) (hk : ∀ k ∈ p.kws, BindK p k) (dflt : FuncData)
    (hj : p.ds[j]?.map (·.1) = some df) (hx : df.x = d.name) (hps : df.ps = [x])
    (hlaw : ∀ ns : List Int, ns.length ≤ m → ∃ os, lawAns p fuel n j ns = some (.ok (.dat (.bool true)) os)) :
    PySem.W.WalkO q loose XP (hookV 4 p.fa p.fn p.ex).says l.row.toRowW d [] (fun f vs => PySem.call f vs) := by
  refine walk_ofV (x := x) (k := n) hn hn2 hdf hr fun w mg fa0 h ⟨K, X, c, ex⟩ G hmg => ?_
  obtain ⟨fa, fd, F⟩ := facts_of X G c ex hc hb hk dflt
  have hjd : p.pc.ds[j]? = some df := by show (p.ds.map (·.1))[j]? = _; rw [List.getElem?_map]; exact hj
  obtain ⟨fm, fF, fB, fC⟩ := F.fn j df hjd
  have ef : fa0 = fa j := by
    rw [← hx, fm] at hmg
    simpa using hmg.symm
  subst ef
  obtain ⟨fn, hfn⟩ : ∃ fn, (Fns p.gd fuel p.pc.ds n)[j]? = some fn := by
    cases n <;> (unfold Fns; rw [List.getElem?_map, hjd]; exact ⟨_, rfl⟩)
  refine ⟨K, fd j, spF K (fun _ => 0) fn, X, fun s u => ?_, fun H a ns hl hO hS => ?_, fun base hK hG => ?_⟩
  · obtain ⟨q0, hq0, e0⟩ := Option.map_eq_some_iff.mp hj
    have hq1 : p.ds[j]? = some q0 := hq0
    have b := FunD.bindsA (ps := df.ps) fF (by
      have := hb q0 (List.mem_of_getElem? hq1)
      unfold BindD at this
      rw [hq1]
      rw [← e0]
      exact this) s [u] (by rw [hps]; rfl)
    rw [hps] at b
    exact b
  · obtain ⟨d', hd', h1, _⟩ := fns_np (p := p.pc) hfn
    rw [hjd] at hd'; cases hd'
    obtain ⟨os, ho⟩ := hlaw ns hl
    unfold lawAns at ho
    rw [hfn] at ho
    have ho : fn.sem [.dat (.list (ns.map PyData.int))] = .ok (.dat (.bool true)) os := by simpa using ho
    refine ⟨by rw [h1, hps]; rfl, fun _ => none, fun _ => none, H, [.dat (.list (ns.map PyData.int))], ⟨rfl, Same.refl _, fun a u z => (by cases z), fun a u z => (by cases z), fun i d z => ?_, fun i f o z => ?_, fun i j f f' o o' p z => ?_⟩, ?_⟩
    · cases i with
      | zero =>
        have z : d = .list (ns.map PyData.int) := by simpa using z.symm
        subst z
        exact ⟨.ref a, rfl, .lst hS (Dats.ints ns)⟩
      | succ i => simp at z
    · cases i with
      | zero => simp at z
      | succ i => simp at z
    · cases i with
      | zero => simp at z
      | succ i => simp at z
    · rw [ho]
      intro G' H' v _ _ hv
      cases hv
      rfl
  · have := prog_ok (P := l.prog) (w := w) (base := base) (fuel := fuel) (cT := fun _ => 0) F n j df fn hjd hfn
    rw [hps] at this
    exact this
end Vi
set_option maxHeartbeats 4000000
namespace Vi
open PySem
def Ev {α : Type} (x : Rs α) (Q : α → En → Prop) (_ : Dum Q := true) : Prop := match x with
  | .ok a ρ => Q a ρ
  | _ => False
section
variable {α β : Type} {x y : Rs α} {a : α} {ρ : En} {f : α → En → Rs β} {Q Q' : α → En → Prop} {P : β → En → Prop}
@[simp] theorem Ev_ok : Ev (.ok a ρ) Q = Q a ρ := rfl
@[simp] theorem Ev_no : Ev (.no : Rs α) Q = False := rfl
theorem Ev_bind : Ev (x.bind f) P = Ev x fun a ρ => Ev (f a ρ) P := by cases x <;> rfl
theorem Ev.bind (h : Ev x Q) (k : ∀ a ρ, Q a ρ → Ev (f a ρ) P) : Ev (x.bind f) P := by
  cases x with
  | ok a ρ => exact k a ρ h
  | _ => exact h.elim
theorem Ev.imp (h : Ev x Q) (k : ∀ a ρ, Q a ρ → Q' a ρ) : Ev x Q' := by
  cases x with
  | ok a ρ => exact k a ρ h
  | _ => exact h.elim
theorem Ev.eq (h : Ev x Q) : ∃ a ρ, x = .ok a ρ ∧ Q a ρ := by
  cases x with
  | ok a ρ => exact ⟨a, ρ, rfl, h⟩
  | _ => exact h.elim
theorem Ev.of_eq (e : x = .ok a ρ) (h : Q a ρ) : Ev x Q := by rw [e]; exact h
end
def Prog.sem (p : Prog) (fuel n j : Nat) (as : En) : Rs Rv := match (Fns p.gd fuel p.pc.ds n)[j]? with
  | some f => f.sem as
  | none => .no
theorem fns_at {p : Prog} {fuel n j : Nat} {q : Df × Nat} (h : p.ds[j]? = some q) : (Fns p.gd fuel p.pc.ds n)[j]? = some ⟨q.1.ps.length, q.1.chg, p.sem fuel n j⟩ := by
  have hd : p.pc.ds[j]? = some q.1 := by show (p.ds.map (·.1))[j]? = _; rw [List.getElem?_map, h]; rfl
  have : ∃ f, (Fns p.gd fuel p.pc.ds n)[j]? = some f ∧ f.np = q.1.ps.length ∧ f.chg = q.1.chg := by
    cases n <;> (unfold Fns; rw [List.getElem?_map, hd]; exact ⟨_, rfl, rfl, rfl⟩)
  obtain ⟨f, hf, h1, h2⟩ := this
  have e : p.sem fuel n j = f.sem := by
    funext as
    unfold Prog.sem
    rw [hf]
  rw [hf, ← h1, ← h2, e]
def Ret (as : En) (Q : Rv → En → Prop) : Ctl → En → Prop
  | .rt r, ρ => r.isRef = false ∧ ∃ os, outs as ρ = some os ∧ Q r os
  | .nx, ρ => ∃ os, outs as ρ = some os ∧ Q (.dat .none) os
  | _, _ => False
theorem Ev_run {Γ : Cn} {n : Nat} {body : List Sm} {as : En} {Q : Rv → En → Prop} (h : Ev (evB Γ body (as ++ List.replicate (n - as.length) .non)) (Ret as Q)) : Ev (runF Γ n body as) Q := by
  obtain ⟨c, ρ, e, h⟩ := h.eq
  unfold runF
  rw [e]
  cases c with
  | rt r =>
    obtain ⟨h1, os, h2, h3⟩ := h
    simp only [h2, h1]
    exact h3
  | nx =>
    obtain ⟨os, h2, h3⟩ := h
    simp only [h2]
    exact h3
  | bk => exact h.elim
  | ct => exact h.elim
theorem Ev_def {p : Prog} {fuel n j : Nat} {q : Df × Nat} {as : En} {Q : Rv → En → Prop} (h : p.ds[j]? = some q) (hb : Ev (evB ⟨Fns p.gd fuel p.pc.ds n, p.gd, fuel⟩ q.1.body (as ++ List.replicate (q.1.N.length - as.length) .non)) (Ret as Q)) : Ev (p.sem fuel (n + 1) j as) Q := by
  have hd : p.pc.ds[j]? = some q.1 := by show (p.ds.map (·.1))[j]? = _; rw [List.getElem?_map, h]; rfl
  have e : p.sem fuel (n + 1) j as = runF ⟨Fns p.gd fuel p.pc.ds n, p.gd, fuel⟩ q.1.N.length q.1.body as := by
    unfold Prog.sem Fns
    rw [List.getElem?_map, hd, Option.map_some]
    cases n <;> rfl
  rw [e]
  exact Ev_run hb
theorem argSl_data {ρ : En} {chg : List Nat} : ∀ (l : List PyData) (k : Nat), (∀ j, chg.contains (k + j) = false) → argSl ρ chg k (l.map .dat) = some (l.map .dat)
  | [], k, h => rfl
  | d :: l, k, h => by
    have h0 : chg.contains k = false := by have := h 0; simpa using this
    have ih := argSl_data (ρ := ρ) (chg := chg) l (k + 1) fun j => by have := h (j + 1); rw [show k + (j + 1) = k + 1 + j by omega] at this; exact this
    simp only [List.map_cons, argSl]
    rw [if_neg (by rw [h0]; exact Bool.false_ne_true), ih]
    rfl
theorem putBack_data {ρ : En} {chg : List Nat} : ∀ (l : List PyData) (os : En) (k : Nat), (∀ j, chg.contains (k + j) = false) → os.length = l.length → putBack chg k (l.map .dat) os ρ = some ρ
  | [], os, k, h, hl => rfl
  | d :: l, [], k, h, hl => by cases hl
  | d :: l, o :: os, k, h, hl => by
    have h0 : chg.contains k = false := by have := h 0; simpa using this
    have ih := putBack_data (ρ := ρ) (chg := chg) l os (k + 1) (fun j => by have := h (j + 1); rw [show k + (j + 1) = k + 1 + j by omega] at this; exact this) (by simpa using hl)
    simp only [List.map_cons, putBack]
    rw [if_neg (by rw [h0]; exact Bool.false_ne_true), ih]
theorem frz_data {ρ : En} {chg : List Nat} : ∀ (l : List PyData) (k : Nat), frz (lookOnly chg k (l.map .dat)) ρ = some ρ
  | [], k => rfl
  | d :: l, k => by
    have ih := frz_data (ρ := ρ) (chg := chg) l (k + 1)
    simp only [List.map_cons, lookOnly]
    split
    · exact ih
    · simpa [frz] using ih
theorem ref_data {l : List PyData} {k : Nat} {i : Nat} : (l.map Rv.dat)[k]? ≠ some (.ref i) := by
  rw [List.getElem?_map]
  cases l[k]? with
  | none => intro h; cases h
  | some d => intro h; cases h
theorem doCall_data {f : Fn} {ds : List PyData} {r : Rv} {ρ : En} (hl : ds.length = f.np) (hc : f.chg = []) (h : f.sem (ds.map .dat) = .ok r (ds.map .dat)) (hr : r.isRef = false) : doCall f (ds.map Rv.dat) ρ = .ok r ρ := by
  unfold doCall
  have e0 : (decide ((ds.map Rv.dat).length = f.np) && apart f.chg (ds.map Rv.dat)) = true := by rw [hc]; simp [hl, apart]
  rw [if_pos e0, hc, argSl_data ds 0 (fun j => rfl)]
  simp only [h, hr, putBack_data (ρ := ρ) (chg := []) ds (ds.map .dat) 0 (fun j => rfl) (by simp), frz_data]
  split
  · rename_i z; cases z
  · split <;> rfl
theorem Ev_call0 {f : Fn} {i : Nat} {o : Ob} {fl : Fl} {ds : List PyData} {ρ : En} {Q : Rv → En → Prop} (hi : ρ[i]? = some (.own fl o)) (hf : fl = .loc ∨ fl = .par) (hl : ds.length + 1 = f.np) (hc : f.chg = [0])
    (h : Ev (f.sem (.own .par o :: ds.map .dat)) fun r os => r.isRef = false ∧ ∃ o', os = .own .par o' :: ds.map .dat ∧ Q r (ρ.set i (.own fl o'))) : Ev (doCall f (.ref i :: ds.map .dat) ρ) Q := by
  obtain ⟨r, os, e, hr, o', rfl, hq⟩ := h.eq
  unfold doCall
  have ap : apart [0] (.ref i :: ds.map Rv.dat) = true := by
    unfold apart
    rw [Bool.or_eq_true]
    right
    rw [List.all_eq_true]
    intro j _
    rw [List.all_eq_true]
    intro k _
    cases j with
    | zero =>
      cases k with
      | zero => rfl
      | succ k =>
        have : sameRef (some (Rv.ref i)) (ds.map Rv.dat)[k]? = false := by
          rw [List.getElem?_map]
          cases ds[k]? <;> rfl
        rw [List.getElem?_map] at this
        simp [this]
    | succ j =>
      have : sameRef (ds.map Rv.dat)[j]? ((Rv.ref i :: ds.map Rv.dat)[k]?) = false := by
        rw [List.getElem?_map]
        cases ds[j]? <;> rfl
      rw [List.getElem?_map] at this
      simp [this]
  have e0 : (decide ((Rv.ref i :: ds.map Rv.dat).length = f.np) && apart f.chg (Rv.ref i :: ds.map Rv.dat)) = true := by rw [hc, ap]; simp [hl]
  have nc : ∀ j, ([0] : List Nat).contains (0 + 1 + j) = false := fun j => by simp
  have ea : argSl ρ [0] 0 (.ref i :: ds.map Rv.dat) = some (.own .par o :: ds.map .dat) := by
    have q := argSl_data (ρ := ρ) (chg := [0]) ds (0 + 1) nc
    unfold argSl
    rw [q]
    simp only [hi]
    rcases hf with rfl | rfl <;> rfl
  have ep : putBack [0] 0 (.ref i :: ds.map Rv.dat) (.own .par o' :: ds.map .dat) ρ = some (ρ.set i (.own fl o')) := by
    unfold putBack
    rw [if_pos (by rfl)]
    simp only [hi]
    exact putBack_data ds _ 1 nc (by simp)
  have ef : frz (lookOnly [0] 0 (.ref i :: ds.map Rv.dat)) (ρ.set i (.own fl o')) = some (ρ.set i (.own fl o')) := by
    unfold lookOnly
    rw [if_pos (by rfl)]
    exact frz_data ds 1
  rw [if_pos e0, hc, ea]
  simp only [e, hr, ep, ef]
  split
  · rename_i z; cases z
  · split <;> exact hq
theorem Ev.sem_eq {α : Type} {x : Rs α} {a : α} {ρ : En} (h : Ev x fun r os => r = a ∧ os = ρ) : x = .ok a ρ := by
  obtain ⟨r, os, e, rfl, rfl⟩ := h.eq
  exact e
theorem okD_int (i : Int) : okD (.int i) = true := rfl
theorem okD_bool (i : Bool) : okD (.bool i) = true := rfl
theorem okD_none : okD .none = true := rfl
theorem Ev_cons {Γ : Cn} {s : Sm} {ss : List Sm} {ρ : En} {Q : Ctl → En → Prop} (h : ∀ K : Ctl → En → Prop, (∀ ρ1, Ev (evB Γ ss ρ1) Q → K .nx ρ1) → (∀ r ρ1, Q (.rt r) ρ1 → K (.rt r) ρ1) → (∀ ρ1, Q .bk ρ1 → K .bk ρ1) → (∀ ρ1, Q .ct ρ1 → K .ct ρ1) → Ev (evS Γ s ρ) K) : Ev (evB Γ (s :: ss) ρ) Q := by
  unfold evB
  rw [Ev_bind]
  refine h _ (fun ρ1 h => h) (fun r ρ1 h => h) (fun ρ1 h => h) (fun ρ1 h => h)
theorem Ev_nil {Γ : Cn} {ρ : En} {Q : Ctl → En → Prop} (h : Q .nx ρ) : Ev (evB Γ [] ρ) Q := h
theorem Ev_iff {Γ : Cn} {c : Tm} {a b : List Sm} {ρ ρ1 : En} {k : Bool} {Q : Ctl → En → Prop} (hc : evT Γ c ρ = .ok k ρ1) (h : Ev (if k then evB Γ a ρ1 else evB Γ b ρ1) Q) : Ev (evS Γ (.iff c a b) ρ) Q := by
  unfold evS
  rw [hc]
  exact h
theorem Ev_forL {k : Lk} {f : PyData → En → Rs Ctl} {xs : List PyData} {ρ : En} {Q : Ctl → En → Prop} (Inv : Nat → En → Prop) (h0 : Inv 0 ρ)
    (step : ∀ i x ρ, xs[i]? = some x → Inv i ρ → lkOk k ρ = true ∧ Ev (f x ρ) fun c ρ' => match c with
      | .nx => Inv (i + 1) ρ'
      | .ct => Inv (i + 1) ρ'
      | .bk => Q .nx ρ'
      | .rt r => Q (.rt r) ρ') (hend : ∀ ρ, Inv xs.length ρ → Q .nx ρ) : Ev (forL k f xs ρ) Q := by
  have key : ∀ (ys : List PyData) (i : Nat) (ρ : En), xs.drop i = ys → i + ys.length = xs.length → Inv i ρ → Ev (forL k f ys ρ) Q := by
    intro ys
    induction ys with
    | nil =>
      intro i ρ hd hl hi
      have e : i = xs.length := by simpa using hl
      subst e
      exact hend ρ hi
    | cons y ys ih =>
      intro i ρ hd hl hi
      have hx : xs[i]? = some y := by
        have := congrArg (fun l => l[0]?) hd
        simpa using this
      obtain ⟨h1, h2⟩ := step i y ρ hx hi
      unfold forL
      rw [if_pos h1, Ev_bind]
      refine h2.imp fun c ρ' hc => ?_
      have hd' : xs.drop (i + 1) = ys := by
        have := congrArg List.tail hd
        simpa using this
      have hl' : i + 1 + ys.length = xs.length := by simp at hl; omega
      cases c with
      | nx => exact ih (i + 1) ρ' hd' hl' hc
      | ct => exact ih (i + 1) ρ' hd' hl' hc
      | bk => exact hc
      | rt r => exact hc
  exact key xs 0 ρ rfl (by simp) h0
theorem Ev_whL {c : En → Rs Bool} {f : En → Rs Ctl} {Q : Ctl → En → Prop} (Inv : Nat → En → Prop)
    (step : ∀ m ρ, Inv m ρ → Ev (c ρ) fun b ρ1 => if b then Ev (f ρ1) fun k ρ2 => (match k with
      | .nx => ∃ m', m' < m ∧ Inv m' ρ2
      | .ct => ∃ m', m' < m ∧ Inv m' ρ2
      | .bk => Q .nx ρ2
      | .rt r => Q (.rt r) ρ2) else Q .nx ρ1) : ∀ (m fuel : Nat) (ρ : En), Inv m ρ → m < fuel → Ev (whL c f fuel ρ) Q := by
  intro m
  induction m using Nat.strongRecOn with
  | _ m ih =>
    intro fuel ρ h hf
    obtain ⟨g, rfl⟩ : ∃ g, fuel = g + 1 := ⟨fuel - 1, by omega⟩
    unfold whL
    rw [Ev_bind]
    refine (step m ρ h).imp fun b ρ1 hb => ?_
    cases b with
    | false => exact hb
    | true =>
      rw [if_pos rfl] at hb ⊢
      rw [Ev_bind]
      refine hb.imp fun k ρ2 hk => ?_
      cases k with
      | nx => obtain ⟨m', h1, h2⟩ := hk; exact ih m' h1 g ρ2 h2 (by omega)
      | ct => obtain ⟨m', h1, h2⟩ := hk; exact ih m' h1 g ρ2 h2 (by omega)
      | bk => exact hk
      | rt r => exact hk
@[simp] theorem bigOk_left {i j : Int} (h : i.natAbs < 18446744073709551616) : bigOk i j = true := by
  unfold bigOk
  exact decide_eq_true (.inl h)
@[simp] theorem bigOk_right {i j : Int} (h : j.natAbs < 18446744073709551616) : bigOk i j = true := by
  unfold bigOk
  exact decide_eq_true (.inr (.inl h))
theorem atD_nat {xs : List PyData} (k : Nat) : atD xs (k : Int) = xs[k]? := by
  unfold atD L2.atI L2.ixN
  rw [if_pos (by omega)]
  by_cases h : k < xs.length
  · rw [if_pos (by omega)]
    rfl
  · rw [if_neg (by omega), List.getElem?_eq_none (by omega)]
    rfl
@[simp] theorem atD_m1 {xs : List PyData} : atD xs (-1) = xs.getLast? := by
  unfold atD L2.atI L2.ixN
  rw [if_neg (by omega), List.getLast?_eq_getElem?]
  by_cases h : 1 ≤ xs.length
  · rw [if_pos (by omega)]
    show xs[(-1 + (xs.length : Int)).toNat]? = _
    congr 1
    omega
  · rw [if_neg (by omega)]
    have : xs.length = 0 := by omega
    rw [this]
    have : xs = [] := List.eq_nil_of_length_eq_zero this
    subst this
    rfl
@[simp] theorem atD_0 {xs : List PyData} : atD xs 0 = xs[0]? := atD_nat 0
@[simp] theorem atD_1 {xs : List PyData} : atD xs 1 = xs[1]? := atD_nat 1
@[simp] theorem atD_2 {xs : List PyData} : atD xs 2 = xs[2]? := atD_nat 2
@[simp] theorem atD_3 {xs : List PyData} : atD xs 3 = xs[3]? := atD_nat 3
@[simp] theorem atD_4 {xs : List PyData} : atD xs 4 = xs[4]? := atD_nat 4
@[simp] theorem atD_5 {xs : List PyData} : atD xs 5 = xs[5]? := atD_nat 5
@[simp] theorem atD_6 {xs : List PyData} : atD xs 6 = xs[6]? := atD_nat 6
@[simp] theorem atD_7 {xs : List PyData} : atD xs 7 = xs[7]? := atD_nat 7
@[simp] theorem atD_8 {xs : List PyData} : atD xs 8 = xs[8]? := atD_nat 8
@[simp] theorem atD_9 {xs : List PyData} : atD xs 9 = xs[9]? := atD_nat 9
@[simp] theorem atD_10 {xs : List PyData} : atD xs 10 = xs[10]? := atD_nat 10
@[simp] theorem atD_11 {xs : List PyData} : atD xs 11 = xs[11]? := atD_nat 11
@[simp] theorem atD_12 {xs : List PyData} : atD xs 12 = xs[12]? := atD_nat 12
@[simp] theorem atD_13 {xs : List PyData} : atD xs 13 = xs[13]? := atD_nat 13
@[simp] theorem atD_14 {xs : List PyData} : atD xs 14 = xs[14]? := atD_nat 14
@[simp] theorem atD_15 {xs : List PyData} : atD xs 15 = xs[15]? := atD_nat 15
@[simp] theorem free_non : free (some .non) = true := rfl
@[simp] theorem free_dat {d : PyData} : free (some (.dat d)) = true := rfl
@[simp] theorem free_loc {o : Ob} : free (some (.own .loc o)) = true := rfl
def Plain (s : Sl) : Prop := s = .non ∨ ∃ d, s = .dat d
theorem Plain.free {s : Sl} (h : Plain s) : Vi.free (some s) = true := by rcases h with rfl | ⟨_, rfl⟩ <;> rfl
@[simp] theorem plain_non : Plain .non := .inl rfl
@[simp] theorem plain_dat {d : PyData} : Plain (.dat d) := .inr ⟨d, rfl⟩
@[simp] theorem fin_none (x : Rs Ctl) : fin none x = x := by cases x <;> rfl
theorem Ev_for {Γ : Cn} {it : It} {tg : Tg} {b : List Sm} {ρ ρ1 : En} {xs : List PyData} {Q : Ctl → En → Prop} (Inv : Nat → En → Prop) (hi : evIt Γ it ρ = .ok (xs, none) ρ1) (h0 : Inv 0 ρ1)
    (step : ∀ i x ρ, xs[i]? = some x → Inv i ρ → Ev (letD tg x ρ) fun _ ρ => Ev (evB Γ b ρ) fun c ρ' => match c with
      | .nx => Inv (i + 1) ρ'
      | .ct => Inv (i + 1) ρ'
      | .bk => Q .nx ρ'
      | .rt r => Q (.rt r) ρ') (hend : ∀ ρ, Inv xs.length ρ → Q .nx ρ) : Ev (evS Γ (.for it tg b) ρ) Q := by
  unfold evS
  rw [hi, Rs.bind_ok, fin_none]
  refine Ev_forL Inv h0 (fun i x ρ hx hI => ⟨rfl, ?_⟩) hend
  rw [Ev_bind]
  exact step i x ρ hx hI
theorem Ev_whl {Γ : Cn} {c : Tm} {b : List Sm} {ρ : En} {Q : Ctl → En → Prop} (Inv : Nat → En → Prop) (m : Nat) (h0 : Inv m ρ) (hm : m < Γ.fuel)
    (step : ∀ m ρ, Inv m ρ → Ev (evT Γ c ρ) fun k ρ1 => if k then Ev (evB Γ b ρ1) fun k ρ2 => (match k with
      | .nx => ∃ m', m' < m ∧ Inv m' ρ2
      | .ct => ∃ m', m' < m ∧ Inv m' ρ2
      | .bk => Q .nx ρ2
      | .rt r => Q (.rt r) ρ2) else Q .nx ρ1) : Ev (evS Γ (.whl c b) ρ) Q := by
  unfold evS
  exact Ev_whL Inv step m Γ.fuel ρ h0 hm
theorem rng_ok {N : Nat} (h : N < 2 ^ 62) : rngD 0 N = some ((List.range N).map fun k => PyData.int (k : Nat)) := by
  unfold rngD
  have e : (N : Int).natAbs.ble 4611686018427387903 = true := Nat.ble_eq_true_of_le (by omega)
  have e0 : (0 : Int).natAbs.ble 4611686018427387903 = true := rfl
  rw [e, e0, Bool.true_and, if_pos rfl]
  simp
theorem Ev_letN {i : Nat} {d : PyData} {ρ ρ' : En} {P : Unit → En → Prop} (hf : Vi.free ρ[i]? = true) (hs : ρ.set i (.dat d) = ρ') (h : P () ρ') : Ev (letD (.nm i) d ρ) P := by
  unfold letD sto
  rw [if_pos hf, hs]
  exact h
theorem call1_par {f : Fn} {o o' : Ob} {r : PyData} {ρ : En} (hl : f.np = 1) (hc : f.chg = [0]) (e : f.sem [.own .par o] = .ok (.dat r) [.own .par o']) : call1 f o ρ = .ok (.dat r) ρ := by
  have hi : (ρ ++ [Sl.own .loc o])[ρ.length]? = some (.own .loc o) := by rw [List.getElem?_append_right (Nat.le_refl _), Nat.sub_self]; rfl
  have h := Ev.sem_eq (Ev_call0 (f := f) (ds := []) (Q := fun x ρ1 => x = Rv.dat r ∧ ρ1 = (ρ ++ [Sl.own .loc o]).set ρ.length (.own .loc o')) hi (.inl rfl) (by rw [hl]; rfl) hc (Ev.of_eq e ⟨rfl, _, rfl, rfl, rfl⟩))
  unfold call1
  rw [show ([] : List PyData).map Rv.dat = [] from rfl] at h
  rw [h]
  show Rs.ok _ _ = _
  rw [List.set_append_right _ _ (Nat.le_refl _), Nat.sub_self]
  simp
end Vi
set_option maxHeartbeats 0
namespace Lw
open PySem PySem.Spec PyProof.Rows L2 Vi
def top (i : Nat) : Stmt := PySem.Challenge.pw_selfkits_k03_whole_reaches.main.body.getD i (.Pass ⟨0, 0, 0, 0⟩)
def d0 : Df := ⟨"is_integer", ["value"], ["value"], [], [.ret (.and (.isi (.var 0) [.int]) (.not (.isi (.var 0) [.bool])))]⟩
def d1 : Df := ⟨"is_pair", ["value"], ["value"], [], [.ret (.and (.isi (.var 0) [.tuple]) (.cmp .eq (.bi .len [(.var 0)]) (.con (.int 2))))]⟩
def d2 : Df := ⟨"is_ascending", ["row"], ["row", "k"], [], [.ret (.bi .all [(.lc (.rng1 (.bin .sub (.bi .len [(.var 0)]) (.con (.int 1)))) (.nm 1) [1] none (.cmp .lt (.idx (.var 0) (.var 1)) (.idx (.var 0) (.bin .add (.var 1) (.con (.int 1))))))])]⟩
def d3 : Df := ⟨"lowest", ["top", "bottom"], ["top", "bottom", "common"], [], [.asg (.nm 2) (.bi .gcd [(.var 0), (.var 1)]), .iff (.cmp .lt (.var 1) (.con (.int 0))) [.asg (.nm 2) (.neg (.var 2))] [], .ret (.tup [(.bin .fdiv (.var 0) (.var 2)), (.bin .fdiv (.var 1) (.var 2))])]⟩
def d4 : Df := ⟨"sum_of_two", ["a", "b"], ["a", "b"], [], [.iff (.and (.cmp .eq (.idx (.var 0) (.con (.int 1))) (.con (.int 1))) (.cmp .eq (.idx (.var 1) (.con (.int 1))) (.con (.int 1)))) [.ret (.tup [(.bin .add (.idx (.var 0) (.con (.int 0))) (.idx (.var 1) (.con (.int 0)))), (.con (.int 1))])] [], .ret (.call 3 [(.bin .add (.bin .mul (.idx (.var 0) (.con (.int 0))) (.idx (.var 1) (.con (.int 1)))) (.bin .mul (.idx (.var 1) (.con (.int 0))) (.idx (.var 0) (.con (.int 1))))), (.bin .mul (.idx (.var 0) (.con (.int 1))) (.idx (.var 1) (.con (.int 1))))])]⟩
def d5 : Df := ⟨"opposite", ["a"], ["a"], [], [.ret (.tup [(.neg (.idx (.var 0) (.con (.int 0)))), (.idx (.var 0) (.con (.int 1)))])]⟩
def d6 : Df := ⟨"difference", ["a", "b"], ["a", "b"], [], [.ret (.call 4 [(.var 0), (.call 5 [(.var 1)])])]⟩
def d7 : Df := ⟨"product_of", ["a", "b"], ["a", "b"], [], [.ret (.call 3 [(.bin .mul (.idx (.var 0) (.con (.int 0))) (.idx (.var 1) (.con (.int 0)))), (.bin .mul (.idx (.var 0) (.con (.int 1))) (.idx (.var 1) (.con (.int 1))))])]⟩
def d8 : Df := ⟨"quotient", ["a", "b"], ["a", "b"], [], [.ret (.call 3 [(.bin .mul (.idx (.var 0) (.con (.int 0))) (.idx (.var 1) (.con (.int 1)))), (.bin .mul (.idx (.var 0) (.con (.int 1))) (.idx (.var 1) (.con (.int 0))))])]⟩
def d9 : Df := ⟨"is_less", ["a", "b"], ["a", "b"], [], [.ret (.cmp .lt (.bin .mul (.idx (.var 0) (.con (.int 0))) (.idx (.var 1) (.con (.int 1)))) (.bin .mul (.idx (.var 1) (.con (.int 0))) (.idx (.var 0) (.con (.int 1)))))]⟩
def d10 : Df := ⟨"size_of", ["a"], ["a"], [], [.ret (.tup [(.bi .abs [(.idx (.var 0) (.con (.int 0)))]), (.idx (.var 0) (.con (.int 1)))])]⟩
def d11 : Df := ⟨"greater_of", ["a", "b"], ["a", "b"], [], [.ret (.ite (.call 9 [(.var 0), (.var 1)]) (.var 1) (.var 0))]⟩
def d12 : Df := ⟨"is_offset", ["told"], ["told"], [], [.ret (.and (.call 1 [(.var 0)]) (.and (.call 0 [(.idx (.var 0) (.con (.int 0)))]) (.call 0 [(.idx (.var 0) (.con (.int 1)))])))]⟩
def d13 : Df := ⟨"is_table", ["told"], ["told"], [], [.ret (.and (.call 1 [(.var 0)]) (.and (.call 12 [(.idx (.var 0) (.con (.int 0)))]) (.call 12 [(.idx (.var 0) (.con (.int 1)))])))]⟩
def d14 : Df := ⟨"determinant_of", ["table"], ["table"], [], [.ret (.bin .sub (.bin .mul (.idx (.idx (.var 0) (.con (.int 0))) (.con (.int 0))) (.idx (.idx (.var 0) (.con (.int 1))) (.con (.int 1)))) (.bin .mul (.idx (.idx (.var 0) (.con (.int 0))) (.con (.int 1))) (.idx (.idx (.var 0) (.con (.int 1))) (.con (.int 0)))))]⟩
def d15 : Df := ⟨"solved", ["table", "point"], ["table", "point", "bottom", "a", "b", "c", "d", "x", "below_x", "y", "below_y"], [], [.asg (.tp [(.tp [(.nm 3), (.nm 4)]), (.tp [(.nm 5), (.nm 6)])]) (.var 0), .asg (.tp [(.tp [(.nm 7), (.nm 8)]), (.tp [(.nm 9), (.nm 10)])]) (.var 1), .asg (.nm 2) (.bin .mul (.bin .mul (.call 14 [(.var 0)]) (.var 8)) (.var 10)), .ret (.tup [(.call 3 [(.bin .sub (.bin .mul (.bin .mul (.var 6) (.var 7)) (.var 10)) (.bin .mul (.bin .mul (.var 4) (.var 9)) (.var 8))), (.var 2)]), (.call 3 [(.bin .sub (.bin .mul (.bin .mul (.var 3) (.var 9)) (.var 8)) (.bin .mul (.bin .mul (.var 5) (.var 7)) (.var 10))), (.var 2)])])]⟩
def d16 : Df := ⟨"is_growing", ["told"], ["told", "size", "sum_of_ends"], [], [.iff (.not (.call 13 [(.var 0)])) [.ret (.con (.bool false))] [], .par [1, 2] [(.call 14 [(.var 0)]), (.bin .add (.idx (.idx (.var 0) (.con (.int 0))) (.con (.int 0))) (.idx (.idx (.var 0) (.con (.int 1))) (.con (.int 1))))], .iff (.cmp .ge (.var 1) (.con (.int 2))) [.ret (.chn .le .le (.neg (.var 1)) (.var 2) (.var 1))] [], .ret (.and (.cmp .le (.var 1) (.neg (.con (.int 2)))) (.chn .le .le (.bin .add (.var 1) (.con (.int 2))) (.var 2) (.bin .sub (.neg (.var 1)) (.con (.int 2)))))]⟩
def d17 : Df := ⟨"is_copy", ["told", "many"], ["told", "many"], [], [.ret (.and (.call 1 [(.var 0)]) (.and (.call 12 [(.idx (.var 0) (.con (.int 0)))]) (.and (.call 0 [(.idx (.var 0) (.con (.int 1)))]) (.chn .le .lt (.con (.int 0)) (.idx (.var 0) (.con (.int 1))) (.var 1)))))]⟩
def d18 : Df := ⟨"is_state", ["told", "many"], ["told", "many", "copy"], [], [.iff (.or (.not (.isi (.var 0) [.tuple])) (.or (.cmp .eq (.bi .len [(.var 0)]) (.con (.int 0))) (.not (.bi .all [(.lc (.seq (.var 0)) (.nm 2) [2] none (.call 17 [(.var 2), (.var 1)]))])))) [.ret (.con (.bool false))] [], .ret (.call 2 [(.var 0)])]⟩
def d19 : Df := ⟨"is_kit", ["told"], ["told", "state"], [], [.iff (.or (.not (.call 1 [(.var 0)])) (.or (.not (.call 16 [(.idx (.var 0) (.con (.int 0)))])) (.or (.not (.isi (.idx (.var 0) (.con (.int 1))) [.tuple])) (.cmp .eq (.bi .len [(.idx (.var 0) (.con (.int 1)))]) (.con (.int 0)))))) [.ret (.con (.bool false))] [], .ret (.bi .all [(.lc (.seq (.idx (.var 0) (.con (.int 1)))) (.nm 1) [1] none (.call 18 [(.var 1), (.bi .len [(.idx (.var 0) (.con (.int 1)))])]))])]⟩
def d20 : Df := ⟨"check_kit", ["kit"], ["kit"], [], [.iff (.not (.call 19 [(.var 0)])) [.nev] []]⟩
def d21 : Df := ⟨"check_state", ["kit", "state"], ["kit", "state"], [], [.iff (.or (.not (.call 0 [(.var 1)])) (.not (.chn .le .lt (.con (.int 0)) (.var 1) (.bi .len [(.idx (.var 0) (.con (.int 1)))])))) [.nev] []]⟩
def d22 : Df := ⟨"inverse_of", ["table"], ["table", "first", "second"], [], [.par [1, 2] [(.call 15 [(.var 0), (.tup [(.glo 1), (.glo 0)])]), (.call 15 [(.var 0), (.tup [(.glo 0), (.glo 1)])])], .ret (.tup [(.tup [(.idx (.var 1) (.con (.int 0))), (.idx (.var 2) (.con (.int 0)))]), (.tup [(.idx (.var 1) (.con (.int 1))), (.idx (.var 2) (.con (.int 1)))])])]⟩
def d23 : Df := ⟨"product_of_numbers", ["one", "other"], ["one", "other", "columns", "rows", "row", "cells", "column"], [], [.asg (.nm 2) (.lst [(.tup [(.idx (.idx (.var 1) (.con (.int 0))) (.con (.int 0))), (.idx (.idx (.var 1) (.con (.int 1))) (.con (.int 0)))]), (.tup [(.idx (.idx (.var 1) (.con (.int 0))) (.con (.int 1))), (.idx (.idx (.var 1) (.con (.int 1))) (.con (.int 1)))])]), .asg (.nm 3) (.lst []), .for (.seq (.var 0)) (.nm 4) [.asg (.nm 5) (.lc (.seq (.var 2)) (.nm 6) [6] none (.call 4 [(.call 7 [(.idx (.var 4) (.con (.int 0))), (.idx (.var 6) (.con (.int 0)))]), (.call 7 [(.idx (.var 4) (.con (.int 1))), (.idx (.var 6) (.con (.int 1)))])])), .exp (.app 3 (.bi .tuple [(.var 5)]))], .ret (.bi .tuple [(.var 3)])]⟩
def d24 : Df := ⟨"size_of_numbers", ["table"], ["table", "sums", "row"], [], [.asg (.nm 1) (.lc (.seq (.var 0)) (.nm 2) [2] none (.call 4 [(.call 10 [(.idx (.var 2) (.con (.int 0)))]), (.call 10 [(.idx (.var 2) (.con (.int 1)))])])), .ret (.call 11 [(.idx (.var 1) (.con (.int 0))), (.idx (.var 1) (.con (.int 1)))])]⟩
def d25 : Df := ⟨"longest", ["kit"], ["kit", "copies", "state", "x", "y"], [], [.ret (.bi .max [(.lc2 (.seq (.idx (.var 0) (.con (.int 1)))) (.nm 1) none (.seq (.var 1)) (.tp [(.tp [(.nm 3), (.nm 4)]), (.nm 2)]) [1, 2, 3, 4] [2, 3, 4] none (.bi .max2 [(.bi .abs [(.var 3)]), (.bi .abs [(.var 4)])]))])]⟩
def d26 : Df := ⟨"reach_of", ["kit"], ["kit", "inverse", "sizes", "power", "size", "top", "bottom"], [], [.asg (.nm 1) (.call 22 [(.idx (.var 0) (.con (.int 0)))]), .par [3, 4] [(.var 1), (.call 24 [(.var 1)])], .asg (.nm 2) (.var 4), .whl (.not (.call 9 [(.var 4), (.glo 1)])) [.asg (.nm 3) (.call 23 [(.var 1), (.var 3)]), .asg (.nm 4) (.call 24 [(.var 3)]), .asg (.nm 2) (.call 4 [(.var 2), (.var 4)])], .asg (.tp [(.nm 5), (.nm 6)]) (.call 8 [(.call 7 [(.var 2), (.tup [(.call 25 [(.var 0)]), (.con (.int 1))])]), (.call 6 [(.glo 1), (.var 4)])]), .ret (.neg (.bin .fdiv (.neg (.var 5)) (.var 6)))]⟩
def d27 : Df := ⟨"reach", ["kit"], ["kit"], [], [.exp (.call 20 [(.var 0)]), .ret (.call 26 [(.var 0)])]⟩
def d28 : Df := ⟨"reached_of", ["kit", "state"], ["kit", "state", "found", "at", "step", "there"], [], [.par [2, 3] [(.lst [(.var 1)]), (.con (.int 0))], .whl (.cmp .lt (.var 3) (.bi .len [(.var 2)])) [.for (.seq (.idx (.idx (.var 0) (.con (.int 1))) (.idx (.var 2) (.var 3)))) (.tp [(.nm 4), (.nm 5)]) [.iff (.cmp .nin (.var 5) (.var 2)) [.exp (.app 2 (.var 5))] []], .asg (.nm 3) (.bin .add (.var 3) (.con (.int 1)))], .ret (.var 2)]⟩
def d29 : Df := ⟨"reached", ["kit", "state"], ["kit", "state"], [], [.exp (.call 20 [(.var 0)]), .exp (.call 21 [(.var 0), (.var 1)]), .ret (.bi .tuple [(.bi .sorted [(.call 28 [(.var 0), (.var 1)])])])]⟩
def d30 : Df := ⟨"_law_deck", ["script", "at"], ["script", "at", "cell", "stir"], [], [.asg (.nm 2) (.con (.int 0)), .iff (.cmp .lt (.var 1) (.bi .len [(.var 0)])) [.asg (.nm 2) (.idx (.var 0) (.var 1))] [], .asg (.nm 3) (.bin .mod (.bi .int [(.bin .add (.bin .add (.var 2) (.bin .mul (.con (.int 7919)) (.var 1))) (.con (.int 104729)))]) (.con (.int 2305843009213693951))), .asg (.nm 3) (.bin .mod (.bi .int [(.bin .add (.bin .add (.bin .mul (.bin .mul (.var 3) (.var 3)) (.var 3)) (.bin .mul (.con (.int 31)) (.var 1))) (.con (.int 7)))]) (.con (.int 2305843009213693951))), .iff (.cmp .lt (.var 2) (.bin .pow (.con (.int 10)) (.con (.int 18)))) [.ret (.lst [(.con (.int 0)), (.var 3)])] [], .ret (.lst [(.bin .sub (.var 2) (.bin .pow (.con (.int 10)) (.con (.int 18)))), (.var 3)])]⟩
def d31 : Df := ⟨"_law_take", ["deck", "many"], ["deck", "many", "taken"], [0], [.iff (.cmp .gt (.idx (.var 0) (.con (.int 0))) (.con (.int 0))) [.asg (.nm 2) (.bin .mod (.bi .int [(.idx (.var 0) (.con (.int 0)))]) (.var 1)), .sub 0 (.con (.int 0)) (.bin .fdiv (.idx (.var 0) (.con (.int 0))) (.var 1)), .ret (.var 2)] [], .sub 0 (.con (.int 1)) (.bin .mod (.bi .int [(.bin .add (.bin .mul (.idx (.var 0) (.con (.int 1))) (.con (.int 6364136223846793005))) (.con (.int 1442695040888963407)))]) (.bin .pow (.con (.int 2)) (.con (.int 64)))), .ret (.bin .mod (.bin .fdiv (.idx (.var 0) (.con (.int 1))) (.bin .pow (.con (.int 2)) (.con (.int 33)))) (.var 1))]⟩
def d32 : Df := ⟨"_law_gcd", ["u", "v"], ["u", "v"], [], [.whl (.cmp .ne (.var 1) (.con (.int 0))) [.par [0, 1] [(.var 1), (.bin .mod (.bi .int [(.var 0)]) (.var 1))]], .ret (.var 0)]⟩
def d33 : Df := ⟨"_law_pair", ["upper", "lower"], ["upper", "lower", "common"], [], [.asg (.nm 2) (.call 32 [(.bi .abs [(.var 0)]), (.bi .abs [(.var 1)])]), .iff (.cmp .lt (.var 1) (.con (.int 0))) [.asg (.nm 2) (.neg (.var 2))] [], .ret (.tup [(.bin .fdiv (.var 0) (.var 2)), (.bin .fdiv (.var 1) (.var 2))])]⟩
def d34 : Df := ⟨"_law_plus", ["u", "v"], ["u", "v"], [], [.ret (.call 33 [(.bin .add (.bin .mul (.idx (.var 0) (.con (.int 0))) (.idx (.var 1) (.con (.int 1)))) (.bin .mul (.idx (.var 1) (.con (.int 0))) (.idx (.var 0) (.con (.int 1))))), (.bin .mul (.idx (.var 0) (.con (.int 1))) (.idx (.var 1) (.con (.int 1))))])]⟩
def d35 : Df := ⟨"_law_times", ["u", "v"], ["u", "v"], [], [.ret (.call 33 [(.bin .mul (.idx (.var 0) (.con (.int 0))) (.idx (.var 1) (.con (.int 0)))), (.bin .mul (.idx (.var 0) (.con (.int 1))) (.idx (.var 1) (.con (.int 1))))])]⟩
def d36 : Df := ⟨"_law_less", ["u", "v"], ["u", "v"], [], [.ret (.cmp .lt (.bin .sub (.bin .mul (.idx (.var 0) (.con (.int 0))) (.idx (.var 1) (.con (.int 1)))) (.bin .mul (.idx (.var 1) (.con (.int 0))) (.idx (.var 0) (.con (.int 1))))) (.con (.int 0)))]⟩
def d37 : Df := ⟨"_law_same", ["found", "due"], ["found", "due", "at"], [], [.iff (.isi (.var 1) [.tuple, .list]) [.iff (.or (.cmp .ne (.isi (.var 0) [.tuple]) (.isi (.var 1) [.tuple])) (.cmp .ne (.isi (.var 0) [.list]) (.isi (.var 1) [.list]))) [.ret (.con (.bool false))] [], .iff (.cmp .ne (.bi .len [(.var 0)]) (.bi .len [(.var 1)])) [.ret (.con (.bool false))] [], .ret (.cmp .eq (.lc (.rng1 (.bi .len [(.var 1)])) (.nm 2) [2] (some (.not (.call 37 [(.idx (.var 0) (.var 2)), (.idx (.var 1) (.var 2))]))) (.var 2)) (.lst []))] [], .iff (.cmp .is (.var 1) (.con .none)) [.ret (.cmp .is (.var 0) (.con .none))] [], .iff (.isi (.var 1) [.str]) [.ret (.and (.isi (.var 0) [.str]) (.cmp .eq (.var 0) (.var 1)))] [], .iff (.or (.isi (.var 1) [.bool]) (.isi (.var 0) [.bool])) [.ret (.and (.isi (.var 1) [.bool]) (.and (.isi (.var 0) [.bool]) (.cmp .eq (.var 0) (.var 1))))] [], .ret (.and (.isi (.var 0) [.int]) (.cmp .eq (.var 0) (.var 1)))]⟩
def d38 : Df := ⟨"_law_det", ["grid"], ["grid"], [], [.ret (.bin .sub (.bin .mul (.idx (.idx (.var 0) (.con (.int 0))) (.con (.int 0))) (.idx (.idx (.var 0) (.con (.int 1))) (.con (.int 1)))) (.bin .mul (.idx (.idx (.var 0) (.con (.int 0))) (.con (.int 1))) (.idx (.idx (.var 0) (.con (.int 1))) (.con (.int 0)))))]⟩
def d39 : Df := ⟨"_law_growing", ["grid"], ["grid", "size", "corners"], [], [.par [1, 2] [(.call 38 [(.var 0)]), (.bin .add (.idx (.idx (.var 0) (.con (.int 0))) (.con (.int 0))) (.idx (.idx (.var 0) (.con (.int 1))) (.con (.int 1))))], .iff (.cmp .gt (.var 1) (.con (.int 0))) [.ret (.and (.cmp .gt (.var 1) (.con (.int 1))) (.cmp .le (.bi .abs [(.var 2)]) (.var 1)))] [], .ret (.and (.cmp .lt (.var 1) (.neg (.con (.int 1)))) (.cmp .le (.bi .abs [(.var 2)]) (.bin .sub (.neg (.var 1)) (.con (.int 2)))))]⟩
def d40 : Df := ⟨"_law_grid", ["deck"], ["deck", "some", "grid", "cells", "drawn", "j"], [0], [.asg (.nm 1) (.lst [(.tup [(.tup [(.con (.int 2)), (.con (.int 0))]), (.tup [(.con (.int 0)), (.con (.int 2))])]), (.tup [(.tup [(.con (.int 3)), (.con (.int 0))]), (.tup [(.con (.int 0)), (.con (.int 3))])]), (.tup [(.tup [(.con (.int 1)), (.neg (.con (.int 1)))]), (.tup [(.con (.int 1)), (.con (.int 1))])]), (.tup [(.tup [(.con (.int 0)), (.con (.int 2))]), (.tup [(.con (.int 1)), (.con (.int 0))])]), (.tup [(.tup [(.con (.int 0)), (.neg (.con (.int 2)))]), (.tup [(.con (.int 1)), (.con (.int 1))])]), (.tup [(.tup [(.con (.int 2)), (.con (.int 0))]), (.tup [(.con (.int 0)), (.neg (.con (.int 3)))])])]), .asg (.nm 1) (.bin .add (.var 1) (.lst [(.tup [(.tup [(.con (.int 0)), (.neg (.con (.int 3)))]), (.tup [(.con (.int 2)), (.con (.int 0))])]), (.tup [(.tup [(.con (.int 1)), (.con (.int 1))]), (.tup [(.neg (.con (.int 1))), (.con (.int 2))])]), (.tup [(.tup [(.con (.int 2)), (.con (.int 1))]), (.tup [(.con (.int 0)), (.con (.int 2))])]), (.tup [(.tup [(.neg (.con (.int 1))), (.neg (.con (.int 2)))]), (.tup [(.con (.int 1)), (.neg (.con (.int 1)))])]), (.tup [(.tup [(.con (.int 0)), (.con (.int 3))]), (.tup [(.con (.int 1)), (.neg (.con (.int 1)))])])])), .asg (.nm 2) (.idx (.var 1) (.call 31 [(.var 0), (.con (.int 11))])), .iff (.cmp .eq (.call 31 [(.var 0), (.con (.int 2))]) (.con (.int 1))) [.asg (.nm 3) (.lc (.rng1 (.con (.int 4))) (.nm 5) [5] none (.bin .sub (.call 31 [(.var 0), (.con (.int 7))]) (.con (.int 3)))), .asg (.nm 4) (.tup [(.tup [(.idx (.var 3) (.con (.int 0))), (.idx (.var 3) (.con (.int 1)))]), (.tup [(.idx (.var 3) (.con (.int 2))), (.idx (.var 3) (.con (.int 3)))])]), .iff (.and (.call 39 [(.var 4)]) (.cmp .lt (.bi .abs [(.call 38 [(.var 4)])]) (.con (.int 10)))) [.asg (.nm 2) (.var 4)] []] [], .ret (.var 2)]⟩
def d41 : Df := ⟨"_law_ahead", ["grid", "away"], ["grid", "away"], [], [.ret (.tup [(.bin .add (.bin .mul (.idx (.idx (.var 0) (.con (.int 0))) (.con (.int 0))) (.idx (.var 1) (.con (.int 0)))) (.bin .mul (.idx (.idx (.var 0) (.con (.int 0))) (.con (.int 1))) (.idx (.var 1) (.con (.int 1))))), (.bin .add (.bin .mul (.idx (.idx (.var 0) (.con (.int 1))) (.con (.int 0))) (.idx (.var 1) (.con (.int 0)))) (.bin .mul (.idx (.idx (.var 0) (.con (.int 1))) (.con (.int 1))) (.idx (.var 1) (.con (.int 1)))))])]⟩
def d42 : Df := ⟨"_law_add", ["first", "second"], ["first", "second"], [], [.ret (.tup [(.bin .add (.idx (.var 0) (.con (.int 0))) (.idx (.var 1) (.con (.int 0)))), (.bin .add (.idx (.var 0) (.con (.int 1))) (.idx (.var 1) (.con (.int 1))))])]⟩
def d43 : Df := ⟨"_law_gear", ["deck", "grid", "spots", "most", "far"], ["deck", "grid", "spots", "most", "far", "j", "many", "found", "rows", "h", "step"], [0], [.par [6, 7] [(.bin .add (.con (.int 1)) (.call 31 [(.var 0), (.var 2)])), (.lst [])], .for (.rng1 (.var 6)) (.nm 5) [.asg (.nm 8) .dct, .for (.rng1 (.bin .add (.con (.int 1)) (.call 31 [(.var 0), (.var 3)]))) (.nm 9) [.asg (.nm 10) (.tup [(.bin .sub (.call 31 [(.var 0), (.bin .add (.bin .mul (.con (.int 2)) (.var 4)) (.con (.int 1)))]) (.var 4)), (.bin .sub (.call 31 [(.var 0), (.bin .add (.bin .mul (.con (.int 2)) (.var 4)) (.con (.int 1)))]) (.var 4))]), .sub 8 (.tup [(.var 10), (.call 31 [(.var 0), (.var 6)])]) (.con (.bool true))], .exp (.app 7 (.bi .tuple [(.bi .sorted [(.var 8)])]))], .ret (.tup [(.var 1), (.bi .tuple [(.var 7)])])]⟩
def d44 : Df := ⟨"_law_solved", ["grid", "spot"], ["grid", "spot", "size", "first", "second"], [], [.asg (.nm 2) (.call 38 [(.var 0)]), .asg (.nm 3) (.call 34 [(.call 35 [(.tup [(.idx (.idx (.var 0) (.con (.int 1))) (.con (.int 1))), (.con (.int 1))]), (.idx (.var 1) (.con (.int 0)))]), (.call 35 [(.tup [(.neg (.idx (.idx (.var 0) (.con (.int 0))) (.con (.int 1)))), (.con (.int 1))]), (.idx (.var 1) (.con (.int 1)))])]), .asg (.nm 4) (.call 34 [(.call 35 [(.tup [(.idx (.idx (.var 0) (.con (.int 0))) (.con (.int 0))), (.con (.int 1))]), (.idx (.var 1) (.con (.int 1)))]), (.call 35 [(.tup [(.neg (.idx (.idx (.var 0) (.con (.int 1))) (.con (.int 0)))), (.con (.int 1))]), (.idx (.var 1) (.con (.int 0)))])]), .ret (.tup [(.call 33 [(.idx (.var 3) (.con (.int 0))), (.bin .mul (.idx (.var 3) (.con (.int 1))) (.var 2))]), (.call 33 [(.idx (.var 4) (.con (.int 0))), (.bin .mul (.idx (.var 4) (.con (.int 1))) (.var 2))])])]⟩
def d45 : Df := ⟨"_law_size", ["rows"], ["rows", "first", "second"], [], [.asg (.nm 1) (.call 34 [(.tup [(.bi .abs [(.idx (.idx (.idx (.var 0) (.con (.int 0))) (.con (.int 0))) (.con (.int 0)))]), (.idx (.idx (.idx (.var 0) (.con (.int 0))) (.con (.int 0))) (.con (.int 1)))]), (.tup [(.bi .abs [(.idx (.idx (.idx (.var 0) (.con (.int 0))) (.con (.int 1))) (.con (.int 0)))]), (.idx (.idx (.idx (.var 0) (.con (.int 0))) (.con (.int 1))) (.con (.int 1)))])]), .asg (.nm 2) (.call 34 [(.tup [(.bi .abs [(.idx (.idx (.idx (.var 0) (.con (.int 1))) (.con (.int 0))) (.con (.int 0)))]), (.idx (.idx (.idx (.var 0) (.con (.int 1))) (.con (.int 0))) (.con (.int 1)))]), (.tup [(.bi .abs [(.idx (.idx (.idx (.var 0) (.con (.int 1))) (.con (.int 1))) (.con (.int 0)))]), (.idx (.idx (.idx (.var 0) (.con (.int 1))) (.con (.int 1))) (.con (.int 1)))])]), .ret (.ite (.call 36 [(.var 1), (.var 2)]) (.var 2) (.var 1))]⟩
def d46 : Df := ⟨"_law_row", ["rows", "row"], ["rows", "row", "left"], [], [.asg (.nm 2) (.call 34 [(.call 35 [(.idx (.var 1) (.con (.int 0))), (.idx (.idx (.var 0) (.con (.int 0))) (.con (.int 0)))]), (.call 35 [(.idx (.var 1) (.con (.int 1))), (.idx (.idx (.var 0) (.con (.int 1))) (.con (.int 0)))])]), .ret (.tup [(.var 2), (.call 34 [(.call 35 [(.idx (.var 1) (.con (.int 0))), (.idx (.idx (.var 0) (.con (.int 0))) (.con (.int 1)))]), (.call 35 [(.idx (.var 1) (.con (.int 1))), (.idx (.idx (.var 0) (.con (.int 1))) (.con (.int 1)))])])])]⟩
def d47 : Df := ⟨"_law_reach", ["gear"], ["gear", "bottom", "last", "turn", "most", "copies", "told_one", "grid", "size", "rows", "whole", "upper", "lower", "copy"], [], [.par [7, 8] [(.idx (.var 0) (.con (.int 0))), (.call 38 [(.idx (.var 0) (.con (.int 0)))])], .asg (.nm 1) (.tup [(.tup [(.call 33 [(.idx (.idx (.var 7) (.con (.int 1))) (.con (.int 1))), (.var 8)]), (.call 33 [(.neg (.idx (.idx (.var 7) (.con (.int 0))) (.con (.int 1)))), (.var 8)])]), (.tup [(.call 33 [(.neg (.idx (.idx (.var 7) (.con (.int 1))) (.con (.int 0)))), (.var 8)]), (.call 33 [(.idx (.idx (.var 7) (.con (.int 0))) (.con (.int 0))), (.var 8)])])]), .par [9, 10] [(.var 1), (.call 45 [(.var 1)])], .asg (.nm 2) (.var 10), .for (.rng1 (.con (.int 400))) (.nm 3) [.iff (.call 36 [(.var 2), (.tup [(.con (.int 1)), (.con (.int 1))])]) [.brk] [], .asg (.nm 9) (.tup [(.call 46 [(.var 1), (.idx (.var 9) (.con (.int 0)))]), (.call 46 [(.var 1), (.idx (.var 9) (.con (.int 1)))])]), .asg (.nm 2) (.call 45 [(.var 9)]), .asg (.nm 10) (.call 34 [(.var 10), (.var 2)])], .asg (.nm 4) (.con (.int 0)), .for (.seq (.idx (.var 0) (.con (.int 1)))) (.nm 5) [.asg (.nm 4) (.bi .max [(.bin .add (.lst [(.var 4)]) (.lc (.seq (.var 5)) (.nm 13) [13] none (.bi .max2 [(.bi .abs [(.idx (.idx (.var 13) (.con (.int 0))) (.con (.int 0)))]), (.bi .abs [(.idx (.idx (.var 13) (.con (.int 0))) (.con (.int 1)))])])))])], .par [11, 12] [(.call 35 [(.var 10), (.tup [(.var 4), (.con (.int 1))])]), (.call 34 [(.tup [(.con (.int 1)), (.con (.int 1))]), (.tup [(.neg (.idx (.var 2) (.con (.int 0)))), (.idx (.var 2) (.con (.int 1)))])])], .asg (.nm 6) (.call 33 [(.bin .mul (.idx (.var 11) (.con (.int 0))) (.idx (.var 12) (.con (.int 1)))), (.bin .mul (.idx (.var 11) (.con (.int 1))) (.idx (.var 12) (.con (.int 0))))]), .ret (.neg (.bin .fdiv (.neg (.idx (.var 6) (.con (.int 0)))) (.idx (.var 6) (.con (.int 1)))))]⟩
def d48 : Df := ⟨"_law_led", ["gear", "spot"], ["gear", "spot", "found", "turn", "here", "copy"], [], [.asg (.nm 2) (.dct1 (.var 1) (.con (.bool true))), .for (.rng1 (.bi .len [(.idx (.var 0) (.con (.int 1)))])) (.nm 3) [.for (.seq (.bi .sorted [(.var 2)])) (.nm 4) [.for (.seq (.idx (.idx (.var 0) (.con (.int 1))) (.var 4))) (.nm 5) [.sub 2 (.idx (.var 5) (.con (.int 1))) (.con (.bool true))]]], .ret (.bi .tuple [(.bi .sorted [(.var 2)])])]⟩
def d49 : Df := ⟨"_law_point", ["deck", "gear", "spot"], ["deck", "gear", "spot", "first", "step", "place", "seen", "steps", "here", "copy", "away", "grid", "left", "right"], [0], [.par [6, 7, 8] [(.lst []), (.lst []), (.var 2)], .whl (.cmp .nin (.var 8) (.var 6)) [.exp (.app 6 (.var 8)), .asg (.nm 9) (.idx (.idx (.idx (.var 1) (.con (.int 1))) (.var 8)) (.call 31 [(.var 0), (.bi .len [(.idx (.idx (.var 1) (.con (.int 1))) (.var 8))])])), .exp (.app 7 (.idx (.var 9) (.con (.int 0)))), .asg (.nm 8) (.idx (.var 9) (.con (.int 1)))], .asg (.nm 3) (.mth .index (.var 6) [(.var 8)]), .asg (.tp [(.nm 10), (.nm 11)]) (.tup [(.tup [(.con (.int 0)), (.con (.int 0))]), (.tup [(.tup [(.con (.int 1)), (.con (.int 0))]), (.tup [(.con (.int 0)), (.con (.int 1))])])]), .for (.seq (.slc (.var 7) (some (.var 3)) none)) (.nm 4) [.asg (.nm 10) (.call 42 [(.call 41 [(.idx (.var 1) (.con (.int 0))), (.var 10)]), (.var 4)]), .par [12, 13] [(.call 41 [(.idx (.var 1) (.con (.int 0))), (.tup [(.idx (.idx (.var 11) (.con (.int 0))) (.con (.int 0))), (.idx (.idx (.var 11) (.con (.int 1))) (.con (.int 0)))])]), (.call 41 [(.idx (.var 1) (.con (.int 0))), (.tup [(.idx (.idx (.var 11) (.con (.int 0))) (.con (.int 1))), (.idx (.idx (.var 11) (.con (.int 1))) (.con (.int 1)))])])], .asg (.nm 11) (.tup [(.tup [(.idx (.var 12) (.con (.int 0))), (.idx (.var 13) (.con (.int 0)))]), (.tup [(.idx (.var 12) (.con (.int 1))), (.idx (.var 13) (.con (.int 1)))])])], .asg (.nm 5) (.call 44 [(.tup [(.tup [(.bin .sub (.idx (.idx (.var 11) (.con (.int 0))) (.con (.int 0))) (.con (.int 1))), (.idx (.idx (.var 11) (.con (.int 0))) (.con (.int 1)))]), (.tup [(.idx (.idx (.var 11) (.con (.int 1))) (.con (.int 0))), (.bin .sub (.idx (.idx (.var 11) (.con (.int 1))) (.con (.int 1))) (.con (.int 1)))])]), (.tup [(.tup [(.idx (.var 10) (.con (.int 0))), (.con (.int 1))]), (.tup [(.idx (.var 10) (.con (.int 1))), (.con (.int 1))])])]), .for (.seq (.rev (.slc (.var 7) none (some (.var 3))))) (.nm 4) [.asg (.nm 5) (.call 44 [(.idx (.var 1) (.con (.int 0))), (.tup [(.call 34 [(.idx (.var 5) (.con (.int 0))), (.tup [(.idx (.var 4) (.con (.int 0))), (.con (.int 1))])]), (.call 34 [(.idx (.var 5) (.con (.int 1))), (.tup [(.idx (.var 4) (.con (.int 1))), (.con (.int 1))])])])])], .ret (.var 5)]⟩
def d50 : Df := ⟨"_law_right", ["deck"], ["deck", "gear", "due", "spot", "led", "turn", "place"], [0], [.asg (.nm 1) (.call 43 [(.var 0), (.call 40 [(.var 0)]), (.con (.int 4)), (.con (.int 6)), (.idx (.lst [(.con (.int 0)), (.con (.int 1)), (.con (.int 4))]) (.call 31 [(.var 0), (.con (.int 3))]))]), .asg (.nm 2) (.call 47 [(.var 1)]), .iff (.not (.call 37 [(.lst [(.call 27 [(.var 1)]), (.callk 27 1 [0] [] [(.var 1)])]), (.lst [(.var 2), (.var 2)])])) [.ret (.con (.bool false))] [], .asg (.nm 3) (.call 31 [(.var 0), (.bi .len [(.idx (.var 1) (.con (.int 1)))])]), .asg (.nm 4) (.call 48 [(.var 1), (.var 3)]), .iff (.not (.call 37 [(.lst [(.call 29 [(.var 1), (.var 3)]), (.callk 29 2 [1, 0] [] [(.var 3), (.var 1)])]), (.lst [(.var 4), (.var 4)])])) [.ret (.con (.bool false))] [], .for (.rng1 (.con (.int 4))) (.nm 5) [.asg (.nm 6) (.call 49 [(.var 0), (.var 1), (.call 31 [(.var 0), (.bi .len [(.idx (.var 1) (.con (.int 1)))])])]), .iff (.or (.call 36 [(.tup [(.var 2), (.con (.int 1))]), (.tup [(.bi .abs [(.idx (.idx (.var 6) (.con (.int 0))) (.con (.int 0)))]), (.idx (.idx (.var 6) (.con (.int 0))) (.con (.int 1)))])]) (.call 36 [(.tup [(.var 2), (.con (.int 1))]), (.tup [(.bi .abs [(.idx (.idx (.var 6) (.con (.int 1))) (.con (.int 0)))]), (.idx (.idx (.var 6) (.con (.int 1))) (.con (.int 1)))])])) [.ret (.con (.bool false))] []], .ret (.con (.bool true))]⟩
def d51 : Df := ⟨"law", ["script"], ["script", "at"], [], [.for (.rng1 (.bi .max2 [(.con (.int 2)), (.bi .min2 [(.bi .len [(.var 0)]), (.con (.int 12))])])) (.nm 1) [.iff (.not (.call1 50 (.call 30 [(.var 0), (.var 1)]))) [.ret (.con (.bool false))] []], .ret (.con (.bool true))]⟩
def ds : List (Df × Nat) := [(d0, 8), (d1, 9), (d2, 10), (d3, 11), (d4, 12), (d5, 13), (d6, 14), (d7, 15), (d8, 16), (d9, 17), (d10, 18), (d11, 19), (d12, 21), (d13, 22), (d14, 23), (d15, 24), (d16, 25), (d17, 27), (d18, 28), (d19, 29), (d20, 30), (d21, 31), (d22, 32), (d23, 33), (d24, 34), (d25, 35), (d26, 36), (d27, 37), (d28, 38), (d29, 39), (d30, 41), (d31, 42), (d32, 43), (d33, 44), (d34, 45), (d35, 46), (d36, 47), (d37, 48), (d38, 49), (d39, 50), (d40, 51), (d41, 52), (d42, 53), (d43, 54), (d44, 55), (d45, 56), (d46, 57), (d47, 58), (d48, 59), (d49, 60), (d50, 61), (d51, 62)]
def kws : List (Nat × Nat × List Str × List Nat) := [(27, 0, ["kit"], [0]), (29, 0, ["state", "kit"], [1, 0])]
def gls : List (Str × PyData) := [("ZERO", (.tuple [(.int 0), (.int 1)])), ("ONE", (.tuple [(.int 1), (.int 1)]))]
def bis : List String := ["abs", "all", "bool", "int", "isinstance", "len", "list", "max", "min", "range", "sorted", "str", "tuple"]
def pg : Prog := ⟨top, ds, kws, gls, bis, true⟩
section
variable {fu n : Nat}
theorem at0 : (Fns pg.gd fu pg.pc.ds n)[0]? = some ⟨1, [], pg.sem fu n 0⟩ := fns_at (p := pg) (q := (d0, 8)) rfl
theorem ev0 {as : En} {Q : Rv → En → Prop} (h : Ev (evB ⟨Fns pg.gd fu pg.pc.ds n, pg.gd, fu⟩ d0.body (as ++ List.replicate (1 - as.length) .non)) (Ret as Q)) : Ev (pg.sem fu (n + 1) 0 as) Q := Ev_def (p := pg) (q := (d0, 8)) rfl h
theorem at1 : (Fns pg.gd fu pg.pc.ds n)[1]? = some ⟨1, [], pg.sem fu n 1⟩ := fns_at (p := pg) (q := (d1, 9)) rfl
theorem ev1 {as : En} {Q : Rv → En → Prop} (h : Ev (evB ⟨Fns pg.gd fu pg.pc.ds n, pg.gd, fu⟩ d1.body (as ++ List.replicate (1 - as.length) .non)) (Ret as Q)) : Ev (pg.sem fu (n + 1) 1 as) Q := Ev_def (p := pg) (q := (d1, 9)) rfl h
theorem at2 : (Fns pg.gd fu pg.pc.ds n)[2]? = some ⟨1, [], pg.sem fu n 2⟩ := fns_at (p := pg) (q := (d2, 10)) rfl
theorem ev2 {as : En} {Q : Rv → En → Prop} (h : Ev (evB ⟨Fns pg.gd fu pg.pc.ds n, pg.gd, fu⟩ d2.body (as ++ List.replicate (2 - as.length) .non)) (Ret as Q)) : Ev (pg.sem fu (n + 1) 2 as) Q := Ev_def (p := pg) (q := (d2, 10)) rfl h
theorem at3 : (Fns pg.gd fu pg.pc.ds n)[3]? = some ⟨2, [], pg.sem fu n 3⟩ := fns_at (p := pg) (q := (d3, 11)) rfl
theorem ev3 {as : En} {Q : Rv → En → Prop} (h : Ev (evB ⟨Fns pg.gd fu pg.pc.ds n, pg.gd, fu⟩ d3.body (as ++ List.replicate (3 - as.length) .non)) (Ret as Q)) : Ev (pg.sem fu (n + 1) 3 as) Q := Ev_def (p := pg) (q := (d3, 11)) rfl h
theorem at4 : (Fns pg.gd fu pg.pc.ds n)[4]? = some ⟨2, [], pg.sem fu n 4⟩ := fns_at (p := pg) (q := (d4, 12)) rfl
theorem ev4 {as : En} {Q : Rv → En → Prop} (h : Ev (evB ⟨Fns pg.gd fu pg.pc.ds n, pg.gd, fu⟩ d4.body (as ++ List.replicate (2 - as.length) .non)) (Ret as Q)) : Ev (pg.sem fu (n + 1) 4 as) Q := Ev_def (p := pg) (q := (d4, 12)) rfl h
theorem at5 : (Fns pg.gd fu pg.pc.ds n)[5]? = some ⟨1, [], pg.sem fu n 5⟩ := fns_at (p := pg) (q := (d5, 13)) rfl
theorem ev5 {as : En} {Q : Rv → En → Prop} (h : Ev (evB ⟨Fns pg.gd fu pg.pc.ds n, pg.gd, fu⟩ d5.body (as ++ List.replicate (1 - as.length) .non)) (Ret as Q)) : Ev (pg.sem fu (n + 1) 5 as) Q := Ev_def (p := pg) (q := (d5, 13)) rfl h
theorem at6 : (Fns pg.gd fu pg.pc.ds n)[6]? = some ⟨2, [], pg.sem fu n 6⟩ := fns_at (p := pg) (q := (d6, 14)) rfl
theorem ev6 {as : En} {Q : Rv → En → Prop} (h : Ev (evB ⟨Fns pg.gd fu pg.pc.ds n, pg.gd, fu⟩ d6.body (as ++ List.replicate (2 - as.length) .non)) (Ret as Q)) : Ev (pg.sem fu (n + 1) 6 as) Q := Ev_def (p := pg) (q := (d6, 14)) rfl h
theorem at7 : (Fns pg.gd fu pg.pc.ds n)[7]? = some ⟨2, [], pg.sem fu n 7⟩ := fns_at (p := pg) (q := (d7, 15)) rfl
theorem ev7 {as : En} {Q : Rv → En → Prop} (h : Ev (evB ⟨Fns pg.gd fu pg.pc.ds n, pg.gd, fu⟩ d7.body (as ++ List.replicate (2 - as.length) .non)) (Ret as Q)) : Ev (pg.sem fu (n + 1) 7 as) Q := Ev_def (p := pg) (q := (d7, 15)) rfl h
theorem at8 : (Fns pg.gd fu pg.pc.ds n)[8]? = some ⟨2, [], pg.sem fu n 8⟩ := fns_at (p := pg) (q := (d8, 16)) rfl
theorem ev8 {as : En} {Q : Rv → En → Prop} (h : Ev (evB ⟨Fns pg.gd fu pg.pc.ds n, pg.gd, fu⟩ d8.body (as ++ List.replicate (2 - as.length) .non)) (Ret as Q)) : Ev (pg.sem fu (n + 1) 8 as) Q := Ev_def (p := pg) (q := (d8, 16)) rfl h
theorem at9 : (Fns pg.gd fu pg.pc.ds n)[9]? = some ⟨2, [], pg.sem fu n 9⟩ := fns_at (p := pg) (q := (d9, 17)) rfl
theorem ev9 {as : En} {Q : Rv → En → Prop} (h : Ev (evB ⟨Fns pg.gd fu pg.pc.ds n, pg.gd, fu⟩ d9.body (as ++ List.replicate (2 - as.length) .non)) (Ret as Q)) : Ev (pg.sem fu (n + 1) 9 as) Q := Ev_def (p := pg) (q := (d9, 17)) rfl h
theorem at10 : (Fns pg.gd fu pg.pc.ds n)[10]? = some ⟨1, [], pg.sem fu n 10⟩ := fns_at (p := pg) (q := (d10, 18)) rfl
theorem ev10 {as : En} {Q : Rv → En → Prop} (h : Ev (evB ⟨Fns pg.gd fu pg.pc.ds n, pg.gd, fu⟩ d10.body (as ++ List.replicate (1 - as.length) .non)) (Ret as Q)) : Ev (pg.sem fu (n + 1) 10 as) Q := Ev_def (p := pg) (q := (d10, 18)) rfl h
theorem at11 : (Fns pg.gd fu pg.pc.ds n)[11]? = some ⟨2, [], pg.sem fu n 11⟩ := fns_at (p := pg) (q := (d11, 19)) rfl
theorem ev11 {as : En} {Q : Rv → En → Prop} (h : Ev (evB ⟨Fns pg.gd fu pg.pc.ds n, pg.gd, fu⟩ d11.body (as ++ List.replicate (2 - as.length) .non)) (Ret as Q)) : Ev (pg.sem fu (n + 1) 11 as) Q := Ev_def (p := pg) (q := (d11, 19)) rfl h
theorem at12 : (Fns pg.gd fu pg.pc.ds n)[12]? = some ⟨1, [], pg.sem fu n 12⟩ := fns_at (p := pg) (q := (d12, 21)) rfl
theorem ev12 {as : En} {Q : Rv → En → Prop} (h : Ev (evB ⟨Fns pg.gd fu pg.pc.ds n, pg.gd, fu⟩ d12.body (as ++ List.replicate (1 - as.length) .non)) (Ret as Q)) : Ev (pg.sem fu (n + 1) 12 as) Q := Ev_def (p := pg) (q := (d12, 21)) rfl h
theorem at13 : (Fns pg.gd fu pg.pc.ds n)[13]? = some ⟨1, [], pg.sem fu n 13⟩ := fns_at (p := pg) (q := (d13, 22)) rfl
theorem ev13 {as : En} {Q : Rv → En → Prop} (h : Ev (evB ⟨Fns pg.gd fu pg.pc.ds n, pg.gd, fu⟩ d13.body (as ++ List.replicate (1 - as.length) .non)) (Ret as Q)) : Ev (pg.sem fu (n + 1) 13 as) Q := Ev_def (p := pg) (q := (d13, 22)) rfl h
theorem at14 : (Fns pg.gd fu pg.pc.ds n)[14]? = some ⟨1, [], pg.sem fu n 14⟩ := fns_at (p := pg) (q := (d14, 23)) rfl
theorem ev14 {as : En} {Q : Rv → En → Prop} (h : Ev (evB ⟨Fns pg.gd fu pg.pc.ds n, pg.gd, fu⟩ d14.body (as ++ List.replicate (1 - as.length) .non)) (Ret as Q)) : Ev (pg.sem fu (n + 1) 14 as) Q := Ev_def (p := pg) (q := (d14, 23)) rfl h
theorem at15 : (Fns pg.gd fu pg.pc.ds n)[15]? = some ⟨2, [], pg.sem fu n 15⟩ := fns_at (p := pg) (q := (d15, 24)) rfl
theorem ev15 {as : En} {Q : Rv → En → Prop} (h : Ev (evB ⟨Fns pg.gd fu pg.pc.ds n, pg.gd, fu⟩ d15.body (as ++ List.replicate (11 - as.length) .non)) (Ret as Q)) : Ev (pg.sem fu (n + 1) 15 as) Q := Ev_def (p := pg) (q := (d15, 24)) rfl h
theorem at16 : (Fns pg.gd fu pg.pc.ds n)[16]? = some ⟨1, [], pg.sem fu n 16⟩ := fns_at (p := pg) (q := (d16, 25)) rfl
theorem ev16 {as : En} {Q : Rv → En → Prop} (h : Ev (evB ⟨Fns pg.gd fu pg.pc.ds n, pg.gd, fu⟩ d16.body (as ++ List.replicate (3 - as.length) .non)) (Ret as Q)) : Ev (pg.sem fu (n + 1) 16 as) Q := Ev_def (p := pg) (q := (d16, 25)) rfl h
theorem at17 : (Fns pg.gd fu pg.pc.ds n)[17]? = some ⟨2, [], pg.sem fu n 17⟩ := fns_at (p := pg) (q := (d17, 27)) rfl
theorem ev17 {as : En} {Q : Rv → En → Prop} (h : Ev (evB ⟨Fns pg.gd fu pg.pc.ds n, pg.gd, fu⟩ d17.body (as ++ List.replicate (2 - as.length) .non)) (Ret as Q)) : Ev (pg.sem fu (n + 1) 17 as) Q := Ev_def (p := pg) (q := (d17, 27)) rfl h
theorem at18 : (Fns pg.gd fu pg.pc.ds n)[18]? = some ⟨2, [], pg.sem fu n 18⟩ := fns_at (p := pg) (q := (d18, 28)) rfl
theorem ev18 {as : En} {Q : Rv → En → Prop} (h : Ev (evB ⟨Fns pg.gd fu pg.pc.ds n, pg.gd, fu⟩ d18.body (as ++ List.replicate (3 - as.length) .non)) (Ret as Q)) : Ev (pg.sem fu (n + 1) 18 as) Q := Ev_def (p := pg) (q := (d18, 28)) rfl h
theorem at19 : (Fns pg.gd fu pg.pc.ds n)[19]? = some ⟨1, [], pg.sem fu n 19⟩ := fns_at (p := pg) (q := (d19, 29)) rfl
theorem ev19 {as : En} {Q : Rv → En → Prop} (h : Ev (evB ⟨Fns pg.gd fu pg.pc.ds n, pg.gd, fu⟩ d19.body (as ++ List.replicate (2 - as.length) .non)) (Ret as Q)) : Ev (pg.sem fu (n + 1) 19 as) Q := Ev_def (p := pg) (q := (d19, 29)) rfl h
theorem at20 : (Fns pg.gd fu pg.pc.ds n)[20]? = some ⟨1, [], pg.sem fu n 20⟩ := fns_at (p := pg) (q := (d20, 30)) rfl
theorem ev20 {as : En} {Q : Rv → En → Prop} (h : Ev (evB ⟨Fns pg.gd fu pg.pc.ds n, pg.gd, fu⟩ d20.body (as ++ List.replicate (1 - as.length) .non)) (Ret as Q)) : Ev (pg.sem fu (n + 1) 20 as) Q := Ev_def (p := pg) (q := (d20, 30)) rfl h
theorem at21 : (Fns pg.gd fu pg.pc.ds n)[21]? = some ⟨2, [], pg.sem fu n 21⟩ := fns_at (p := pg) (q := (d21, 31)) rfl
theorem ev21 {as : En} {Q : Rv → En → Prop} (h : Ev (evB ⟨Fns pg.gd fu pg.pc.ds n, pg.gd, fu⟩ d21.body (as ++ List.replicate (2 - as.length) .non)) (Ret as Q)) : Ev (pg.sem fu (n + 1) 21 as) Q := Ev_def (p := pg) (q := (d21, 31)) rfl h
theorem at22 : (Fns pg.gd fu pg.pc.ds n)[22]? = some ⟨1, [], pg.sem fu n 22⟩ := fns_at (p := pg) (q := (d22, 32)) rfl
theorem ev22 {as : En} {Q : Rv → En → Prop} (h : Ev (evB ⟨Fns pg.gd fu pg.pc.ds n, pg.gd, fu⟩ d22.body (as ++ List.replicate (3 - as.length) .non)) (Ret as Q)) : Ev (pg.sem fu (n + 1) 22 as) Q := Ev_def (p := pg) (q := (d22, 32)) rfl h
theorem at23 : (Fns pg.gd fu pg.pc.ds n)[23]? = some ⟨2, [], pg.sem fu n 23⟩ := fns_at (p := pg) (q := (d23, 33)) rfl
theorem ev23 {as : En} {Q : Rv → En → Prop} (h : Ev (evB ⟨Fns pg.gd fu pg.pc.ds n, pg.gd, fu⟩ d23.body (as ++ List.replicate (7 - as.length) .non)) (Ret as Q)) : Ev (pg.sem fu (n + 1) 23 as) Q := Ev_def (p := pg) (q := (d23, 33)) rfl h
theorem at24 : (Fns pg.gd fu pg.pc.ds n)[24]? = some ⟨1, [], pg.sem fu n 24⟩ := fns_at (p := pg) (q := (d24, 34)) rfl
theorem ev24 {as : En} {Q : Rv → En → Prop} (h : Ev (evB ⟨Fns pg.gd fu pg.pc.ds n, pg.gd, fu⟩ d24.body (as ++ List.replicate (3 - as.length) .non)) (Ret as Q)) : Ev (pg.sem fu (n + 1) 24 as) Q := Ev_def (p := pg) (q := (d24, 34)) rfl h
theorem at25 : (Fns pg.gd fu pg.pc.ds n)[25]? = some ⟨1, [], pg.sem fu n 25⟩ := fns_at (p := pg) (q := (d25, 35)) rfl
theorem ev25 {as : En} {Q : Rv → En → Prop} (h : Ev (evB ⟨Fns pg.gd fu pg.pc.ds n, pg.gd, fu⟩ d25.body (as ++ List.replicate (5 - as.length) .non)) (Ret as Q)) : Ev (pg.sem fu (n + 1) 25 as) Q := Ev_def (p := pg) (q := (d25, 35)) rfl h
theorem at26 : (Fns pg.gd fu pg.pc.ds n)[26]? = some ⟨1, [], pg.sem fu n 26⟩ := fns_at (p := pg) (q := (d26, 36)) rfl
theorem ev26 {as : En} {Q : Rv → En → Prop} (h : Ev (evB ⟨Fns pg.gd fu pg.pc.ds n, pg.gd, fu⟩ d26.body (as ++ List.replicate (7 - as.length) .non)) (Ret as Q)) : Ev (pg.sem fu (n + 1) 26 as) Q := Ev_def (p := pg) (q := (d26, 36)) rfl h
theorem at27 : (Fns pg.gd fu pg.pc.ds n)[27]? = some ⟨1, [], pg.sem fu n 27⟩ := fns_at (p := pg) (q := (d27, 37)) rfl
theorem ev27 {as : En} {Q : Rv → En → Prop} (h : Ev (evB ⟨Fns pg.gd fu pg.pc.ds n, pg.gd, fu⟩ d27.body (as ++ List.replicate (1 - as.length) .non)) (Ret as Q)) : Ev (pg.sem fu (n + 1) 27 as) Q := Ev_def (p := pg) (q := (d27, 37)) rfl h
theorem at28 : (Fns pg.gd fu pg.pc.ds n)[28]? = some ⟨2, [], pg.sem fu n 28⟩ := fns_at (p := pg) (q := (d28, 38)) rfl
theorem ev28 {as : En} {Q : Rv → En → Prop} (h : Ev (evB ⟨Fns pg.gd fu pg.pc.ds n, pg.gd, fu⟩ d28.body (as ++ List.replicate (6 - as.length) .non)) (Ret as Q)) : Ev (pg.sem fu (n + 1) 28 as) Q := Ev_def (p := pg) (q := (d28, 38)) rfl h
theorem at29 : (Fns pg.gd fu pg.pc.ds n)[29]? = some ⟨2, [], pg.sem fu n 29⟩ := fns_at (p := pg) (q := (d29, 39)) rfl
theorem ev29 {as : En} {Q : Rv → En → Prop} (h : Ev (evB ⟨Fns pg.gd fu pg.pc.ds n, pg.gd, fu⟩ d29.body (as ++ List.replicate (2 - as.length) .non)) (Ret as Q)) : Ev (pg.sem fu (n + 1) 29 as) Q := Ev_def (p := pg) (q := (d29, 39)) rfl h
theorem at30 : (Fns pg.gd fu pg.pc.ds n)[30]? = some ⟨2, [], pg.sem fu n 30⟩ := fns_at (p := pg) (q := (d30, 41)) rfl
theorem ev30 {as : En} {Q : Rv → En → Prop} (h : Ev (evB ⟨Fns pg.gd fu pg.pc.ds n, pg.gd, fu⟩ d30.body (as ++ List.replicate (4 - as.length) .non)) (Ret as Q)) : Ev (pg.sem fu (n + 1) 30 as) Q := Ev_def (p := pg) (q := (d30, 41)) rfl h
theorem at31 : (Fns pg.gd fu pg.pc.ds n)[31]? = some ⟨2, [0], pg.sem fu n 31⟩ := fns_at (p := pg) (q := (d31, 42)) rfl
theorem ev31 {as : En} {Q : Rv → En → Prop} (h : Ev (evB ⟨Fns pg.gd fu pg.pc.ds n, pg.gd, fu⟩ d31.body (as ++ List.replicate (3 - as.length) .non)) (Ret as Q)) : Ev (pg.sem fu (n + 1) 31 as) Q := Ev_def (p := pg) (q := (d31, 42)) rfl h
theorem at32 : (Fns pg.gd fu pg.pc.ds n)[32]? = some ⟨2, [], pg.sem fu n 32⟩ := fns_at (p := pg) (q := (d32, 43)) rfl
theorem ev32 {as : En} {Q : Rv → En → Prop} (h : Ev (evB ⟨Fns pg.gd fu pg.pc.ds n, pg.gd, fu⟩ d32.body (as ++ List.replicate (2 - as.length) .non)) (Ret as Q)) : Ev (pg.sem fu (n + 1) 32 as) Q := Ev_def (p := pg) (q := (d32, 43)) rfl h
theorem at33 : (Fns pg.gd fu pg.pc.ds n)[33]? = some ⟨2, [], pg.sem fu n 33⟩ := fns_at (p := pg) (q := (d33, 44)) rfl
theorem ev33 {as : En} {Q : Rv → En → Prop} (h : Ev (evB ⟨Fns pg.gd fu pg.pc.ds n, pg.gd, fu⟩ d33.body (as ++ List.replicate (3 - as.length) .non)) (Ret as Q)) : Ev (pg.sem fu (n + 1) 33 as) Q := Ev_def (p := pg) (q := (d33, 44)) rfl h
theorem at34 : (Fns pg.gd fu pg.pc.ds n)[34]? = some ⟨2, [], pg.sem fu n 34⟩ := fns_at (p := pg) (q := (d34, 45)) rfl
theorem ev34 {as : En} {Q : Rv → En → Prop} (h : Ev (evB ⟨Fns pg.gd fu pg.pc.ds n, pg.gd, fu⟩ d34.body (as ++ List.replicate (2 - as.length) .non)) (Ret as Q)) : Ev (pg.sem fu (n + 1) 34 as) Q := Ev_def (p := pg) (q := (d34, 45)) rfl h
theorem at35 : (Fns pg.gd fu pg.pc.ds n)[35]? = some ⟨2, [], pg.sem fu n 35⟩ := fns_at (p := pg) (q := (d35, 46)) rfl
theorem ev35 {as : En} {Q : Rv → En → Prop} (h : Ev (evB ⟨Fns pg.gd fu pg.pc.ds n, pg.gd, fu⟩ d35.body (as ++ List.replicate (2 - as.length) .non)) (Ret as Q)) : Ev (pg.sem fu (n + 1) 35 as) Q := Ev_def (p := pg) (q := (d35, 46)) rfl h
theorem at36 : (Fns pg.gd fu pg.pc.ds n)[36]? = some ⟨2, [], pg.sem fu n 36⟩ := fns_at (p := pg) (q := (d36, 47)) rfl
theorem ev36 {as : En} {Q : Rv → En → Prop} (h : Ev (evB ⟨Fns pg.gd fu pg.pc.ds n, pg.gd, fu⟩ d36.body (as ++ List.replicate (2 - as.length) .non)) (Ret as Q)) : Ev (pg.sem fu (n + 1) 36 as) Q := Ev_def (p := pg) (q := (d36, 47)) rfl h
theorem at37 : (Fns pg.gd fu pg.pc.ds n)[37]? = some ⟨2, [], pg.sem fu n 37⟩ := fns_at (p := pg) (q := (d37, 48)) rfl
theorem ev37 {as : En} {Q : Rv → En → Prop} (h : Ev (evB ⟨Fns pg.gd fu pg.pc.ds n, pg.gd, fu⟩ d37.body (as ++ List.replicate (3 - as.length) .non)) (Ret as Q)) : Ev (pg.sem fu (n + 1) 37 as) Q := Ev_def (p := pg) (q := (d37, 48)) rfl h
theorem at38 : (Fns pg.gd fu pg.pc.ds n)[38]? = some ⟨1, [], pg.sem fu n 38⟩ := fns_at (p := pg) (q := (d38, 49)) rfl
theorem ev38 {as : En} {Q : Rv → En → Prop} (h : Ev (evB ⟨Fns pg.gd fu pg.pc.ds n, pg.gd, fu⟩ d38.body (as ++ List.replicate (1 - as.length) .non)) (Ret as Q)) : Ev (pg.sem fu (n + 1) 38 as) Q := Ev_def (p := pg) (q := (d38, 49)) rfl h
theorem at39 : (Fns pg.gd fu pg.pc.ds n)[39]? = some ⟨1, [], pg.sem fu n 39⟩ := fns_at (p := pg) (q := (d39, 50)) rfl
theorem ev39 {as : En} {Q : Rv → En → Prop} (h : Ev (evB ⟨Fns pg.gd fu pg.pc.ds n, pg.gd, fu⟩ d39.body (as ++ List.replicate (3 - as.length) .non)) (Ret as Q)) : Ev (pg.sem fu (n + 1) 39 as) Q := Ev_def (p := pg) (q := (d39, 50)) rfl h
theorem at40 : (Fns pg.gd fu pg.pc.ds n)[40]? = some ⟨1, [0], pg.sem fu n 40⟩ := fns_at (p := pg) (q := (d40, 51)) rfl
theorem ev40 {as : En} {Q : Rv → En → Prop} (h : Ev (evB ⟨Fns pg.gd fu pg.pc.ds n, pg.gd, fu⟩ d40.body (as ++ List.replicate (6 - as.length) .non)) (Ret as Q)) : Ev (pg.sem fu (n + 1) 40 as) Q := Ev_def (p := pg) (q := (d40, 51)) rfl h
theorem at41 : (Fns pg.gd fu pg.pc.ds n)[41]? = some ⟨2, [], pg.sem fu n 41⟩ := fns_at (p := pg) (q := (d41, 52)) rfl
theorem ev41 {as : En} {Q : Rv → En → Prop} (h : Ev (evB ⟨Fns pg.gd fu pg.pc.ds n, pg.gd, fu⟩ d41.body (as ++ List.replicate (2 - as.length) .non)) (Ret as Q)) : Ev (pg.sem fu (n + 1) 41 as) Q := Ev_def (p := pg) (q := (d41, 52)) rfl h
theorem at42 : (Fns pg.gd fu pg.pc.ds n)[42]? = some ⟨2, [], pg.sem fu n 42⟩ := fns_at (p := pg) (q := (d42, 53)) rfl
theorem ev42 {as : En} {Q : Rv → En → Prop} (h : Ev (evB ⟨Fns pg.gd fu pg.pc.ds n, pg.gd, fu⟩ d42.body (as ++ List.replicate (2 - as.length) .non)) (Ret as Q)) : Ev (pg.sem fu (n + 1) 42 as) Q := Ev_def (p := pg) (q := (d42, 53)) rfl h
theorem at43 : (Fns pg.gd fu pg.pc.ds n)[43]? = some ⟨5, [0], pg.sem fu n 43⟩ := fns_at (p := pg) (q := (d43, 54)) rfl
theorem ev43 {as : En} {Q : Rv → En → Prop} (h : Ev (evB ⟨Fns pg.gd fu pg.pc.ds n, pg.gd, fu⟩ d43.body (as ++ List.replicate (11 - as.length) .non)) (Ret as Q)) : Ev (pg.sem fu (n + 1) 43 as) Q := Ev_def (p := pg) (q := (d43, 54)) rfl h
theorem at44 : (Fns pg.gd fu pg.pc.ds n)[44]? = some ⟨2, [], pg.sem fu n 44⟩ := fns_at (p := pg) (q := (d44, 55)) rfl
theorem ev44 {as : En} {Q : Rv → En → Prop} (h : Ev (evB ⟨Fns pg.gd fu pg.pc.ds n, pg.gd, fu⟩ d44.body (as ++ List.replicate (5 - as.length) .non)) (Ret as Q)) : Ev (pg.sem fu (n + 1) 44 as) Q := Ev_def (p := pg) (q := (d44, 55)) rfl h
theorem at45 : (Fns pg.gd fu pg.pc.ds n)[45]? = some ⟨1, [], pg.sem fu n 45⟩ := fns_at (p := pg) (q := (d45, 56)) rfl
theorem ev45 {as : En} {Q : Rv → En → Prop} (h : Ev (evB ⟨Fns pg.gd fu pg.pc.ds n, pg.gd, fu⟩ d45.body (as ++ List.replicate (3 - as.length) .non)) (Ret as Q)) : Ev (pg.sem fu (n + 1) 45 as) Q := Ev_def (p := pg) (q := (d45, 56)) rfl h
theorem at46 : (Fns pg.gd fu pg.pc.ds n)[46]? = some ⟨2, [], pg.sem fu n 46⟩ := fns_at (p := pg) (q := (d46, 57)) rfl
theorem ev46 {as : En} {Q : Rv → En → Prop} (h : Ev (evB ⟨Fns pg.gd fu pg.pc.ds n, pg.gd, fu⟩ d46.body (as ++ List.replicate (3 - as.length) .non)) (Ret as Q)) : Ev (pg.sem fu (n + 1) 46 as) Q := Ev_def (p := pg) (q := (d46, 57)) rfl h
theorem at47 : (Fns pg.gd fu pg.pc.ds n)[47]? = some ⟨1, [], pg.sem fu n 47⟩ := fns_at (p := pg) (q := (d47, 58)) rfl
theorem ev47 {as : En} {Q : Rv → En → Prop} (h : Ev (evB ⟨Fns pg.gd fu pg.pc.ds n, pg.gd, fu⟩ d47.body (as ++ List.replicate (14 - as.length) .non)) (Ret as Q)) : Ev (pg.sem fu (n + 1) 47 as) Q := Ev_def (p := pg) (q := (d47, 58)) rfl h
theorem at48 : (Fns pg.gd fu pg.pc.ds n)[48]? = some ⟨2, [], pg.sem fu n 48⟩ := fns_at (p := pg) (q := (d48, 59)) rfl
theorem ev48 {as : En} {Q : Rv → En → Prop} (h : Ev (evB ⟨Fns pg.gd fu pg.pc.ds n, pg.gd, fu⟩ d48.body (as ++ List.replicate (6 - as.length) .non)) (Ret as Q)) : Ev (pg.sem fu (n + 1) 48 as) Q := Ev_def (p := pg) (q := (d48, 59)) rfl h
theorem at49 : (Fns pg.gd fu pg.pc.ds n)[49]? = some ⟨3, [0], pg.sem fu n 49⟩ := fns_at (p := pg) (q := (d49, 60)) rfl
theorem ev49 {as : En} {Q : Rv → En → Prop} (h : Ev (evB ⟨Fns pg.gd fu pg.pc.ds n, pg.gd, fu⟩ d49.body (as ++ List.replicate (14 - as.length) .non)) (Ret as Q)) : Ev (pg.sem fu (n + 1) 49 as) Q := Ev_def (p := pg) (q := (d49, 60)) rfl h
theorem at50 : (Fns pg.gd fu pg.pc.ds n)[50]? = some ⟨1, [0], pg.sem fu n 50⟩ := fns_at (p := pg) (q := (d50, 61)) rfl
theorem ev50 {as : En} {Q : Rv → En → Prop} (h : Ev (evB ⟨Fns pg.gd fu pg.pc.ds n, pg.gd, fu⟩ d50.body (as ++ List.replicate (7 - as.length) .non)) (Ret as Q)) : Ev (pg.sem fu (n + 1) 50 as) Q := Ev_def (p := pg) (q := (d50, 61)) rfl h
theorem at51 : (Fns pg.gd fu pg.pc.ds n)[51]? = some ⟨1, [], pg.sem fu n 51⟩ := fns_at (p := pg) (q := (d51, 62)) rfl
theorem ev51 {as : En} {Q : Rv → En → Prop} (h : Ev (evB ⟨Fns pg.gd fu pg.pc.ds n, pg.gd, fu⟩ d51.body (as ++ List.replicate (2 - as.length) .non)) (Ret as Q)) : Ev (pg.sem fu (n + 1) 51 as) Q := Ev_def (p := pg) (q := (d51, 62)) rfl h
end
end Lw
set_option maxHeartbeats 0
namespace Lw
open PySem PySem.Spec PyProof.Rows L2 Vi
theorem chk : pg.chk = true := by decide +kernel
theorem b0 : BindD pg (d0, 8) := fun _ _ _ _ _ _ us hl => match us, hl with | [_], _ => rfl
theorem b1 : BindD pg (d1, 9) := fun _ _ _ _ _ _ us hl => match us, hl with | [_], _ => rfl
theorem b2 : BindD pg (d2, 10) := fun _ _ _ _ _ _ us hl => match us, hl with | [_], _ => rfl
theorem b3 : BindD pg (d3, 11) := fun _ _ _ _ _ _ us hl => match us, hl with | [_, _], _ => rfl
theorem b4 : BindD pg (d4, 12) := fun _ _ _ _ _ _ us hl => match us, hl with | [_, _], _ => rfl
theorem b5 : BindD pg (d5, 13) := fun _ _ _ _ _ _ us hl => match us, hl with | [_], _ => rfl
theorem b6 : BindD pg (d6, 14) := fun _ _ _ _ _ _ us hl => match us, hl with | [_, _], _ => rfl
theorem b7 : BindD pg (d7, 15) := fun _ _ _ _ _ _ us hl => match us, hl with | [_, _], _ => rfl
theorem b8 : BindD pg (d8, 16) := fun _ _ _ _ _ _ us hl => match us, hl with | [_, _], _ => rfl
theorem b9 : BindD pg (d9, 17) := fun _ _ _ _ _ _ us hl => match us, hl with | [_, _], _ => rfl
theorem b10 : BindD pg (d10, 18) := fun _ _ _ _ _ _ us hl => match us, hl with | [_], _ => rfl
theorem b11 : BindD pg (d11, 19) := fun _ _ _ _ _ _ us hl => match us, hl with | [_, _], _ => rfl
theorem b12 : BindD pg (d12, 21) := fun _ _ _ _ _ _ us hl => match us, hl with | [_], _ => rfl
theorem b13 : BindD pg (d13, 22) := fun _ _ _ _ _ _ us hl => match us, hl with | [_], _ => rfl
theorem b14 : BindD pg (d14, 23) := fun _ _ _ _ _ _ us hl => match us, hl with | [_], _ => rfl
theorem b15 : BindD pg (d15, 24) := fun _ _ _ _ _ _ us hl => match us, hl with | [_, _], _ => rfl
theorem b16 : BindD pg (d16, 25) := fun _ _ _ _ _ _ us hl => match us, hl with | [_], _ => rfl
theorem b17 : BindD pg (d17, 27) := fun _ _ _ _ _ _ us hl => match us, hl with | [_, _], _ => rfl
theorem b18 : BindD pg (d18, 28) := fun _ _ _ _ _ _ us hl => match us, hl with | [_, _], _ => rfl
theorem b19 : BindD pg (d19, 29) := fun _ _ _ _ _ _ us hl => match us, hl with | [_], _ => rfl
theorem b20 : BindD pg (d20, 30) := fun _ _ _ _ _ _ us hl => match us, hl with | [_], _ => rfl
theorem b21 : BindD pg (d21, 31) := fun _ _ _ _ _ _ us hl => match us, hl with | [_, _], _ => rfl
theorem b22 : BindD pg (d22, 32) := fun _ _ _ _ _ _ us hl => match us, hl with | [_], _ => rfl
theorem b23 : BindD pg (d23, 33) := fun _ _ _ _ _ _ us hl => match us, hl with | [_, _], _ => rfl
theorem b24 : BindD pg (d24, 34) := fun _ _ _ _ _ _ us hl => match us, hl with | [_], _ => rfl
theorem b25 : BindD pg (d25, 35) := fun _ _ _ _ _ _ us hl => match us, hl with | [_], _ => rfl
theorem b26 : BindD pg (d26, 36) := fun _ _ _ _ _ _ us hl => match us, hl with | [_], _ => rfl
theorem b27 : BindD pg (d27, 37) := fun _ _ _ _ _ _ us hl => match us, hl with | [_], _ => rfl
theorem b28 : BindD pg (d28, 38) := fun _ _ _ _ _ _ us hl => match us, hl with | [_, _], _ => rfl
theorem b29 : BindD pg (d29, 39) := fun _ _ _ _ _ _ us hl => match us, hl with | [_, _], _ => rfl
theorem b30 : BindD pg (d30, 41) := fun _ _ _ _ _ _ us hl => match us, hl with | [_, _], _ => rfl
theorem b31 : BindD pg (d31, 42) := fun _ _ _ _ _ _ us hl => match us, hl with | [_, _], _ => rfl
theorem b32 : BindD pg (d32, 43) := fun _ _ _ _ _ _ us hl => match us, hl with | [_, _], _ => rfl
theorem b33 : BindD pg (d33, 44) := fun _ _ _ _ _ _ us hl => match us, hl with | [_, _], _ => rfl
theorem b34 : BindD pg (d34, 45) := fun _ _ _ _ _ _ us hl => match us, hl with | [_, _], _ => rfl
theorem b35 : BindD pg (d35, 46) := fun _ _ _ _ _ _ us hl => match us, hl with | [_, _], _ => rfl
theorem b36 : BindD pg (d36, 47) := fun _ _ _ _ _ _ us hl => match us, hl with | [_, _], _ => rfl
theorem b37 : BindD pg (d37, 48) := fun _ _ _ _ _ _ us hl => match us, hl with | [_, _], _ => rfl
theorem b38 : BindD pg (d38, 49) := fun _ _ _ _ _ _ us hl => match us, hl with | [_], _ => rfl
theorem b39 : BindD pg (d39, 50) := fun _ _ _ _ _ _ us hl => match us, hl with | [_], _ => rfl
theorem b40 : BindD pg (d40, 51) := fun _ _ _ _ _ _ us hl => match us, hl with | [_], _ => rfl
theorem b41 : BindD pg (d41, 52) := fun _ _ _ _ _ _ us hl => match us, hl with | [_, _], _ => rfl
theorem b42 : BindD pg (d42, 53) := fun _ _ _ _ _ _ us hl => match us, hl with | [_, _], _ => rfl
theorem b43 : BindD pg (d43, 54) := fun _ _ _ _ _ _ us hl => match us, hl with | [_, _, _, _, _], _ => rfl
theorem b44 : BindD pg (d44, 55) := fun _ _ _ _ _ _ us hl => match us, hl with | [_, _], _ => rfl
theorem b45 : BindD pg (d45, 56) := fun _ _ _ _ _ _ us hl => match us, hl with | [_], _ => rfl
theorem b46 : BindD pg (d46, 57) := fun _ _ _ _ _ _ us hl => match us, hl with | [_, _], _ => rfl
theorem b47 : BindD pg (d47, 58) := fun _ _ _ _ _ _ us hl => match us, hl with | [_], _ => rfl
theorem b48 : BindD pg (d48, 59) := fun _ _ _ _ _ _ us hl => match us, hl with | [_, _], _ => rfl
theorem b49 : BindD pg (d49, 60) := fun _ _ _ _ _ _ us hl => match us, hl with | [_, _, _], _ => rfl
theorem b50 : BindD pg (d50, 61) := fun _ _ _ _ _ _ us hl => match us, hl with | [_], _ => rfl
theorem b51 : BindD pg (d51, 62) := fun _ _ _ _ _ _ us hl => match us, hl with | [_], _ => rfl
theorem k0 : BindK pg (27, 0, ["kit"], [0]) := fun q hq => by
  cases hq
  exact fun _ _ _ _ _ _ us ws h1 h2 => match us, ws, h1, h2 with | [], [_], _, _ => rfl
theorem k1 : BindK pg (29, 0, ["state", "kit"], [1, 0]) := fun q hq => by
  cases hq
  exact fun _ _ _ _ _ _ us ws h1 h2 => match us, ws, h1, h2 with | [], [_, _], _, _ => rfl
theorem bind : ∀ q ∈ pg.ds, BindD pg q := by
  have h : ∀ q ∈ ds, BindD pg q := by
    unfold ds
    refine List.forall_mem_cons.mpr ⟨b0, List.forall_mem_cons.mpr ⟨b1, List.forall_mem_cons.mpr ⟨b2, List.forall_mem_cons.mpr ⟨b3, List.forall_mem_cons.mpr ⟨b4, List.forall_mem_cons.mpr ⟨b5, List.forall_mem_cons.mpr ⟨b6, List.forall_mem_cons.mpr ⟨b7, List.forall_mem_cons.mpr ⟨b8, List.forall_mem_cons.mpr ⟨b9, List.forall_mem_cons.mpr ⟨b10, List.forall_mem_cons.mpr ⟨b11, List.forall_mem_cons.mpr ⟨b12, List.forall_mem_cons.mpr ⟨b13, List.forall_mem_cons.mpr ⟨b14, List.forall_mem_cons.mpr ⟨b15, List.forall_mem_cons.mpr ⟨b16, List.forall_mem_cons.mpr ⟨b17, List.forall_mem_cons.mpr ⟨b18, List.forall_mem_cons.mpr ⟨b19, List.forall_mem_cons.mpr ⟨b20, List.forall_mem_cons.mpr ⟨b21, List.forall_mem_cons.mpr ⟨b22, List.forall_mem_cons.mpr ⟨b23, List.forall_mem_cons.mpr ⟨b24, List.forall_mem_cons.mpr ⟨b25, List.forall_mem_cons.mpr ⟨b26, List.forall_mem_cons.mpr ⟨b27, List.forall_mem_cons.mpr ⟨b28, List.forall_mem_cons.mpr ⟨b29, List.forall_mem_cons.mpr ⟨b30, List.forall_mem_cons.mpr ⟨b31, List.forall_mem_cons.mpr ⟨b32, List.forall_mem_cons.mpr ⟨b33, List.forall_mem_cons.mpr ⟨b34, List.forall_mem_cons.mpr ⟨b35, List.forall_mem_cons.mpr ⟨b36, List.forall_mem_cons.mpr ⟨b37, List.forall_mem_cons.mpr ⟨b38, List.forall_mem_cons.mpr ⟨b39, List.forall_mem_cons.mpr ⟨b40, List.forall_mem_cons.mpr ⟨b41, List.forall_mem_cons.mpr ⟨b42, List.forall_mem_cons.mpr ⟨b43, List.forall_mem_cons.mpr ⟨b44, List.forall_mem_cons.mpr ⟨b45, List.forall_mem_cons.mpr ⟨b46, List.forall_mem_cons.mpr ⟨b47, List.forall_mem_cons.mpr ⟨b48, List.forall_mem_cons.mpr ⟨b49, List.forall_mem_cons.mpr ⟨b50, List.forall_mem_cons.mpr ⟨b51, fun _ h => nomatch h⟩⟩⟩⟩⟩⟩⟩⟩⟩⟩⟩⟩⟩⟩⟩⟩⟩⟩⟩⟩⟩⟩⟩⟩⟩⟩⟩⟩⟩⟩⟩⟩⟩⟩⟩⟩⟩⟩⟩⟩⟩⟩⟩⟩⟩⟩⟩⟩⟩⟩⟩⟩
  exact h
theorem bindk : ∀ k ∈ pg.kws, BindK pg k := by
  have h : ∀ k ∈ kws, BindK pg k := by
    unfold kws
    refine List.forall_mem_cons.mpr ⟨k0, List.forall_mem_cons.mpr ⟨k1, fun _ h => nomatch h⟩⟩
  exact h
def loose0 : List Str := ["gcd", "KitError", "InvalidKit", "InvalidState", "ZERO", "ONE", "is_integer", "is_pair", "is_ascending", "lowest", "sum_of_two", "opposite", "difference", "product_of", "quotient", "is_less", "size_of", "greater_of", "is_offset", "is_table", "determinant_of", "solved", "is_growing", "is_copy", "is_state", "is_kit", "check_kit", "check_state", "inverse_of", "product_of_numbers"]
def loose1 : List Str := ["size_of_numbers", "longest", "reach_of", "reach", "reached_of", "reached", "_law_deck", "_law_take", "_law_gcd", "_law_pair", "_law_plus", "_law_times", "_law_less", "_law_same", "_law_det", "_law_growing", "_law_grid", "_law_ahead", "_law_add", "_law_gear", "_law_solved", "_law_size", "_law_row", "_law_reach", "_law_led", "_law_point", "_law_right"]
def loose : List Str := loose0 ++ loose1
abbrev R : PySem.W.OpenRow := PySem.W.OpenLaw.row PySem.Challenge.rw_selfkits_k03_whole_reaches
abbrev hk : PySem.W.Hook := hookV 4 pg.fa pg.fn pg.ex
def ob (s : PySem.W.SharedT) : AlV := obsV 4 pg.fa pg.fn pg.ex (HandSHeadRun.getT s)
theorem ob_eq (s : PySem.W.SharedT) : ob s = hk.obs s.abs := obsV_eq (HandSHeadRun.getT_eq s)
theorem run (w : World) : HandSHeadRun.RunEqI R (PySem.W.view R.prog [0, 62]) hk ob 20000 loose w := by
  unfold HandSHeadRun.RunEqI
  kernel_rfl
def dflt : FuncData := PySem.W.fnOf "" "" (defArgs (top 62)) [] (defScope (top 62)) .none .none .none .none none .none .none
def lawIx : Nat := 51
end Lw
open PySem PySem.W PySem.Calls PyProof.Rows in
theorem Lw.holds_of (n fuel : Nat) (hr : L2.Room n callerA) (hlaw : ∀ ns : List Int, ns.length ≤ 63 → ∃ os, Vi.lawAns Lw.pg fuel n Lw.lawIx ns = some (.ok (.dat (.bool true)) os)) : PySem.Challenge.rw_selfkits_k03_whole_reaches.Holds := by
  w_on; o_law
  refine HandSHeadRun.head_imp (r := OpenLaw.row PySem.Challenge.rw_selfkits_k03_whole_reaches) (q := view (OpenLaw.row PySem.Challenge.rw_selfkits_k03_whole_reaches).prog [0, 62]) (H := Lw.hk) (ob := Lw.ob) (M := 20000) (loose := Lw.loose) (d := HandSHeadRun.topDef (OpenLaw.row PySem.Challenge.rw_selfkits_k03_whole_reaches).prog 62) (kwd := []) Lw.ob_eq
    Lw.run (by kernel_rfl) (by kernel_rfl) (by kernel_rfl) (by rfl) (by first | assumption | decide +kernel) (by decide +kernel) ⟨rfl, rfl, rfl, rfl, rfl, by decide +kernel⟩ ?hw ?hc
  case hw => w_witness2
  case hc => exact Vi.law_end (l := PySem.Challenge.rw_selfkits_k03_whole_reaches) (p := Lw.pg) (n := n) (fuel := fuel) (j := Lw.lawIx) (m := 63) (df := Lw.d51) (x := "script") rfl (by decide) (by kernel_rfl) hr Lw.chk Lw.bind Lw.bindk Lw.dflt rfl (by kernel_rfl) rfl hlaw
set_option maxHeartbeats 4000000
namespace Lw
open PySem Vi
variable {fu n : Nat}
abbrev I (i : Int) : PyData := .int i
abbrev T2 (a b : PyData) : PyData := .tuple [a, b]
abbrev Tb (a b c d : Int) : PyData := T2 (T2 (I a) (I b)) (T2 (I c) (I d))
abbrev P2 (p : Int × Int) : PyData := T2 (I p.1) (I p.2)
def low (a b : Int) : Int × Int := if b < 0 then (a.fdiv (-(Nat.gcd a.natAbs b.natAbs : Int)), b.fdiv (-(Nat.gcd a.natAbs b.natAbs : Int))) else (a.fdiv (Nat.gcd a.natAbs b.natAbs : Int), b.fdiv (Nat.gcd a.natAbs b.natAbs : Int))
def Sz (b : Int) : Prop := b ≠ 0 ∧ b.natAbs < 2 ^ 9000
theorem gcd_pos {a b : Int} (h : b ≠ 0) : 0 < Nat.gcd a.natAbs b.natAbs := Nat.gcd_pos_of_pos_right _ (by omega)
theorem log2_le {a b : Nat} (h : a ≤ b) (hb : b < 2 ^ 9000) (ha : 0 < a) : a.log2 < 9000 := (Nat.log2_lt (by omega)).mpr (Nat.lt_of_le_of_lt h hb)
theorem div_gcd {a b : Int} (h : Sz b) : divOk (Nat.gcd a.natAbs b.natAbs : Int) = true ∧ divOk (-(Nat.gcd a.natAbs b.natAbs : Int)) = true := by
  have hp := gcd_pos (a := a) h.1
  have hl := log2_le (Nat.le_of_dvd (by have := h.1; omega) (Nat.gcd_dvd_right a.natAbs b.natAbs)) h.2 hp
  generalize Nat.gcd a.natAbs b.natAbs = g at hp hl
  unfold divOk
  constructor
  · have e : ((g : Int)).natAbs = g := by omega
    rw [e]; simp [hl]; omega
  · have e : (-(g : Int)).natAbs = g := by omega
    rw [e]; simp [hl]; omega
theorem low_spec {p q : Int} (hq : q ≠ 0) : 0 < (low p q).2 ∧ (low p q).1 * q = (low p q).2 * p ∧ Nat.gcd (low p q).1.natAbs (low p q).2.natAbs = 1 := by
  have hp := gcd_pos (a := p) hq
  obtain ⟨x, hx⟩ : (Nat.gcd p.natAbs q.natAbs : Int) ∣ p := Int.ofNat_dvd_left.mpr (Nat.gcd_dvd_left _ _)
  obtain ⟨y, hy⟩ : (Nat.gcd p.natAbs q.natAbs : Int) ∣ q := Int.ofNat_dvd_left.mpr (Nat.gcd_dvd_right _ _)
  have hc := (Nat.coprime_div_gcd_div_gcd (m := p.natAbs) (n := q.natAbs) hp : Nat.gcd _ _ = 1)
  have hxa : p.natAbs = Nat.gcd p.natAbs q.natAbs * x.natAbs := by
    have := congrArg Int.natAbs hx
    rw [Int.natAbs_mul, Int.natAbs_natCast] at this; exact this
  have hya : q.natAbs = Nat.gcd p.natAbs q.natAbs * y.natAbs := by
    have := congrArg Int.natAbs hy
    rw [Int.natAbs_mul, Int.natAbs_natCast] at this; exact this
  unfold low
  generalize hg : Nat.gcd p.natAbs q.natAbs = g at *
  have hx1 : p.natAbs / g = x.natAbs := by rw [hxa, Nat.mul_div_cancel_left _ hp]
  have hy1 : q.natAbs / g = y.natAbs := by rw [hya, Nat.mul_div_cancel_left _ hp]
  rw [hx1, hy1] at hc
  have g0 : (g : Int) ≠ 0 := by omega
  by_cases hneg : q < 0
  · rw [if_pos hneg]
    have ex : p.fdiv (-(g : Int)) = -x := by
      rw [hx, show (g : Int) * x = (-(g : Int)) * (-x) by rw [Int.neg_mul_neg]]
      exact Int.mul_fdiv_cancel_left _ (by omega)
    have ey : q.fdiv (-(g : Int)) = -y := by
      rw [hy, show (g : Int) * y = (-(g : Int)) * (-y) by rw [Int.neg_mul_neg]]
      exact Int.mul_fdiv_cancel_left _ (by omega)
    simp only [ex, ey]
    refine ⟨?_, ?_, by rw [Int.natAbs_neg, Int.natAbs_neg]; exact hc⟩
    · have : y < 0 := by
        rcases Int.lt_trichotomy y 0 with h | h | h
        · exact h
        · subst h; omega
        · have := Int.mul_pos (show (0 : Int) < g by omega) h; omega
      omega
    · grind
  · rw [if_neg hneg]
    have ex : p.fdiv (g : Int) = x := by rw [hx]; exact Int.mul_fdiv_cancel_left _ g0
    have ey : q.fdiv (g : Int) = y := by rw [hy]; exact Int.mul_fdiv_cancel_left _ g0
    simp only [ex, ey]
    refine ⟨?_, ?_, hc⟩
    · rcases Int.lt_trichotomy y 0 with h | h | h
      · have := Int.mul_neg_of_pos_of_neg (show (0 : Int) < g by omega) h; omega
      · subst h; omega
      · exact h
    · rw [hx, hy]; simp [Int.mul_comm, Int.mul_assoc, Int.mul_left_comm]
theorem low_uniq {u v u' v' : Int} (hv : 0 < v) (hv' : 0 < v') (hc : Nat.gcd u.natAbs v.natAbs = 1) (hc' : Nat.gcd u'.natAbs v'.natAbs = 1) (e : u * v' = u' * v) : u = u' ∧ v = v' := by
  have ea : u.natAbs * v'.natAbs = u'.natAbs * v.natAbs := by rw [← Int.natAbs_mul, ← Int.natAbs_mul, e]
  have d1 : v.natAbs ∣ v'.natAbs := Nat.Coprime.dvd_of_dvd_mul_left (k := v.natAbs) (m := u.natAbs) (by rw [Nat.Coprime, Nat.gcd_comm]; exact hc) ⟨u'.natAbs, by rw [ea, Nat.mul_comm]⟩
  have d2 : v'.natAbs ∣ v.natAbs := Nat.Coprime.dvd_of_dvd_mul_left (k := v'.natAbs) (m := u'.natAbs) (by rw [Nat.Coprime, Nat.gcd_comm]; exact hc') ⟨u.natAbs, by rw [← ea, Nat.mul_comm]⟩
  have ev : v.natAbs = v'.natAbs := Nat.dvd_antisymm d1 d2
  have ev : v = v' := by omega
  subst ev
  exact ⟨Int.eq_of_mul_eq_mul_right (by omega) e, rfl⟩
theorem low_eq {p q p' q' : Int} (hq : q ≠ 0) (hq' : q' ≠ 0) (e : p * q' = p' * q) : low p q = low p' q' := by
  obtain ⟨a1, a2, a3⟩ := low_spec (p := p) hq
  obtain ⟨b1, b2, b3⟩ := low_spec (p := p') hq'
  have : (low p q).1 * (low p' q').2 = (low p' q').1 * (low p q).2 := by
    have h1 : ((low p q).1 * (low p' q').2) * (q * q') = ((low p' q').1 * (low p q).2) * (q * q') := by
      calc ((low p q).1 * (low p' q').2) * (q * q') = ((low p q).1 * q) * ((low p' q').2 * q') := by simp [Int.mul_comm, Int.mul_assoc, Int.mul_left_comm]
        _ = ((low p q).2 * p) * ((low p' q').2 * q') := by rw [a2]
        _ = (low p q).2 * (low p' q').2 * (p * q') := by simp [Int.mul_comm, Int.mul_assoc, Int.mul_left_comm]
        _ = (low p q).2 * (low p' q').2 * (p' * q) := by rw [e]
        _ = ((low p' q').2 * p') * ((low p q).2 * q) := by simp [Int.mul_comm, Int.mul_assoc, Int.mul_left_comm]
        _ = ((low p' q').1 * q') * ((low p q).2 * q) := by rw [b2]
        _ = _ := by simp [Int.mul_comm, Int.mul_assoc, Int.mul_left_comm]
    exact Int.eq_of_mul_eq_mul_right (Int.mul_ne_zero hq hq') h1
  obtain ⟨h1, h2⟩ := low_uniq a1 b1 a3 b3 this
  exact Prod.ext h1 h2
theorem low_one (a : Int) : low a 1 = (a, 1) := by simp [low]
def Mid (a : Int) : Prop := a.natAbs < 2 ^ 1000
theorem natAbs_mul_lt {a b : Int} {x y : Nat} (ha : a.natAbs < 2 ^ x) (hb : b.natAbs < 2 ^ y) : (a * b).natAbs < 2 ^ (x + y) := by
  rw [Int.natAbs_mul, Nat.pow_add]
  exact Nat.mul_lt_mul'' ha hb
theorem sz_mul {a b : Int} (ha : a ≠ 0) (hb : b ≠ 0) (h1 : Mid a) (h2 : Mid b) : Sz (a * b) := by
  refine ⟨Int.mul_ne_zero ha hb, ?_⟩
  exact Nat.lt_of_lt_of_le (natAbs_mul_lt h1 h2) (Nat.pow_le_pow_right (by omega) (by omega))
theorem big_mid {a b : Int} (ha : Mid a) (hb : Mid b) : bigOk a b = true := by
  have l : ∀ x : Int, Mid x → x.natAbs.log2 < 1000 := fun x h => by
    by_cases h0 : x.natAbs = 0
    · rw [h0]; decide
    · exact (Nat.log2_lt h0).mpr h
  have h1 := l a ha
  have h2 := l b hb
  unfold bigOk
  exact decide_eq_true (.inr (.inr (by omega)))
theorem low_g {p q : Int} (hq : q ≠ 0) : ∃ g : Int, g ≠ 0 ∧ p = g * (low p q).1 ∧ q = g * (low p q).2 := by
  have hp := gcd_pos (a := p) hq
  obtain ⟨x, hx⟩ : (Nat.gcd p.natAbs q.natAbs : Int) ∣ p := Int.ofNat_dvd_left.mpr (Nat.gcd_dvd_left _ _)
  obtain ⟨y, hy⟩ : (Nat.gcd p.natAbs q.natAbs : Int) ∣ q := Int.ofNat_dvd_left.mpr (Nat.gcd_dvd_right _ _)
  have g0 : (Nat.gcd p.natAbs q.natAbs : Int) ≠ 0 := by omega
  have one : ∀ g a z : Int, g ≠ 0 → a = g * z → a = g * a.fdiv g := fun g a z hg e => by
    have : a.fdiv g = z := by rw [e]; exact Int.mul_fdiv_cancel_left _ hg
    rw [this]; exact e
  unfold low
  split
  · refine ⟨-(Nat.gcd p.natAbs q.natAbs : Int), by omega, one _ _ (-x) (by omega) (by rw [Int.neg_mul_neg]; exact hx), one _ _ (-y) (by omega) (by rw [Int.neg_mul_neg]; exact hy)⟩
  · exact ⟨_, g0, one _ _ x g0 hx, one _ _ y g0 hy⟩
theorem natAbs_le_mul {g a : Int} (h : g ≠ 0) : a.natAbs ≤ (g * a).natAbs := by
  rw [Int.natAbs_mul]
  exact Nat.le_mul_of_pos_left _ (by omega)
theorem low_le {p q : Int} (hq : q ≠ 0) : (low p q).1.natAbs ≤ p.natAbs ∧ (low p q).2.natAbs ≤ q.natAbs := by
  obtain ⟨g, hg, h1, h2⟩ := low_g (p := p) hq
  constructor
  · have := natAbs_le_mul (a := (low p q).1) hg; rw [← h1] at this; exact this
  · have := natAbs_le_mul (a := (low p q).2) hg; rw [← h2] at this; exact this
theorem low_pos {p q : Int} (hq : q ≠ 0) : 0 < (low p q).2 := (low_spec hq).1
theorem low_add {p q r s : Int} (hq : q ≠ 0) (hs : s ≠ 0) : low ((low p q).1 * (low r s).2 + (low r s).1 * (low p q).2) ((low p q).2 * (low r s).2) = low (p * s + r * q) (q * s) := by
  obtain ⟨a1, a2, _⟩ := low_spec (p := p) hq
  obtain ⟨b1, b2, _⟩ := low_spec (p := r) hs
  refine low_eq (Int.mul_ne_zero (by omega) (by omega)) (Int.mul_ne_zero hq hs) ?_
  generalize (low p q).1 = u at *
  generalize (low p q).2 = v at *
  generalize (low r s).1 = w at *
  generalize (low r s).2 = z at *
  grind
theorem low_mul {p q r s : Int} (hq : q ≠ 0) (hs : s ≠ 0) : low ((low p q).1 * (low r s).1) ((low p q).2 * (low r s).2) = low (p * r) (q * s) := by
  obtain ⟨a1, a2, _⟩ := low_spec (p := p) hq
  obtain ⟨b1, b2, _⟩ := low_spec (p := r) hs
  refine low_eq (Int.mul_ne_zero (by omega) (by omega)) (Int.mul_ne_zero hq hs) ?_
  generalize (low p q).1 = u at *
  generalize (low p q).2 = v at *
  generalize (low r s).1 = w at *
  generalize (low r s).2 = z at *
  grind
def Md (k : Nat) (a : Int) : Prop := a.natAbs < 2 ^ k
theorem Md.mid {k : Nat} {a : Int} (h : Md k a) (hk : k ≤ 1000) : Mid a := Nat.lt_of_lt_of_le h (Nat.pow_le_pow_right (by omega) hk)
theorem Md.mul {j k : Nat} {a b : Int} (h : Md j a) (h2 : Md k b) : Md (j + k) (a * b) := natAbs_mul_lt h h2
theorem Md.le {k : Nat} {a b : Int} (h : Md k a) (e : b.natAbs ≤ a.natAbs) : Md k b := Nat.lt_of_le_of_lt e h
theorem Md.mono {j k : Nat} {a : Int} (h : Md j a) (e : j ≤ k) : Md k a := Nat.lt_of_lt_of_le h (Nat.pow_le_pow_right (by omega) e)
theorem Md.add {k : Nat} {a b : Int} (h : Md k a) (h2 : Md k b) : Md (k + 1) (a + b) := by
  unfold Md at *
  rw [Nat.pow_succ]
  omega
theorem Md.low1 {k : Nat} {p q : Int} (hq : q ≠ 0) (h : Md k p) : Md k (low p q).1 := h.le (low_le hq).1
theorem Md.low2 {k : Nat} {p q : Int} (hq : q ≠ 0) (h : Md k q) : Md k (low p q).2 := h.le (low_le hq).2
theorem Md.neg {k : Nat} {a : Int} (h : Md k a) : Md k (-a) := by unfold Md at *; omega
theorem big_l {i j : Int} (h : Md 64 i) : bigOk i j = true := bigOk_left (by unfold Md at h; omega)
theorem big_r {i j : Int} (h : Md 64 j) : bigOk i j = true := bigOk_right (by unfold Md at h; omega)
theorem low_cross {p r q : Int} (hq : q ≠ 0) : low p q = low r q ↔ p = r := by
  constructor
  · intro e
    obtain ⟨a1, a2, _⟩ := low_spec (p := p) hq
    obtain ⟨b1, b2, _⟩ := low_spec (p := r) hq
    rw [← e] at b1 b2
    have : (low p q).2 * p = (low p q).2 * r := by rw [← a2, ← b2]
    exact Int.eq_of_mul_eq_mul_left (by omega) this
  · intro e; rw [e]
theorem fmod_range {i m : Int} (h : 0 < m) : 0 ≤ i.fmod m ∧ i.fmod m < m := ⟨Int.fmod_nonneg_of_pos i h, Int.fmod_lt_of_pos i h⟩
theorem powOk_mid {i : Int} {k : Nat} (h : Mid i) (hk : k ≤ 3) : powOk i k = true := by
  unfold powOk
  have l : i.natAbs.log2 < 1000 := by
    by_cases h0 : i.natAbs = 0
    · rw [h0]; decide
    · exact (Nat.log2_lt h0).mpr h
  have e : (i.natAbs.log2 + 1) * k ≤ 1000 * 3 := Nat.mul_le_mul (by omega) hk
  simp
  omega
theorem doCall_new2 {f : Fn} {xs ys : List PyData} {r : PyData} {ρ : En} (hl : f.np = 2) (hc : f.chg = []) (h : f.sem [.dat (.list xs), .dat (.list ys)] = .ok (.dat r) [.dat (.list xs), .dat (.list ys)]) : doCall f [.new (.lst xs), .new (.lst ys)] ρ = .ok (.dat r) ρ := by
  unfold doCall
  simp [hl, hc, apart, argSl, cnt, Ob.toD, h, Rv.isRef, putBack, lookOnly, frz]
end Lw
set_option maxHeartbeats 4000000
namespace Lw
open PySem Vi
variable {fu n : Nat}
structure M2 where
  a : Int
  b : Int
  c : Int
  d : Int
def M2.mul (x y : M2) : M2 := ⟨x.a * y.a + x.b * y.c, x.a * y.b + x.b * y.d, x.c * y.a + x.d * y.c, x.c * y.b + x.d * y.d⟩
def M2.det (x : M2) : Int := x.a * x.d - x.b * x.c
def M2.tr (x : M2) : Int := x.a + x.d
def growing' (s t : Int) : Bool := if 0 < s then decide (1 < s) && decide (t.natAbs ≤ s) else decide (s < -1) && decide ((t.natAbs : Int) ≤ -s - 2)
def isN : PyData → Bool
  | .int _ => true
  | _ => false
theorem c0 (d : PyData) {ρ : En} : doCall ⟨1, [], pg.sem fu (n + 1) 0⟩ [.dat d] ρ = .ok (.dat (.bool (isN d))) ρ := by
  refine doCall_data (ds := [d]) rfl rfl (Ev.sem_eq (ev0 ?_)) rfl
  unfold d0
  cases d <;> simp -dsimp [evB, evS, evR, evT, evC, evO, evAs, evDs, evIt, evPs, letRs, nrm, cnts, cnt, biD, mtOk, mtD, letR, letD, letDs, sto, binD, cmpD, Vi.truthy, esc, lenOk, idxD, isiD, Ret, outs, retR, Rv.isRef, Ob.toD, subS, putD, isNon, okD_int, okD_bool, okD_none, PyData.eqv, PyData.eqvAll, L2.ixN, isN]
def two : PyData → Bool
  | .tuple [_, _] => true
  | _ => false
theorem c1 (d : PyData) {ρ : En} : doCall ⟨1, [], pg.sem fu (n + 1) 1⟩ [.dat d] ρ = .ok (.dat (.bool (two d))) ρ := by
  refine doCall_data (ds := [d]) rfl rfl (Ev.sem_eq (ev1 ?_)) rfl
  unfold d1
  cases d with
  | tuple xs =>
    rcases xs with _ | ⟨a, _ | ⟨b, _ | ⟨c, r⟩⟩⟩
    · simp -dsimp [evB, evS, evR, evT, evC, evO, evAs, evDs, evIt, evPs, letRs, nrm, cnts, cnt, biD, mtOk, mtD, letR, letD, letDs, sto, binD, cmpD, Vi.truthy, esc, lenOk, idxD, isiD, Ret, outs, retR, Rv.isRef, Ob.toD, subS, putD, isNon, okD_int, okD_bool, okD_none, PyData.eqv, PyData.eqvAll, L2.ixN, two]
    · simp -dsimp [evB, evS, evR, evT, evC, evO, evAs, evDs, evIt, evPs, letRs, nrm, cnts, cnt, biD, mtOk, mtD, letR, letD, letDs, sto, binD, cmpD, Vi.truthy, esc, lenOk, idxD, isiD, Ret, outs, retR, Rv.isRef, Ob.toD, subS, putD, isNon, okD_int, okD_bool, okD_none, PyData.eqv, PyData.eqvAll, L2.ixN, two]
    · simp -dsimp [evB, evS, evR, evT, evC, evO, evAs, evDs, evIt, evPs, letRs, nrm, cnts, cnt, biD, mtOk, mtD, letR, letD, letDs, sto, binD, cmpD, Vi.truthy, esc, lenOk, idxD, isiD, Ret, outs, retR, Rv.isRef, Ob.toD, subS, putD, isNon, okD_int, okD_bool, okD_none, PyData.eqv, PyData.eqvAll, L2.ixN, two]
    · have h : ¬ ((r.length : Int) + 1 + 1 + 1 = 2) := by omega
      simp -dsimp [evB, evS, evR, evT, evC, evO, evAs, evDs, evIt, evPs, letRs, nrm, cnts, cnt, biD, mtOk, mtD, letR, letD, letDs, sto, binD, cmpD, Vi.truthy, esc, lenOk, idxD, isiD, Ret, outs, retR, Rv.isRef, Ob.toD, subS, putD, isNon, okD_int, okD_bool, okD_none, PyData.eqv, PyData.eqvAll, L2.ixN, two, h]
  | _ => simp -dsimp [evB, evS, evR, evT, evC, evO, evAs, evDs, evIt, evPs, letRs, nrm, cnts, cnt, biD, mtOk, mtD, letR, letD, letDs, sto, binD, cmpD, Vi.truthy, esc, lenOk, idxD, isiD, Ret, outs, retR, Rv.isRef, Ob.toD, subS, putD, isNon, okD_int, okD_bool, okD_none, PyData.eqv, PyData.eqvAll, L2.ixN, two]
def isOff : PyData → Bool
  | .tuple [a, b] => isN a && isN b
  | _ => false
theorem c12' (d : PyData) {ρ : En} : doCall ⟨1, [], pg.sem fu (n + 2) 12⟩ [.dat d] ρ = .ok (.dat (.bool (isOff d))) ρ := by
  refine doCall_data (ds := [d]) rfl rfl (Ev.sem_eq (ev12 ?_)) rfl
  unfold d12
  by_cases h : two d = true
  · unfold two at h
    split at h
    · rename_i a b
      cases hb : isN a
      · simp -dsimp [evB, evS, evR, evT, evC, evO, evAs, evDs, evIt, evPs, letRs, nrm, cnts, cnt, biD, mtOk, mtD, letR, letD, letDs, sto, binD, cmpD, Vi.truthy, esc, lenOk, idxD, isiD, Ret, outs, retR, Rv.isRef, Ob.toD, subS, putD, isNon, okD_int, okD_bool, okD_none, PyData.eqv, PyData.eqvAll, L2.ixN, at0, at1, c0, c1, two, hb, isOff]
      · simp -dsimp [evB, evS, evR, evT, evC, evO, evAs, evDs, evIt, evPs, letRs, nrm, cnts, cnt, biD, mtOk, mtD, letR, letD, letDs, sto, binD, cmpD, Vi.truthy, esc, lenOk, idxD, isiD, Ret, outs, retR, Rv.isRef, Ob.toD, subS, putD, isNon, okD_int, okD_bool, okD_none, PyData.eqv, PyData.eqvAll, L2.ixN, at0, at1, c0, c1, two, hb, isOff]
    · cases h
  · have h' : two d = false := by simpa using h
    simp -dsimp [evB, evS, evR, evT, evC, evO, evAs, evDs, evIt, evPs, letRs, nrm, cnts, cnt, biD, mtOk, mtD, letR, letD, letDs, sto, binD, cmpD, Vi.truthy, esc, lenOk, idxD, isiD, Ret, outs, retR, Rv.isRef, Ob.toD, subS, putD, isNon, okD_int, okD_bool, okD_none, PyData.eqv, PyData.eqvAll, L2.ixN, at1, c1, h']
    unfold two at h'
    split at h' <;> simp_all [isOff]
def isTabD : PyData → Bool
  | .tuple [a, b] => isOff a && isOff b
  | _ => false
theorem c13 (d : PyData) {ρ : En} : doCall ⟨1, [], pg.sem fu (n + 3) 13⟩ [.dat d] ρ = .ok (.dat (.bool (isTabD d))) ρ := by
  refine doCall_data (ds := [d]) rfl rfl (Ev.sem_eq (ev13 ?_)) rfl
  unfold d13
  by_cases h : two d = true
  · unfold two at h
    split at h
    · rename_i a b
      cases hb : isOff a
      · simp -dsimp [evB, evS, evR, evT, evC, evO, evAs, evDs, evIt, evPs, letRs, nrm, cnts, cnt, biD, mtOk, mtD, letR, letD, letDs, sto, binD, cmpD, Vi.truthy, esc, lenOk, idxD, isiD, Ret, outs, retR, Rv.isRef, Ob.toD, subS, putD, isNon, okD_int, okD_bool, okD_none, PyData.eqv, PyData.eqvAll, L2.ixN, at12, at1, c12', c1, two, hb, isTabD]
      · simp -dsimp [evB, evS, evR, evT, evC, evO, evAs, evDs, evIt, evPs, letRs, nrm, cnts, cnt, biD, mtOk, mtD, letR, letD, letDs, sto, binD, cmpD, Vi.truthy, esc, lenOk, idxD, isiD, Ret, outs, retR, Rv.isRef, Ob.toD, subS, putD, isNon, okD_int, okD_bool, okD_none, PyData.eqv, PyData.eqvAll, L2.ixN, at12, at1, c12', c1, two, hb, isTabD]
    · cases h
  · have h' : two d = false := by simpa using h
    simp -dsimp [evB, evS, evR, evT, evC, evO, evAs, evDs, evIt, evPs, letRs, nrm, cnts, cnt, biD, mtOk, mtD, letR, letD, letDs, sto, binD, cmpD, Vi.truthy, esc, lenOk, idxD, isiD, Ret, outs, retR, Rv.isRef, Ob.toD, subS, putD, isNon, okD_int, okD_bool, okD_none, PyData.eqv, PyData.eqvAll, L2.ixN, at1, c1, h']
    unfold two at h'
    split at h' <;> simp_all [isTabD]
abbrev TM (x : M2) : PyData := Tb x.a x.b x.c x.d
structure Sml (x : M2) : Prop where
  ha : Md 64 x.a
  hb : Md 64 x.b
  hc : Md 64 x.c
  hd : Md 64 x.d
theorem c14 (x : M2) (h : Sml x) {ρ : En} : doCall ⟨1, [], pg.sem fu (n + 1) 14⟩ [.dat (TM x)] ρ = .ok (.dat (I x.det)) ρ := by
  refine doCall_data (ds := [TM x]) rfl rfl (Ev.sem_eq (ev14 ?_)) rfl
  unfold d14
  simp -dsimp [evB, evS, evR, evT, evC, evO, evAs, evDs, evIt, evPs, letRs, nrm, cnts, cnt, biD, mtOk, mtD, letR, letD, letDs, sto, binD, cmpD, Vi.truthy, esc, lenOk, idxD, isiD, Ret, outs, retR, Rv.isRef, Ob.toD, subS, putD, isNon, okD_int, okD_bool, okD_none, PyData.eqv, PyData.eqvAll, L2.ixN, big_l h.ha, big_l h.hb, M2.det]
theorem c38 (x : M2) (h : Sml x) {ρ : En} : doCall ⟨1, [], pg.sem fu (n + 1) 38⟩ [.dat (TM x)] ρ = .ok (.dat (I x.det)) ρ := by
  refine doCall_data (ds := [TM x]) rfl rfl (Ev.sem_eq (ev38 ?_)) rfl
  unfold d38
  simp -dsimp [evB, evS, evR, evT, evC, evO, evAs, evDs, evIt, evPs, letRs, nrm, cnts, cnt, biD, mtOk, mtD, letR, letD, letDs, sto, binD, cmpD, Vi.truthy, esc, lenOk, idxD, isiD, Ret, outs, retR, Rv.isRef, Ob.toD, subS, putD, isNon, okD_int, okD_bool, okD_none, PyData.eqv, PyData.eqvAll, L2.ixN, big_l h.ha, big_l h.hb, M2.det]
abbrev M2.gr (x : M2) : Bool := growing' x.det x.tr
theorem c16_no (d : PyData) (h : isTabD d = false) {ρ : En} : doCall ⟨1, [], pg.sem fu (n + 4) 16⟩ [.dat d] ρ = .ok (.dat (.bool false)) ρ := by
  refine doCall_data (ds := [d]) rfl rfl (Ev.sem_eq (ev16 ?_)) rfl
  unfold d16
  refine Ev_cons fun K k1 k2 _ _ => ?_
  simp -dsimp [evB, evS, evR, evT, evC, evO, evAs, evDs, evIt, evPs, letRs, nrm, cnts, cnt, biD, mtOk, mtD, letR, letD, letDs, sto, binD, cmpD, Vi.truthy, esc, lenOk, idxD, isiD, Ret, outs, retR, Rv.isRef, Ob.toD, subS, putD, isNon, okD_int, okD_bool, okD_none, PyData.eqv, PyData.eqvAll, L2.ixN, at13, c13, h]
  exact k2 _ _ (by simp -dsimp [evB, evS, evR, evT, evC, evO, evAs, evDs, evIt, evPs, letRs, nrm, cnts, cnt, biD, mtOk, mtD, letR, letD, letDs, sto, binD, cmpD, Vi.truthy, esc, lenOk, idxD, isiD, Ret, outs, retR, Rv.isRef, Ob.toD, subS, putD, isNon, okD_int, okD_bool, okD_none, PyData.eqv, PyData.eqvAll, L2.ixN])
theorem c16 (x : M2) (h : Sml x) {ρ : En} : doCall ⟨1, [], pg.sem fu (n + 4) 16⟩ [.dat (TM x)] ρ = .ok (.dat (.bool x.gr)) ρ := by
  refine doCall_data (ds := [TM x]) rfl rfl (Ev.sem_eq (ev16 ?_)) rfl
  have h11 := @c14 fu (n + 2) x h
  have ht : x.a + x.d = x.tr := rfl
  unfold d16 M2.gr growing'
  generalize x.det = s at *
  generalize x.tr = t at *
  refine Ev_cons fun K k1 k2 _ _ => ?_
  simp -dsimp [evB, evS, evR, evT, evC, evO, evAs, evDs, evIt, evPs, letRs, nrm, cnts, cnt, biD, mtOk, mtD, letR, letD, letDs, sto, binD, cmpD, Vi.truthy, esc, lenOk, idxD, isiD, Ret, outs, retR, Rv.isRef, Ob.toD, subS, putD, isNon, okD_int, okD_bool, okD_none, PyData.eqv, PyData.eqvAll, L2.ixN, at13, c13, isTabD, isOff, isN]
  refine k1 _ (Ev_cons fun K k1 k2 _ _ => ?_)
  simp -dsimp [evB, evS, evR, evT, evC, evO, evAs, evDs, evIt, evPs, letRs, nrm, cnts, cnt, biD, mtOk, mtD, letR, letD, letDs, sto, binD, cmpD, Vi.truthy, esc, lenOk, idxD, isiD, Ret, outs, retR, Rv.isRef, Ob.toD, subS, putD, isNon, okD_int, okD_bool, okD_none, PyData.eqv, PyData.eqvAll, L2.ixN, at14, h11, ht]
  refine k1 _ (Ev_cons fun K k1 k2 _ _ => ?_)
  by_cases g1 : 2 ≤ s
  · have p : 0 < s := by omega
    have p1 : 1 < s := by omega
    by_cases g2 : -s ≤ t
    · simp -dsimp [evB, evS, evR, evT, evC, evO, evAs, evDs, evIt, evPs, letRs, nrm, cnts, cnt, biD, mtOk, mtD, letR, letD, letDs, sto, binD, cmpD, Vi.truthy, esc, lenOk, idxD, isiD, Ret, outs, retR, Rv.isRef, Ob.toD, subS, putD, isNon, okD_int, okD_bool, okD_none, PyData.eqv, PyData.eqvAll, L2.ixN, g1, g2]
      refine k2 _ _ ?_
      simp -dsimp [evB, evS, evR, evT, evC, evO, evAs, evDs, evIt, evPs, letRs, nrm, cnts, cnt, biD, mtOk, mtD, letR, letD, letDs, sto, binD, cmpD, Vi.truthy, esc, lenOk, idxD, isiD, Ret, outs, retR, Rv.isRef, Ob.toD, subS, putD, isNon, okD_int, okD_bool, okD_none, PyData.eqv, PyData.eqvAll, L2.ixN, p, p1]
      omega
    · simp -dsimp [evB, evS, evR, evT, evC, evO, evAs, evDs, evIt, evPs, letRs, nrm, cnts, cnt, biD, mtOk, mtD, letR, letD, letDs, sto, binD, cmpD, Vi.truthy, esc, lenOk, idxD, isiD, Ret, outs, retR, Rv.isRef, Ob.toD, subS, putD, isNon, okD_int, okD_bool, okD_none, PyData.eqv, PyData.eqvAll, L2.ixN, g1, g2]
      refine k2 _ _ ?_
      simp -dsimp [evB, evS, evR, evT, evC, evO, evAs, evDs, evIt, evPs, letRs, nrm, cnts, cnt, biD, mtOk, mtD, letR, letD, letDs, sto, binD, cmpD, Vi.truthy, esc, lenOk, idxD, isiD, Ret, outs, retR, Rv.isRef, Ob.toD, subS, putD, isNon, okD_int, okD_bool, okD_none, PyData.eqv, PyData.eqvAll, L2.ixN, p, p1]
      omega
  · by_cases g2 : s ≤ -2
    · have p : ¬ 0 < s := by omega
      have p1 : s < -1 := by omega
      by_cases g3 : s + 2 ≤ t
      · simp -dsimp [evB, evS, evR, evT, evC, evO, evAs, evDs, evIt, evPs, letRs, nrm, cnts, cnt, biD, mtOk, mtD, letR, letD, letDs, sto, binD, cmpD, Vi.truthy, esc, lenOk, idxD, isiD, Ret, outs, retR, Rv.isRef, Ob.toD, subS, putD, isNon, okD_int, okD_bool, okD_none, PyData.eqv, PyData.eqvAll, L2.ixN, g1, g2, g3]
        refine k1 _ (Ev_cons fun K k1 k2 _ _ => ?_)
        simp -dsimp [evB, evS, evR, evT, evC, evO, evAs, evDs, evIt, evPs, letRs, nrm, cnts, cnt, biD, mtOk, mtD, letR, letD, letDs, sto, binD, cmpD, Vi.truthy, esc, lenOk, idxD, isiD, Ret, outs, retR, Rv.isRef, Ob.toD, subS, putD, isNon, okD_int, okD_bool, okD_none, PyData.eqv, PyData.eqvAll, L2.ixN, g1, g2, g3]
        refine k2 _ _ ?_
        simp -dsimp [evB, evS, evR, evT, evC, evO, evAs, evDs, evIt, evPs, letRs, nrm, cnts, cnt, biD, mtOk, mtD, letR, letD, letDs, sto, binD, cmpD, Vi.truthy, esc, lenOk, idxD, isiD, Ret, outs, retR, Rv.isRef, Ob.toD, subS, putD, isNon, okD_int, okD_bool, okD_none, PyData.eqv, PyData.eqvAll, L2.ixN, p, p1]
        omega
      · simp -dsimp [evB, evS, evR, evT, evC, evO, evAs, evDs, evIt, evPs, letRs, nrm, cnts, cnt, biD, mtOk, mtD, letR, letD, letDs, sto, binD, cmpD, Vi.truthy, esc, lenOk, idxD, isiD, Ret, outs, retR, Rv.isRef, Ob.toD, subS, putD, isNon, okD_int, okD_bool, okD_none, PyData.eqv, PyData.eqvAll, L2.ixN, g1, g2, g3]
        refine k1 _ (Ev_cons fun K k1 k2 _ _ => ?_)
        simp -dsimp [evB, evS, evR, evT, evC, evO, evAs, evDs, evIt, evPs, letRs, nrm, cnts, cnt, biD, mtOk, mtD, letR, letD, letDs, sto, binD, cmpD, Vi.truthy, esc, lenOk, idxD, isiD, Ret, outs, retR, Rv.isRef, Ob.toD, subS, putD, isNon, okD_int, okD_bool, okD_none, PyData.eqv, PyData.eqvAll, L2.ixN, g1, g2, g3]
        refine k2 _ _ ?_
        simp -dsimp [evB, evS, evR, evT, evC, evO, evAs, evDs, evIt, evPs, letRs, nrm, cnts, cnt, biD, mtOk, mtD, letR, letD, letDs, sto, binD, cmpD, Vi.truthy, esc, lenOk, idxD, isiD, Ret, outs, retR, Rv.isRef, Ob.toD, subS, putD, isNon, okD_int, okD_bool, okD_none, PyData.eqv, PyData.eqvAll, L2.ixN, p, p1]
        omega
    · simp -dsimp [evB, evS, evR, evT, evC, evO, evAs, evDs, evIt, evPs, letRs, nrm, cnts, cnt, biD, mtOk, mtD, letR, letD, letDs, sto, binD, cmpD, Vi.truthy, esc, lenOk, idxD, isiD, Ret, outs, retR, Rv.isRef, Ob.toD, subS, putD, isNon, okD_int, okD_bool, okD_none, PyData.eqv, PyData.eqvAll, L2.ixN, g1, g2]
      refine k1 _ (Ev_cons fun K k1 k2 _ _ => ?_)
      simp -dsimp [evB, evS, evR, evT, evC, evO, evAs, evDs, evIt, evPs, letRs, nrm, cnts, cnt, biD, mtOk, mtD, letR, letD, letDs, sto, binD, cmpD, Vi.truthy, esc, lenOk, idxD, isiD, Ret, outs, retR, Rv.isRef, Ob.toD, subS, putD, isNon, okD_int, okD_bool, okD_none, PyData.eqv, PyData.eqvAll, L2.ixN, g1, g2]
      refine k2 _ _ ?_
      by_cases p : 0 < s
      · have p1 : ¬ 1 < s := by omega
        simp -dsimp [evB, evS, evR, evT, evC, evO, evAs, evDs, evIt, evPs, letRs, nrm, cnts, cnt, biD, mtOk, mtD, letR, letD, letDs, sto, binD, cmpD, Vi.truthy, esc, lenOk, idxD, isiD, Ret, outs, retR, Rv.isRef, Ob.toD, subS, putD, isNon, okD_int, okD_bool, okD_none, PyData.eqv, PyData.eqvAll, L2.ixN, p, p1]
      · have p1 : ¬ s < -1 := by omega
        simp -dsimp [evB, evS, evR, evT, evC, evO, evAs, evDs, evIt, evPs, letRs, nrm, cnts, cnt, biD, mtOk, mtD, letR, letD, letDs, sto, binD, cmpD, Vi.truthy, esc, lenOk, idxD, isiD, Ret, outs, retR, Rv.isRef, Ob.toD, subS, putD, isNon, okD_int, okD_bool, okD_none, PyData.eqv, PyData.eqvAll, L2.ixN, p, p1]
theorem c39 (x : M2) (h : Sml x) {ρ : En} : doCall ⟨1, [], pg.sem fu (n + 2) 39⟩ [.dat (TM x)] ρ = .ok (.dat (.bool x.gr)) ρ := by
  refine doCall_data (ds := [TM x]) rfl rfl (Ev.sem_eq (ev39 ?_)) rfl
  have h34 := @c38 fu n x h
  have ht : x.a + x.d = x.tr := rfl
  unfold d39 M2.gr growing'
  generalize x.det = s at *
  generalize x.tr = t at *
  have ha : (if t < 0 then -t else t) = (t.natAbs : Int) := by split <;> omega
  refine Ev_cons fun K k1 k2 _ _ => ?_
  simp -dsimp [evB, evS, evR, evT, evC, evO, evAs, evDs, evIt, evPs, letRs, nrm, cnts, cnt, biD, mtOk, mtD, letR, letD, letDs, sto, binD, cmpD, Vi.truthy, esc, lenOk, idxD, isiD, Ret, outs, retR, Rv.isRef, Ob.toD, subS, putD, isNon, okD_int, okD_bool, okD_none, PyData.eqv, PyData.eqvAll, L2.ixN, at38, h34, ht]
  refine k1 _ (Ev_cons fun K k1 k2 _ _ => ?_)
  by_cases p : 0 < s
  · by_cases p1 : 1 < s
    · simp -dsimp [evB, evS, evR, evT, evC, evO, evAs, evDs, evIt, evPs, letRs, nrm, cnts, cnt, biD, mtOk, mtD, letR, letD, letDs, sto, binD, cmpD, Vi.truthy, esc, lenOk, idxD, isiD, Ret, outs, retR, Rv.isRef, Ob.toD, subS, putD, isNon, okD_int, okD_bool, okD_none, PyData.eqv, PyData.eqvAll, L2.ixN, p, p1, ha]
      exact k2 _ _ (by simp -dsimp [evB, evS, evR, evT, evC, evO, evAs, evDs, evIt, evPs, letRs, nrm, cnts, cnt, biD, mtOk, mtD, letR, letD, letDs, sto, binD, cmpD, Vi.truthy, esc, lenOk, idxD, isiD, Ret, outs, retR, Rv.isRef, Ob.toD, subS, putD, isNon, okD_int, okD_bool, okD_none, PyData.eqv, PyData.eqvAll, L2.ixN, p, p1])
    · simp -dsimp [evB, evS, evR, evT, evC, evO, evAs, evDs, evIt, evPs, letRs, nrm, cnts, cnt, biD, mtOk, mtD, letR, letD, letDs, sto, binD, cmpD, Vi.truthy, esc, lenOk, idxD, isiD, Ret, outs, retR, Rv.isRef, Ob.toD, subS, putD, isNon, okD_int, okD_bool, okD_none, PyData.eqv, PyData.eqvAll, L2.ixN, p, p1, ha]
      exact k2 _ _ (by simp -dsimp [evB, evS, evR, evT, evC, evO, evAs, evDs, evIt, evPs, letRs, nrm, cnts, cnt, biD, mtOk, mtD, letR, letD, letDs, sto, binD, cmpD, Vi.truthy, esc, lenOk, idxD, isiD, Ret, outs, retR, Rv.isRef, Ob.toD, subS, putD, isNon, okD_int, okD_bool, okD_none, PyData.eqv, PyData.eqvAll, L2.ixN, p, p1])
  · by_cases p1 : s < -1
    · simp -dsimp [evB, evS, evR, evT, evC, evO, evAs, evDs, evIt, evPs, letRs, nrm, cnts, cnt, biD, mtOk, mtD, letR, letD, letDs, sto, binD, cmpD, Vi.truthy, esc, lenOk, idxD, isiD, Ret, outs, retR, Rv.isRef, Ob.toD, subS, putD, isNon, okD_int, okD_bool, okD_none, PyData.eqv, PyData.eqvAll, L2.ixN, p, p1, ha]
      refine k1 _ (Ev_cons fun K k1 k2 _ _ => ?_)
      simp -dsimp [evB, evS, evR, evT, evC, evO, evAs, evDs, evIt, evPs, letRs, nrm, cnts, cnt, biD, mtOk, mtD, letR, letD, letDs, sto, binD, cmpD, Vi.truthy, esc, lenOk, idxD, isiD, Ret, outs, retR, Rv.isRef, Ob.toD, subS, putD, isNon, okD_int, okD_bool, okD_none, PyData.eqv, PyData.eqvAll, L2.ixN, p, p1, ha]
      exact k2 _ _ (by simp -dsimp [evB, evS, evR, evT, evC, evO, evAs, evDs, evIt, evPs, letRs, nrm, cnts, cnt, biD, mtOk, mtD, letR, letD, letDs, sto, binD, cmpD, Vi.truthy, esc, lenOk, idxD, isiD, Ret, outs, retR, Rv.isRef, Ob.toD, subS, putD, isNon, okD_int, okD_bool, okD_none, PyData.eqv, PyData.eqvAll, L2.ixN, p, p1])
    · simp -dsimp [evB, evS, evR, evT, evC, evO, evAs, evDs, evIt, evPs, letRs, nrm, cnts, cnt, biD, mtOk, mtD, letR, letD, letDs, sto, binD, cmpD, Vi.truthy, esc, lenOk, idxD, isiD, Ret, outs, retR, Rv.isRef, Ob.toD, subS, putD, isNon, okD_int, okD_bool, okD_none, PyData.eqv, PyData.eqvAll, L2.ixN, p, p1, ha]
      refine k1 _ (Ev_cons fun K k1 k2 _ _ => ?_)
      simp -dsimp [evB, evS, evR, evT, evC, evO, evAs, evDs, evIt, evPs, letRs, nrm, cnts, cnt, biD, mtOk, mtD, letR, letD, letDs, sto, binD, cmpD, Vi.truthy, esc, lenOk, idxD, isiD, Ret, outs, retR, Rv.isRef, Ob.toD, subS, putD, isNon, okD_int, okD_bool, okD_none, PyData.eqv, PyData.eqvAll, L2.ixN, p, p1, ha]
      exact k2 _ _ (by simp -dsimp [evB, evS, evR, evT, evC, evO, evAs, evDs, evIt, evPs, letRs, nrm, cnts, cnt, biD, mtOk, mtD, letR, letD, letDs, sto, binD, cmpD, Vi.truthy, esc, lenOk, idxD, isiD, Ret, outs, retR, Rv.isRef, Ob.toD, subS, putD, isNon, okD_int, okD_bool, okD_none, PyData.eqv, PyData.eqvAll, L2.ixN, p, p1])
abbrev Dk (A B : Int) : Ob := .lst [I A, I B]
def DOk (A B : Int) : Prop := 0 ≤ A ∧ 0 ≤ B ∧ B < 2 ^ 64
theorem c30 (ns : List Int) (hl : ns.length ≤ 63) (p : Nat) (hp : p ≤ 100) : ∃ A B, DOk A B ∧ ∀ {ρ : En}, doCall ⟨2, [], pg.sem fu (n + 1) 30⟩ [.dat (.list (ns.map .int)), .dat (I p)] ρ = .ok (.new (Dk A B)) ρ := by
  have key : Ev (pg.sem fu (n + 1) 30 ([.list (ns.map .int), I p].map .dat)) fun r os => os = [.list (ns.map .int), I p].map .dat ∧ ∃ A B, r = .new (Dk A B) ∧ DOk A B := by
    refine ev30 ?_
    unfold d30
    have w18 : powOk 10 18 = true := by decide +kernel
    refine Ev_cons fun K k1 k2 _ _ => ?_
    simp -dsimp [evB, evS, evR, evT, evC, evO, evAs, evDs, evIt, evPs, letRs, nrm, cnts, cnt, biD, mtOk, mtD, letR, letD, letDs, sto, binD, cmpD, Vi.truthy, esc, lenOk, idxD, isiD, Ret, outs, retR, Rv.isRef, Ob.toD, subS, putD, isNon, okD_int, okD_bool, okD_none, PyData.eqv, PyData.eqvAll, L2.ixN]
    refine k1 _ (Ev_cons fun K k1 k2 _ _ => ?_)
    obtain ⟨cell, hK⟩ : ∃ cell : Int, (K .nx [.dat (.list (ns.map .int)), .dat (I p), .dat (I cell), .non] → Ev (evS ⟨Fns pg.gd fu pg.pc.ds n, pg.gd, fu⟩ (.iff (.cmp .lt (.var 1) (.bi .len [(.var 0)])) [.asg (.nm 2) (.idx (.var 0) (.var 1))] []) [.dat (.list (ns.map .int)), .dat (I p), .dat (I 0), .non]) K) := by
      by_cases h : p < ns.length
      · have hx : (ns.map PyData.int)[p]? = some (.int ns[p]) := by simp [h]
        have h' : (p : Int) < (ns.length : Int) := by omega
        refine ⟨ns[p], fun hk => ?_⟩
        simp -dsimp [evB, evS, evR, evT, evC, evO, evAs, evDs, evIt, evPs, letRs, nrm, cnts, cnt, biD, mtOk, mtD, letR, letD, letDs, sto, binD, cmpD, Vi.truthy, esc, lenOk, idxD, isiD, Ret, outs, retR, Rv.isRef, Ob.toD, subS, putD, isNon, okD_int, okD_bool, okD_none, PyData.eqv, PyData.eqvAll, L2.ixN, h, h', atD_nat, hx]
        exact hk
      · have h' : ¬ (p : Int) < (ns.length : Int) := by omega
        refine ⟨0, fun hk => ?_⟩
        simp -dsimp [evB, evS, evR, evT, evC, evO, evAs, evDs, evIt, evPs, letRs, nrm, cnts, cnt, biD, mtOk, mtD, letR, letD, letDs, sto, binD, cmpD, Vi.truthy, esc, lenOk, idxD, isiD, Ret, outs, retR, Rv.isRef, Ob.toD, subS, putD, isNon, okD_int, okD_bool, okD_none, PyData.eqv, PyData.eqvAll, L2.ixN, h, h']
        exact hk
    refine hK (k1 _ (Ev_cons fun K k1 k2 _ _ => ?_))
    simp -dsimp [evB, evS, evR, evT, evC, evO, evAs, evDs, evIt, evPs, letRs, nrm, cnts, cnt, biD, mtOk, mtD, letR, letD, letDs, sto, binD, cmpD, Vi.truthy, esc, lenOk, idxD, isiD, Ret, outs, retR, Rv.isRef, Ob.toD, subS, putD, isNon, okD_int, okD_bool, okD_none, PyData.eqv, PyData.eqvAll, L2.ixN]
    obtain ⟨r1, r2⟩ := fmod_range (i := cell + 7919 * p + 104729) (m := 2305843009213693951) (by omega)
    refine k1 _ (Ev_cons fun K k1 k2 _ _ => ?_)
    generalize (cell + 7919 * p + 104729).fmod 2305843009213693951 = S at *
    have b1 : bigOk S S = true := bigOk_left (by omega)
    have b2 : bigOk (S * S) S = true := bigOk_right (by omega)
    simp -dsimp [evB, evS, evR, evT, evC, evO, evAs, evDs, evIt, evPs, letRs, nrm, cnts, cnt, biD, mtOk, mtD, letR, letD, letDs, sto, binD, cmpD, Vi.truthy, esc, lenOk, idxD, isiD, Ret, outs, retR, Rv.isRef, Ob.toD, subS, putD, isNon, okD_int, okD_bool, okD_none, PyData.eqv, PyData.eqvAll, L2.ixN, b1, b2]
    obtain ⟨r3, r4⟩ := fmod_range (i := S * S * S + 31 * p + 7) (m := 2305843009213693951) (by omega)
    generalize (S * S * S + 31 * p + 7).fmod 2305843009213693951 = S2 at *
    refine k1 _ (Ev_cons fun K k1 k2 _ _ => ?_)
    by_cases hc : cell < 1000000000000000000
    · simp -dsimp [evB, evS, evR, evT, evC, evO, evAs, evDs, evIt, evPs, letRs, nrm, cnts, cnt, biD, mtOk, mtD, letR, letD, letDs, sto, binD, cmpD, Vi.truthy, esc, lenOk, idxD, isiD, Ret, outs, retR, Rv.isRef, Ob.toD, subS, putD, isNon, okD_int, okD_bool, okD_none, PyData.eqv, PyData.eqvAll, L2.ixN, w18, hc]
      refine k2 _ _ ?_
      simp -dsimp [evB, evS, evR, evT, evC, evO, evAs, evDs, evIt, evPs, letRs, nrm, cnts, cnt, biD, mtOk, mtD, letR, letD, letDs, sto, binD, cmpD, Vi.truthy, esc, lenOk, idxD, isiD, Ret, outs, retR, Rv.isRef, Ob.toD, subS, putD, isNon, okD_int, okD_bool, okD_none, PyData.eqv, PyData.eqvAll, L2.ixN]
      exact ⟨_, _, ⟨rfl, rfl⟩, by omega, r3, by omega⟩
    · simp -dsimp [evB, evS, evR, evT, evC, evO, evAs, evDs, evIt, evPs, letRs, nrm, cnts, cnt, biD, mtOk, mtD, letR, letD, letDs, sto, binD, cmpD, Vi.truthy, esc, lenOk, idxD, isiD, Ret, outs, retR, Rv.isRef, Ob.toD, subS, putD, isNon, okD_int, okD_bool, okD_none, PyData.eqv, PyData.eqvAll, L2.ixN, w18, hc]
      refine k1 _ (Ev_cons fun K k1 k2 _ _ => ?_)
      simp -dsimp [evB, evS, evR, evT, evC, evO, evAs, evDs, evIt, evPs, letRs, nrm, cnts, cnt, biD, mtOk, mtD, letR, letD, letDs, sto, binD, cmpD, Vi.truthy, esc, lenOk, idxD, isiD, Ret, outs, retR, Rv.isRef, Ob.toD, subS, putD, isNon, okD_int, okD_bool, okD_none, PyData.eqv, PyData.eqvAll, L2.ixN, w18, hc]
      refine k2 _ _ ?_
      simp -dsimp [evB, evS, evR, evT, evC, evO, evAs, evDs, evIt, evPs, letRs, nrm, cnts, cnt, biD, mtOk, mtD, letR, letD, letDs, sto, binD, cmpD, Vi.truthy, esc, lenOk, idxD, isiD, Ret, outs, retR, Rv.isRef, Ob.toD, subS, putD, isNon, okD_int, okD_bool, okD_none, PyData.eqv, PyData.eqvAll, L2.ixN]
      exact ⟨_, _, ⟨rfl, rfl⟩, by omega, r3, by omega⟩
  obtain ⟨r, os, e, rfl, A, B, rfl, hw⟩ := key.eq
  exact ⟨A, B, hw, fun {ρ} => doCall_data (ds := [.list (ns.map .int), I p]) rfl rfl e rfl⟩
theorem c31 (A B m : Int) (hw : DOk A B) (m0 : 0 < m) (m1 : m.natAbs < 2 ^ 64) :
    Ev (pg.sem fu (n + 1) 31 [.own .par (Dk A B), .dat (I m)]) fun r os => ∃ v A' B', r = .dat (I v) ∧ os = [.own .par (Dk A' B'), .dat (I m)] ∧ 0 ≤ v ∧ v < m ∧ DOk A' B' := by
  obtain ⟨hA, hB, hB2⟩ := hw
  have hm : m ≠ 0 := by omega
  have hdiv : divOk m = true := by
    unfold divOk
    simp [hm]
    exact (Nat.log2_lt (by omega)).mpr (Nat.lt_of_lt_of_le m1 (Nat.pow_le_pow_right (by omega) (by omega)))
  refine ev31 ?_
  unfold d31
  by_cases h0 : 0 < A
  · refine Ev_cons fun K k1 k2 _ _ => ?_
    simp -dsimp [evB, evS, evR, evT, evC, evO, evAs, evDs, evIt, evPs, letRs, nrm, cnts, cnt, biD, mtOk, mtD, letR, letD, letDs, sto, binD, cmpD, Vi.truthy, esc, lenOk, idxD, isiD, Ret, outs, retR, Rv.isRef, Ob.toD, subS, putD, isNon, okD_int, okD_bool, okD_none, PyData.eqv, PyData.eqvAll, L2.ixN, h0, hm, hdiv]
    refine k2 _ _ ?_
    simp -dsimp [evB, evS, evR, evT, evC, evO, evAs, evDs, evIt, evPs, letRs, nrm, cnts, cnt, biD, mtOk, mtD, letR, letD, letDs, sto, binD, cmpD, Vi.truthy, esc, lenOk, idxD, isiD, Ret, outs, retR, Rv.isRef, Ob.toD, subS, putD, isNon, okD_int, okD_bool, okD_none, PyData.eqv, PyData.eqvAll, L2.ixN]
    exact ⟨_, _, ⟨rfl, rfl⟩, (fmod_range m0).1, (fmod_range m0).2, Int.fdiv_nonneg hA (by omega), hB, hB2⟩
  · refine Ev_cons fun K k1 k2 _ _ => ?_
    simp -dsimp [evB, evS, evR, evT, evC, evO, evAs, evDs, evIt, evPs, letRs, nrm, cnts, cnt, biD, mtOk, mtD, letR, letD, letDs, sto, binD, cmpD, Vi.truthy, esc, lenOk, idxD, isiD, Ret, outs, retR, Rv.isRef, Ob.toD, subS, putD, isNon, okD_int, okD_bool, okD_none, PyData.eqv, PyData.eqvAll, L2.ixN, h0]
    refine k1 _ (Ev_cons fun K k1 k2 _ _ => ?_)
    have w64 : powOk 2 64 = true := by decide +kernel
    have w33 : powOk 2 33 = true := by decide +kernel
    have d33 : divOk 8589934592 = true := by decide +kernel
    simp -dsimp [evB, evS, evR, evT, evC, evO, evAs, evDs, evIt, evPs, letRs, nrm, cnts, cnt, biD, mtOk, mtD, letR, letD, letDs, sto, binD, cmpD, Vi.truthy, esc, lenOk, idxD, isiD, Ret, outs, retR, Rv.isRef, Ob.toD, subS, putD, isNon, okD_int, okD_bool, okD_none, PyData.eqv, PyData.eqvAll, L2.ixN, w64]
    obtain ⟨r1, r2⟩ := fmod_range (i := B * 6364136223846793005 + 1442695040888963407) (m := 18446744073709551616) (by omega)
    generalize (B * 6364136223846793005 + 1442695040888963407).fmod 18446744073709551616 = M1 at *
    refine k1 _ (Ev_cons fun K k1 k2 _ _ => ?_)
    simp -dsimp [evB, evS, evR, evT, evC, evO, evAs, evDs, evIt, evPs, letRs, nrm, cnts, cnt, biD, mtOk, mtD, letR, letD, letDs, sto, binD, cmpD, Vi.truthy, esc, lenOk, idxD, isiD, Ret, outs, retR, Rv.isRef, Ob.toD, subS, putD, isNon, okD_int, okD_bool, okD_none, PyData.eqv, PyData.eqvAll, L2.ixN, w33, d33, hm]
    refine k2 _ _ ?_
    simp -dsimp [evB, evS, evR, evT, evC, evO, evAs, evDs, evIt, evPs, letRs, nrm, cnts, cnt, biD, mtOk, mtD, letR, letD, letDs, sto, binD, cmpD, Vi.truthy, esc, lenOk, idxD, isiD, Ret, outs, retR, Rv.isRef, Ob.toD, subS, putD, isNon, okD_int, okD_bool, okD_none, PyData.eqv, PyData.eqvAll, L2.ixN]
    exact ⟨_, _, ⟨rfl, rfl⟩, (fmod_range m0).1, (fmod_range m0).2, hA, r1, r2⟩
theorem draw {A B : Int} (hw : DOk A B) (m : Int) (m0 : 0 < m) (m1 : m.natAbs < 2 ^ 64) : ∃ v A' B', 0 ≤ v ∧ v < m ∧ DOk A' B' ∧ ∀ ρ : En, doCall ⟨2, [0], pg.sem fu (n + 1) 31⟩ [.ref 0, .dat (I m)] (.own .par (Dk A B) :: ρ) = .ok (.dat (I v)) (.own .par (Dk A' B') :: ρ) := by
  obtain ⟨r, os, e, v, A', B', rfl, rfl, h1, h2, h3⟩ := (c31 (fu := fu) (n := n) A B m hw m0 m1).eq
  refine ⟨v, A', B', h1, h2, h3, fun ρ => Ev.sem_eq ?_⟩
  refine Ev_call0 (f := ⟨2, [0], pg.sem fu (n + 1) 31⟩) (ds := [I m]) (fl := .par) (o := Dk A B) rfl (.inr rfl) rfl rfl ?_
  show Ev (pg.sem fu (n + 1) 31 _) _
  exact Ev.of_eq e ⟨rfl, _, rfl, rfl, rfl⟩
inductive Smp : Nat → PyData → Prop
  | non {m : Nat} : Smp m .none
  | int {m : Nat} (i : Int) : Smp m (.int i)
  | bool {m : Nat} (b : Bool) : Smp m (.bool b)
  | tup {m : Nat} {xs : List PyData} : xs.length ≤ 10000 → (∀ x ∈ xs, Smp m x) → Smp (m + 1) (.tuple xs)
  | lst {m : Nat} {xs : List PyData} : xs.length ≤ 10000 → (∀ x ∈ xs, Smp m x) → Smp (m + 1) (.list xs)
theorem lc_nil {k : Lk} {f : PyData → En → Rs (Option PyData)} {ρ : En} (hk : lkOk k ρ = true) : ∀ (xs : List PyData), (∀ x ∈ xs, f x ρ = .ok none ρ) → lcL k f xs ρ = .ok [] ρ
  | [], _ => rfl
  | x :: xs, h => by
    unfold lcL
    rw [if_pos hk, h x (List.mem_cons_self ..), Rs.bind_ok, lc_nil hk xs fun y hy => h y (List.mem_cons_of_mem _ hy)]
    rfl
theorem okD_nil : okD (.list []) = true := rfl
theorem s37 {m : Nat} {e : PyData} (h : Smp m e) : ∀ {n : Nat}, pg.sem fu (n + m + 1) 37 [.dat e, .dat e] = .ok (.dat (.bool true)) [.dat e, .dat e] := by
  induction h with
  | non =>
    intro n
    refine Ev.sem_eq (ev37 ?_)
    unfold d37
    simp -dsimp [evB, evS, evR, evT, evC, evO, evAs, evDs, evIt, evPs, letRs, nrm, cnts, cnt, biD, mtOk, mtD, letR, letD, letDs, sto, binD, cmpD, Vi.truthy, esc, lenOk, idxD, isiD, Ret, outs, retR, Rv.isRef, Ob.toD, subS, putD, isNon, okD_int, okD_bool, okD_none, PyData.eqv, PyData.eqvAll, L2.ixN]
  | int i =>
    intro n
    refine Ev.sem_eq (ev37 ?_)
    unfold d37
    simp -dsimp [evB, evS, evR, evT, evC, evO, evAs, evDs, evIt, evPs, letRs, nrm, cnts, cnt, biD, mtOk, mtD, letR, letD, letDs, sto, binD, cmpD, Vi.truthy, esc, lenOk, idxD, isiD, Ret, outs, retR, Rv.isRef, Ob.toD, subS, putD, isNon, okD_int, okD_bool, okD_none, PyData.eqv, PyData.eqvAll, L2.ixN]
  | bool i =>
    intro n
    refine Ev.sem_eq (ev37 ?_)
    unfold d37
    simp -dsimp [evB, evS, evR, evT, evC, evO, evAs, evDs, evIt, evPs, letRs, nrm, cnts, cnt, biD, mtOk, mtD, letR, letD, letDs, sto, binD, cmpD, Vi.truthy, esc, lenOk, idxD, isiD, Ret, outs, retR, Rv.isRef, Ob.toD, subS, putD, isNon, okD_int, okD_bool, okD_none, PyData.eqv, PyData.eqvAll, L2.ixN]
  | @tup m xs hl hx ih =>
    intro n
    refine Ev.sem_eq (ev37 ?_)
    unfold d37
    have hr := rng_ok (N := xs.length) (by omega)
    refine Ev_cons fun KO ko1 ko2 _ _ => ?_
    refine Ev_iff (k := true) (ρ1 := [.dat (.tuple xs), .dat (.tuple xs), .non]) (by simp -dsimp [evB, evS, evR, evT, evC, evO, evAs, evDs, evIt, evPs, letRs, nrm, cnts, cnt, biD, mtOk, mtD, letR, letD, letDs, sto, binD, cmpD, Vi.truthy, esc, lenOk, idxD, isiD, Ret, outs, retR, Rv.isRef, Ob.toD, subS, putD, isNon, okD_int, okD_bool, okD_none, PyData.eqv, PyData.eqvAll, L2.ixN]) ?_
    rw [if_pos rfl]
    refine Ev_cons fun K k1 k2 _ _ => ?_
    simp -dsimp [evB, evS, evR, evT, evC, evO, evAs, evDs, evIt, evPs, letRs, nrm, cnts, cnt, biD, mtOk, mtD, letR, letD, letDs, sto, binD, cmpD, Vi.truthy, esc, lenOk, idxD, isiD, Ret, outs, retR, Rv.isRef, Ob.toD, subS, putD, isNon, okD_int, okD_bool, okD_none, PyData.eqv, PyData.eqvAll, L2.ixN]
    refine k1 _ (Ev_cons fun K k1 k2 _ _ => ?_)
    simp -dsimp [evB, evS, evR, evT, evC, evO, evAs, evDs, evIt, evPs, letRs, nrm, cnts, cnt, biD, mtOk, mtD, letR, letD, letDs, sto, binD, cmpD, Vi.truthy, esc, lenOk, idxD, isiD, Ret, outs, retR, Rv.isRef, Ob.toD, subS, putD, isNon, okD_int, okD_bool, okD_none, PyData.eqv, PyData.eqvAll, L2.ixN]
    refine k1 _ (Ev_cons fun K k1 k2 _ _ => ?_)
    have hl' : xs.length ≤ 1000000 := by omega
    have key : ∀ f : PyData → En → Rs (Option PyData), (∀ i, (h : i < xs.length) → f (.int (i : Nat)) [.dat (.tuple xs), .dat (.tuple xs), .non] = .ok none [.dat (.tuple xs), .dat (.tuple xs), .non]) → lcL none f ((List.range xs.length).map fun k => PyData.int (k : Nat)) [.dat (.tuple xs), .dat (.tuple xs), .non] = .ok [] [.dat (.tuple xs), .dat (.tuple xs), .non] := fun f hf => by
      refine lc_nil rfl _ fun x hx => ?_
      simp at hx
      obtain ⟨i, hi, rfl⟩ := hx
      exact hf i hi
    simp -dsimp [evB, evS, evR, evT, evC, evO, evAs, evDs, evIt, evPs, letRs, nrm, cnts, cnt, biD, mtOk, mtD, letR, letD, letDs, sto, binD, cmpD, Vi.truthy, esc, lenOk, idxD, isiD, Ret, outs, retR, Rv.isRef, Ob.toD, subS, putD, isNon, okD_int, okD_bool, okD_none, PyData.eqv, PyData.eqvAll, L2.ixN, hr, plainAt, wipeE, hl']
    rw [key]
    · simp -dsimp [evB, evS, evR, evT, evC, evO, evAs, evDs, evIt, evPs, letRs, nrm, cnts, cnt, biD, mtOk, mtD, letR, letD, letDs, sto, binD, cmpD, Vi.truthy, esc, lenOk, idxD, isiD, Ret, outs, retR, Rv.isRef, Ob.toD, subS, putD, isNon, okD_int, okD_bool, okD_none, PyData.eqv, PyData.eqvAll, L2.ixN, lkOk, backE, unl, okD_nil]
      refine k2 _ _ (ko2 _ _ ?_)
      simp -dsimp [evB, evS, evR, evT, evC, evO, evAs, evDs, evIt, evPs, letRs, nrm, cnts, cnt, biD, mtOk, mtD, letR, letD, letDs, sto, binD, cmpD, Vi.truthy, esc, lenOk, idxD, isiD, Ret, outs, retR, Rv.isRef, Ob.toD, subS, putD, isNon, okD_int, okD_bool, okD_none, PyData.eqv, PyData.eqvAll, L2.ixN]
    · intro i hi
      have hx := List.getElem?_eq_getElem hi
      have hc : ∀ {ρ : En}, doCall ⟨2, [], pg.sem fu (n + (m + 1)) 37⟩ [.dat xs[i], .dat xs[i]] ρ = .ok (.dat (.bool true)) ρ := fun {ρ} => by
        have := ih _ (List.getElem_mem hi) (n := n)
        rw [Nat.add_assoc] at this
        exact doCall_data (ds := [xs[i], xs[i]]) rfl rfl this rfl
      generalize xs[i] = e at *
      simp -dsimp [evB, evS, evR, evT, evC, evO, evAs, evDs, evIt, evPs, letRs, nrm, cnts, cnt, biD, mtOk, mtD, letR, letD, letDs, sto, binD, cmpD, Vi.truthy, esc, lenOk, idxD, isiD, Ret, outs, retR, Rv.isRef, Ob.toD, subS, putD, isNon, okD_int, okD_bool, okD_none, PyData.eqv, PyData.eqvAll, L2.ixN, at37, atD_nat, hx, hc, Rs.calm, wipeE]
  | @lst m xs hl hx ih =>
    intro n
    refine Ev.sem_eq (ev37 ?_)
    unfold d37
    have hr := rng_ok (N := xs.length) (by omega)
    refine Ev_cons fun KO ko1 ko2 _ _ => ?_
    refine Ev_iff (k := true) (ρ1 := [.dat (.list xs), .dat (.list xs), .non]) (by simp -dsimp [evB, evS, evR, evT, evC, evO, evAs, evDs, evIt, evPs, letRs, nrm, cnts, cnt, biD, mtOk, mtD, letR, letD, letDs, sto, binD, cmpD, Vi.truthy, esc, lenOk, idxD, isiD, Ret, outs, retR, Rv.isRef, Ob.toD, subS, putD, isNon, okD_int, okD_bool, okD_none, PyData.eqv, PyData.eqvAll, L2.ixN]) ?_
    rw [if_pos rfl]
    refine Ev_cons fun K k1 k2 _ _ => ?_
    simp -dsimp [evB, evS, evR, evT, evC, evO, evAs, evDs, evIt, evPs, letRs, nrm, cnts, cnt, biD, mtOk, mtD, letR, letD, letDs, sto, binD, cmpD, Vi.truthy, esc, lenOk, idxD, isiD, Ret, outs, retR, Rv.isRef, Ob.toD, subS, putD, isNon, okD_int, okD_bool, okD_none, PyData.eqv, PyData.eqvAll, L2.ixN]
    refine k1 _ (Ev_cons fun K k1 k2 _ _ => ?_)
    simp -dsimp [evB, evS, evR, evT, evC, evO, evAs, evDs, evIt, evPs, letRs, nrm, cnts, cnt, biD, mtOk, mtD, letR, letD, letDs, sto, binD, cmpD, Vi.truthy, esc, lenOk, idxD, isiD, Ret, outs, retR, Rv.isRef, Ob.toD, subS, putD, isNon, okD_int, okD_bool, okD_none, PyData.eqv, PyData.eqvAll, L2.ixN]
    refine k1 _ (Ev_cons fun K k1 k2 _ _ => ?_)
    have hl' : xs.length ≤ 1000000 := by omega
    have key : ∀ f : PyData → En → Rs (Option PyData), (∀ i, (h : i < xs.length) → f (.int (i : Nat)) [.dat (.list xs), .dat (.list xs), .non] = .ok none [.dat (.list xs), .dat (.list xs), .non]) → lcL none f ((List.range xs.length).map fun k => PyData.int (k : Nat)) [.dat (.list xs), .dat (.list xs), .non] = .ok [] [.dat (.list xs), .dat (.list xs), .non] := fun f hf => by
      refine lc_nil rfl _ fun x hx => ?_
      simp at hx
      obtain ⟨i, hi, rfl⟩ := hx
      exact hf i hi
    simp -dsimp [evB, evS, evR, evT, evC, evO, evAs, evDs, evIt, evPs, letRs, nrm, cnts, cnt, biD, mtOk, mtD, letR, letD, letDs, sto, binD, cmpD, Vi.truthy, esc, lenOk, idxD, isiD, Ret, outs, retR, Rv.isRef, Ob.toD, subS, putD, isNon, okD_int, okD_bool, okD_none, PyData.eqv, PyData.eqvAll, L2.ixN, hr, plainAt, wipeE, hl']
    rw [key]
    · simp -dsimp [evB, evS, evR, evT, evC, evO, evAs, evDs, evIt, evPs, letRs, nrm, cnts, cnt, biD, mtOk, mtD, letR, letD, letDs, sto, binD, cmpD, Vi.truthy, esc, lenOk, idxD, isiD, Ret, outs, retR, Rv.isRef, Ob.toD, subS, putD, isNon, okD_int, okD_bool, okD_none, PyData.eqv, PyData.eqvAll, L2.ixN, lkOk, backE, unl, okD_nil]
      refine k2 _ _ (ko2 _ _ ?_)
      simp -dsimp [evB, evS, evR, evT, evC, evO, evAs, evDs, evIt, evPs, letRs, nrm, cnts, cnt, biD, mtOk, mtD, letR, letD, letDs, sto, binD, cmpD, Vi.truthy, esc, lenOk, idxD, isiD, Ret, outs, retR, Rv.isRef, Ob.toD, subS, putD, isNon, okD_int, okD_bool, okD_none, PyData.eqv, PyData.eqvAll, L2.ixN]
    · intro i hi
      have hx := List.getElem?_eq_getElem hi
      have hc : ∀ {ρ : En}, doCall ⟨2, [], pg.sem fu (n + (m + 1)) 37⟩ [.dat xs[i], .dat xs[i]] ρ = .ok (.dat (.bool true)) ρ := fun {ρ} => by
        have := ih _ (List.getElem_mem hi) (n := n)
        rw [Nat.add_assoc] at this
        exact doCall_data (ds := [xs[i], xs[i]]) rfl rfl this rfl
      generalize xs[i] = e at *
      simp -dsimp [evB, evS, evR, evT, evC, evO, evAs, evDs, evIt, evPs, letRs, nrm, cnts, cnt, biD, mtOk, mtD, letR, letD, letDs, sto, binD, cmpD, Vi.truthy, esc, lenOk, idxD, isiD, Ret, outs, retR, Rv.isRef, Ob.toD, subS, putD, isNon, okD_int, okD_bool, okD_none, PyData.eqv, PyData.eqvAll, L2.ixN, at37, atD_nat, hx, hc, Rs.calm, wipeE]
theorem rng4 : rngD 0 4 = some [I 0, I 1, I 2, I 3] := rfl
def gdB (x : M2) : Bool := decide (x.a.natAbs ≤ 3) && decide (x.b.natAbs ≤ 3) && decide (x.c.natAbs ≤ 3) && decide (x.d.natAbs ≤ 3) && x.gr && decide (x.det.natAbs < 10)
def isGd : PyData → Bool
  | .tuple [.tuple [.int a, .int b], .tuple [.int c, .int d]] => gdB ⟨a, b, c, d⟩
  | _ => false
theorem gds_of {L : List PyData} (h : L.all isGd = true) : ∀ v : Int, 0 ≤ v → v < L.length → ∃ x, atD L v = some (TM x) ∧ gdB x = true := by
  intro v h0 h1
  obtain ⟨k, rfl⟩ := Int.eq_ofNat_of_zero_le h0
  have hk : k < L.length := by omega
  rw [atD_nat, List.getElem?_eq_getElem hk]
  have := List.all_eq_true.mp h _ (List.getElem_mem hk)
  generalize L[k] = e at *
  unfold isGd at this
  split at this
  · rename_i a b c d
    exact ⟨⟨a, b, c, d⟩, rfl, this⟩
  · cases this
theorem gd_sml {x : M2} (h : gdB x = true) : x.a.natAbs ≤ 3 ∧ x.b.natAbs ≤ 3 ∧ x.c.natAbs ≤ 3 ∧ x.d.natAbs ≤ 3 ∧ x.gr = true ∧ x.det.natAbs < 10 := by
  simp only [gdB, Bool.and_eq_true, decide_eq_true_eq] at h
  obtain ⟨⟨⟨⟨⟨h1, h2⟩, h3⟩, h4⟩, h5⟩, h6⟩ := h
  exact ⟨h1, h2, h3, h4, h5, h6⟩
theorem c40 {A B : Int} (hw : DOk A B) : Ev (pg.sem fu (n + 3) 40 [.own .par (Dk A B)]) fun r os => ∃ x A' B', r = .dat (TM x) ∧ os = [.own .par (Dk A' B')] ∧ gdB x = true ∧ DOk A' B' := by
  refine ev40 ?_
  unfold d40
  refine Ev_cons fun K k1 k2 _ _ => ?_
  simp -dsimp [evB, evS, evR, evT, evC, evO, evAs, evDs, evIt, evPs, letRs, nrm, cnts, cnt, biD, mtOk, mtD, letR, letD, letDs, sto, binD, cmpD, Vi.truthy, esc, lenOk, idxD, isiD, Ret, outs, retR, Rv.isRef, Ob.toD, subS, putD, isNon, okD_int, okD_bool, okD_none, PyData.eqv, PyData.eqvAll, L2.ixN]
  refine k1 _ (Ev_cons fun K k1 k2 _ _ => ?_)
  simp -dsimp [evB, evS, evR, evT, evC, evO, evAs, evDs, evIt, evPs, letRs, nrm, cnts, cnt, biD, mtOk, mtD, letR, letD, letDs, sto, binD, cmpD, Vi.truthy, esc, lenOk, idxD, isiD, Ret, outs, retR, Rv.isRef, Ob.toD, subS, putD, isNon, okD_int, okD_bool, okD_none, PyData.eqv, PyData.eqvAll, L2.ixN]
  refine k1 _ ?_
  generalize hL : [T2 (T2 (I 2) (I 0)) (T2 (I 0) (I 2)), T2 (T2 (I 3) (I 0)) (T2 (I 0) (I 3)), T2 (T2 (I 1) (I (-1))) (T2 (I 1) (I 1)), T2 (T2 (I 0) (I 2)) (T2 (I 1) (I 0)), T2 (T2 (I 0) (I (-2))) (T2 (I 1) (I 1)), T2 (T2 (I 2) (I 0)) (T2 (I 0) (I (-3))), T2 (T2 (I 0) (I (-3))) (T2 (I 2) (I 0)), T2 (T2 (I 1) (I 1)) (T2 (I (-1)) (I 2)), T2 (T2 (I 2) (I 1)) (T2 (I 0) (I 2)), T2 (T2 (I (-1)) (I (-2))) (T2 (I 1) (I (-1))), T2 (T2 (I 0) (I 3)) (T2 (I 1) (I (-1)))] = L
  have hLo := gds_of (L := L) (by rw [← hL]; decide +kernel)
  have hLl : L.length = 11 := by rw [← hL]; rfl
  clear hL
  obtain ⟨v0, A0, B0, v00, v01, w0, e0⟩ := draw (fu := fu) (n := n + 1) hw 11 (by decide) (by decide)
  obtain ⟨x, hx, gx⟩ := hLo v0 v00 (by omega)
  obtain ⟨v1, A1, B1, v10, v11, w1, e1⟩ := draw (fu := fu) (n := n + 1) w0 2 (by decide) (by decide)
  refine Ev_cons fun K k1 k2 _ _ => ?_
  simp -dsimp [evB, evS, evR, evT, evC, evO, evAs, evDs, evIt, evPs, letRs, nrm, cnts, cnt, biD, mtOk, mtD, letR, letD, letDs, sto, binD, cmpD, Vi.truthy, esc, lenOk, idxD, isiD, Ret, outs, retR, Rv.isRef, Ob.toD, subS, putD, isNon, okD_int, okD_bool, okD_none, PyData.eqv, PyData.eqvAll, L2.ixN, at31, e0, hx]
  refine k1 _ (Ev_cons fun K k1 k2 _ _ => ?_)
  by_cases hv : v1 = 1
  · obtain ⟨u1, A2, B2, u10, u11, w2, e2⟩ := draw (fu := fu) (n := n + 1) w1 7 (by decide) (by decide)
    obtain ⟨u2, A3, B3, u20, u21, w3, e3⟩ := draw (fu := fu) (n := n + 1) w2 7 (by decide) (by decide)
    obtain ⟨u3, A4, B4, u30, u31, w4, e4⟩ := draw (fu := fu) (n := n + 1) w3 7 (by decide) (by decide)
    obtain ⟨u4, A5, B5, u40, u41, w5, e5⟩ := draw (fu := fu) (n := n + 1) w4 7 (by decide) (by decide)
    have sy : Sml ⟨u1 - 3, u2 - 3, u3 - 3, u4 - 3⟩ := by constructor <;> unfold Md <;> simp only <;> omega
    have h35 := fun {ρ : En} => @c39 fu n ⟨u1 - 3, u2 - 3, u3 - 3, u4 - 3⟩ sy ρ
    have h34 := fun {ρ : En} => @c38 fu (n + 1) ⟨u1 - 3, u2 - 3, u3 - 3, u4 - 3⟩ sy ρ
    have gy : ∀ h1 : (M2.mk (u1 - 3) (u2 - 3) (u3 - 3) (u4 - 3)).gr = true, ∀ h2 : (M2.mk (u1 - 3) (u2 - 3) (u3 - 3) (u4 - 3)).det.natAbs < 10, gdB ⟨u1 - 3, u2 - 3, u3 - 3, u4 - 3⟩ = true := fun h1 h2 => by
      unfold gdB
      rw [h1]
      simp [h2]
      omega
    generalize (M2.mk (u1 - 3) (u2 - 3) (u3 - 3) (u4 - 3)).gr = g at *
    generalize (M2.mk (u1 - 3) (u2 - 3) (u3 - 3) (u4 - 3)).det = s at *
    have ha : (if s < 0 then -s else s) = (s.natAbs : Int) := by split <;> omega
    cases g with
    | false =>
      simp -dsimp [evB, evS, evR, evT, evC, evO, evAs, evDs, evIt, evPs, letRs, nrm, cnts, cnt, biD, mtOk, mtD, letR, letD, letDs, sto, binD, cmpD, Vi.truthy, esc, lenOk, idxD, isiD, Ret, outs, retR, Rv.isRef, Ob.toD, subS, putD, isNon, okD_int, okD_bool, okD_none, PyData.eqv, PyData.eqvAll, L2.ixN, at31, e1, hv, rng4, plainAt, wipeE, lcL, lkOk, Rs.calm, backE, unl, e2, e3, e4, e5, at39, h35]
      refine k1 _ (Ev_cons fun K k1 k2 _ _ => ?_)
      simp -dsimp [evB, evS, evR, evT, evC, evO, evAs, evDs, evIt, evPs, letRs, nrm, cnts, cnt, biD, mtOk, mtD, letR, letD, letDs, sto, binD, cmpD, Vi.truthy, esc, lenOk, idxD, isiD, Ret, outs, retR, Rv.isRef, Ob.toD, subS, putD, isNon, okD_int, okD_bool, okD_none, PyData.eqv, PyData.eqvAll, L2.ixN]
      refine k2 _ _ ?_
      exact ⟨rfl, _, rfl, x, A5, B5, rfl, rfl, gx, w5⟩
    | true =>
      by_cases h10 : (s.natAbs : Int) < 10
      · simp -dsimp [evB, evS, evR, evT, evC, evO, evAs, evDs, evIt, evPs, letRs, nrm, cnts, cnt, biD, mtOk, mtD, letR, letD, letDs, sto, binD, cmpD, Vi.truthy, esc, lenOk, idxD, isiD, Ret, outs, retR, Rv.isRef, Ob.toD, subS, putD, isNon, okD_int, okD_bool, okD_none, PyData.eqv, PyData.eqvAll, L2.ixN, at31, e1, hv, rng4, plainAt, wipeE, lcL, lkOk, Rs.calm, backE, unl, e2, e3, e4, e5, at39, h35, at38, h34, ha, h10]
        refine k1 _ (Ev_cons fun K k1 k2 _ _ => ?_)
        simp -dsimp [evB, evS, evR, evT, evC, evO, evAs, evDs, evIt, evPs, letRs, nrm, cnts, cnt, biD, mtOk, mtD, letR, letD, letDs, sto, binD, cmpD, Vi.truthy, esc, lenOk, idxD, isiD, Ret, outs, retR, Rv.isRef, Ob.toD, subS, putD, isNon, okD_int, okD_bool, okD_none, PyData.eqv, PyData.eqvAll, L2.ixN]
        refine k2 _ _ ?_
        exact ⟨rfl, _, rfl, ⟨u1 - 3, u2 - 3, u3 - 3, u4 - 3⟩, A5, B5, rfl, rfl, gy rfl (by omega), w5⟩
      · simp -dsimp [evB, evS, evR, evT, evC, evO, evAs, evDs, evIt, evPs, letRs, nrm, cnts, cnt, biD, mtOk, mtD, letR, letD, letDs, sto, binD, cmpD, Vi.truthy, esc, lenOk, idxD, isiD, Ret, outs, retR, Rv.isRef, Ob.toD, subS, putD, isNon, okD_int, okD_bool, okD_none, PyData.eqv, PyData.eqvAll, L2.ixN, at31, e1, hv, rng4, plainAt, wipeE, lcL, lkOk, Rs.calm, backE, unl, e2, e3, e4, e5, at39, h35, at38, h34, ha, h10]
        refine k1 _ (Ev_cons fun K k1 k2 _ _ => ?_)
        simp -dsimp [evB, evS, evR, evT, evC, evO, evAs, evDs, evIt, evPs, letRs, nrm, cnts, cnt, biD, mtOk, mtD, letR, letD, letDs, sto, binD, cmpD, Vi.truthy, esc, lenOk, idxD, isiD, Ret, outs, retR, Rv.isRef, Ob.toD, subS, putD, isNon, okD_int, okD_bool, okD_none, PyData.eqv, PyData.eqvAll, L2.ixN]
        refine k2 _ _ ?_
        exact ⟨rfl, _, rfl, x, A5, B5, rfl, rfl, gx, w5⟩
  · simp -dsimp [evB, evS, evR, evT, evC, evO, evAs, evDs, evIt, evPs, letRs, nrm, cnts, cnt, biD, mtOk, mtD, letR, letD, letDs, sto, binD, cmpD, Vi.truthy, esc, lenOk, idxD, isiD, Ret, outs, retR, Rv.isRef, Ob.toD, subS, putD, isNon, okD_int, okD_bool, okD_none, PyData.eqv, PyData.eqvAll, L2.ixN, at31, e1, hv]
    refine k1 _ (Ev_cons fun K k1 k2 _ _ => ?_)
    simp -dsimp [evB, evS, evR, evT, evC, evO, evAs, evDs, evIt, evPs, letRs, nrm, cnts, cnt, biD, mtOk, mtD, letR, letD, letDs, sto, binD, cmpD, Vi.truthy, esc, lenOk, idxD, isiD, Ret, outs, retR, Rv.isRef, Ob.toD, subS, putD, isNon, okD_int, okD_bool, okD_none, PyData.eqv, PyData.eqvAll, L2.ixN]
    refine k2 _ _ ?_
    exact ⟨rfl, _, rfl, x, A1, B1, rfl, rfl, gx, w1⟩
theorem doCall_par {f : Fn} {i : Nat} {fl : Fl} {o o' : Ob} {ds : List PyData} {r : PyData} {ρ : En} (hi : ρ[i]? = some (.own fl o)) (hf : fl = .loc ∨ fl = .par) (hl : ds.length + 1 = f.np) (hc : f.chg = [0])
    (e : f.sem (.own .par o :: ds.map .dat) = .ok (.dat r) (.own .par o' :: ds.map .dat)) : doCall f (.ref i :: ds.map Rv.dat) ρ = .ok (.dat r) (ρ.set i (.own fl o')) :=
  Ev.sem_eq (Ev_call0 hi hf hl hc (Ev.of_eq e ⟨rfl, _, rfl, rfl, rfl⟩))
theorem told36 {A B : Int} (hw : DOk A B) : ∃ x A' B', gdB x = true ∧ DOk A' B' ∧ ∀ (i : Nat) (fl : Fl) (ρ : En), ρ[i]? = some (.own fl (Dk A B)) → fl = .loc ∨ fl = .par → doCall ⟨1, [0], pg.sem fu (n + 3) 40⟩ [.ref i] ρ = .ok (.dat (TM x)) (ρ.set i (.own fl (Dk A' B'))) := by
  obtain ⟨r, os, e, x, A', B', rfl, rfl, h1, h2⟩ := (c40 (fu := fu) (n := n) hw).eq
  exact ⟨x, A', B', h1, h2, fun i fl ρ hi hf => doCall_par (ds := []) hi hf rfl rfl e⟩
theorem smp_t2 {m : Nat} {a b : PyData} (h1 : Smp m a) (h2 : Smp m b) : Smp (m + 1) (T2 a b) := .tup (by simp) fun e he => by
  simp at he
  rcases he with rfl | rfl
  · exact h1
  · exact h2
@[simp] theorem smp_int {m : Nat} (i : Int) : Smp m (I i) := .int i
@[simp] theorem smp_bool {m : Nat} (b : Bool) : Smp m (.bool b) := .bool b
@[simp] theorem smp_none {m : Nat} : Smp m .none := .non
@[simp] theorem smp_pr {m : Nat} (i j : Int) : Smp (m + 1) (T2 (I i) (I j)) := smp_t2 (.int _) (.int _)
@[simp] theorem smp_tb {m : Nat} (a b c d : Int) : Smp (m + 2) (Tb a b c d) := smp_t2 (smp_pr ..) (smp_pr ..)
theorem perm1 (a : Rv) : permute 1 [0] [a] = some [a] := rfl
inductive Pl : Nat → PyData → Prop
  | non {m : Nat} : Pl m .none
  | bool {m : Nat} (b : Bool) : Pl m (.bool b)
  | int {m : Nat} {i : Int} : i.natAbs < 2 ^ 63 → Pl m (.int i)
  | tup {m : Nat} {xs : List PyData} : xs.length ≤ 1000 → (∀ x ∈ xs, Pl m x) → Pl (m + 1) (.tuple xs)
  | lst {m : Nat} {xs : List PyData} : xs.length ≤ 1000 → (∀ x ∈ xs, Pl m x) → Pl (m + 1) (.list xs)
theorem Pl.mono {m k : Nat} {d : PyData} (h : Pl m d) (e : m ≤ k) : Pl k d := by
  induction h generalizing k with
  | non => exact .non
  | bool b => exact .bool b
  | int h => exact .int h
  | tup hl h ih =>
    obtain ⟨j, rfl⟩ : ∃ j, k = j + 1 := ⟨k - 1, by omega⟩
    exact .tup hl fun x hx => ih x hx (by omega)
  | lst hl h ih =>
    obtain ⟨j, rfl⟩ : ∃ j, k = j + 1 := ⟨k - 1, by omega⟩
    exact .lst hl fun x hx => ih x hx (by omega)
theorem all_of {xs : List PyData} {m : Nat} (h : ∀ x ∈ xs, x.canLay0 = true ∧ noDic x = true ∧ x.depth ≤ m) : PyData.canLayAll0 xs = true ∧ noDics xs = true ∧ PyData.depthAll xs ≤ m := by
  induction xs with
  | nil => simp [PyData.canLayAll0, noDics, PyData.depthAll]
  | cons x xs ih =>
    obtain ⟨a1, a2, a3⟩ := h x (List.mem_cons_self ..)
    obtain ⟨b1, b2, b3⟩ := ih fun y hy => h y (List.mem_cons_of_mem _ hy)
    simp only [PyData.canLayAll0, noDics, PyData.depthAll, a1, a2, b1, b2, Bool.and_self, true_and]
    omega
theorem Pl.parts {m : Nat} {d : PyData} (h : Pl m d) : d.canLay0 = true ∧ noDic d = true ∧ d.depth ≤ m := by
  induction h with
  | non => simp [PyData.canLay0, noDic, PyData.depth]
  | bool b => simp [PyData.canLay0, noDic, PyData.depth]
  | int _ => simp [PyData.canLay0, noDic, PyData.depth]
  | tup _ h ih =>
    obtain ⟨b1, b2, b3⟩ := all_of ih
    simp only [PyData.canLay0, noDic, PyData.depth, b1, b2, true_and]
    omega
  | lst _ h ih =>
    obtain ⟨b1, b2, b3⟩ := all_of ih
    simp only [PyData.canLay0, noDic, PyData.depth, b1, b2, true_and]
    omega
theorem Pl.ok {m : Nat} {d : PyData} (h : Pl m d) (hm : m ≤ 64) : okD d = true := by
  obtain ⟨h1, h2, h3⟩ := h.parts
  unfold okD SeqAt.shaped
  rw [h1, h2]
  simp
  omega
theorem Pl.mem {m : Nat} {xs : List PyData} (h : Pl (m + 1) (.tuple xs)) : xs.length ≤ 1000 ∧ ∀ x ∈ xs, Pl m x := by
  cases h with
  | tup h1 h2 => exact ⟨h1, h2⟩
theorem lc_map {k : Lk} {f : PyData → En → Rs (Option PyData)} {ρ : En} (hk : lkOk k ρ = true) (g : PyData → Option PyData) : ∀ (xs : List PyData), (∀ x ∈ xs, f x ρ = .ok (g x) ρ) → lcL k f xs ρ = .ok (xs.filterMap g) ρ
  | [], _ => rfl
  | x :: xs, h => by
    unfold lcL
    rw [if_pos hk, h x (List.mem_cons_self ..), Rs.bind_ok, lc_map hk g xs fun y hy => h y (List.mem_cons_of_mem _ hy), Rs.bind_ok, List.filterMap_cons]
    cases g x <;> rfl
theorem boolsD_map {α : Type} (p : α → Bool) : ∀ xs : List α, boolsD (xs.map fun x => .bool (p x)) = some (xs.map p)
  | [] => rfl
  | x :: xs => by simp only [List.map_cons, boolsD, boolsD_map p xs]; rfl
theorem fm_some {α β : Type} (g : α → β) : ∀ xs : List α, xs.filterMap (fun x => some (g x)) = xs.map g
  | [] => rfl
  | x :: xs => by simp
def copyB (m : Int) : PyData → Bool
  | .tuple [o, .int g] => isOff o && (decide (0 ≤ g) && decide (g < m))
  | _ => false
theorem c17 (d : PyData) (m : Int) {ρ : En} : doCall ⟨2, [], pg.sem fu (n + 3) 17⟩ [.dat d, .dat (I m)] ρ = .ok (.dat (.bool (copyB m d))) ρ := by
  refine doCall_data (ds := [d, I m]) rfl rfl (Ev.sem_eq (ev17 ?_)) rfl
  unfold d17
  by_cases h : two d = true
  · unfold two at h
    split at h
    · rename_i a b
      cases ha : isOff a
      · have e : copyB m (.tuple [a, b]) = false := by cases b <;> simp [copyB, ha]
        simp -dsimp [evB, evS, evR, evT, evC, evO, evAs, evDs, evIt, evPs, letRs, nrm, cnts, cnt, biD, mtOk, mtD, letR, letD, letDs, sto, binD, cmpD, Vi.truthy, esc, lenOk, idxD, isiD, Ret, outs, retR, Rv.isRef, Ob.toD, subS, putD, isNon, okD_int, okD_bool, okD_none, PyData.eqv, PyData.eqvAll, L2.ixN, at1, at12, c1, c12', two, ha, e]
      · cases b with
        | int g =>
          by_cases h1 : 0 ≤ g
          · simp -dsimp [evB, evS, evR, evT, evC, evO, evAs, evDs, evIt, evPs, letRs, nrm, cnts, cnt, biD, mtOk, mtD, letR, letD, letDs, sto, binD, cmpD, Vi.truthy, esc, lenOk, idxD, isiD, Ret, outs, retR, Rv.isRef, Ob.toD, subS, putD, isNon, okD_int, okD_bool, okD_none, PyData.eqv, PyData.eqvAll, L2.ixN, at1, at12, at0, c0, c1, c12', two, ha, isN, h1, copyB]
          · simp -dsimp [evB, evS, evR, evT, evC, evO, evAs, evDs, evIt, evPs, letRs, nrm, cnts, cnt, biD, mtOk, mtD, letR, letD, letDs, sto, binD, cmpD, Vi.truthy, esc, lenOk, idxD, isiD, Ret, outs, retR, Rv.isRef, Ob.toD, subS, putD, isNon, okD_int, okD_bool, okD_none, PyData.eqv, PyData.eqvAll, L2.ixN, at1, at12, at0, c0, c1, c12', two, ha, isN, h1, copyB]
        | _ => simp -dsimp [evB, evS, evR, evT, evC, evO, evAs, evDs, evIt, evPs, letRs, nrm, cnts, cnt, biD, mtOk, mtD, letR, letD, letDs, sto, binD, cmpD, Vi.truthy, esc, lenOk, idxD, isiD, Ret, outs, retR, Rv.isRef, Ob.toD, subS, putD, isNon, okD_int, okD_bool, okD_none, PyData.eqv, PyData.eqvAll, L2.ixN, at1, at12, at0, c0, c1, c12', two, ha, isN, copyB]
    · cases h
  · have h' : two d = false := by simpa using h
    have e : copyB m d = false := by
      unfold copyB
      split
      · simp [two] at h'
      · rfl
    simp -dsimp [evB, evS, evR, evT, evC, evO, evAs, evDs, evIt, evPs, letRs, nrm, cnts, cnt, biD, mtOk, mtD, letR, letD, letDs, sto, binD, cmpD, Vi.truthy, esc, lenOk, idxD, isiD, Ret, outs, retR, Rv.isRef, Ob.toD, subS, putD, isNon, okD_int, okD_bool, okD_none, PyData.eqv, PyData.eqvAll, L2.ixN, at1, c1, h', e]
structure Cp where
  x : Int
  y : Int
  g : Int
  deriving DecidableEq
def cp (p : Cp) : PyData := T2 (T2 (I p.x) (I p.y)) (I p.g)
def lt3 (p q : Cp) : Bool := decide (p.x < q.x) || (decide (p.x = q.x) && (decide (p.y < q.y) || (decide (p.y = q.y) && decide (p.g < q.g))))
theorem copy_cp {m : Int} {d : PyData} (h : copyB m d = true) : ∃ p : Cp, d = cp p ∧ 0 ≤ p.g ∧ p.g < m := by
  unfold copyB at h
  split at h
  · rename_i o g
    rw [Bool.and_eq_true, Bool.and_eq_true, decide_eq_true_eq, decide_eq_true_eq] at h
    obtain ⟨h1, h2, h3⟩ := h
    unfold isOff at h1
    split at h1
    · rename_i a b
      rw [Bool.and_eq_true] at h1
      cases a with
      | int a =>
        cases b with
        | int b => exact ⟨⟨a, b, g⟩, rfl, h2, h3⟩
        | _ => simp [isN] at h1
      | _ => simp [isN] at h1
    · cases h1
  · cases h
theorem copies_cp {m : Int} : ∀ {xs : List PyData}, xs.all (copyB m) = true → ∃ L : List Cp, xs = L.map cp ∧ ∀ p ∈ L, 0 ≤ p.g ∧ p.g < m
  | [], _ => ⟨[], rfl, fun _ h => by cases h⟩
  | x :: xs, h => by
    rw [List.all_cons, Bool.and_eq_true] at h
    obtain ⟨p, rfl, h1⟩ := copy_cp h.1
    obtain ⟨L, rfl, h2⟩ := copies_cp h.2
    refine ⟨p :: L, rfl, fun q hq => ?_⟩
    rcases List.mem_cons.mp hq with rfl | hq
    · exact h1
    · exact h2 q hq
theorem cp_copy {m : Int} {p : Cp} (h : 0 ≤ p.g ∧ p.g < m) : copyB m (cp p) = true := by
  unfold cp copyB
  simp [isOff, isN, h]
theorem cp_inj {p q : Cp} (h : cp p = cp q) : p = q := by
  cases p; cases q
  simp [cp] at h
  simp [h]
theorem okT (p : Cp) : okD (cp p) = true := rfl
theorem cmp_cp (p q : Cp) : cmpD .lt (cp p) (cp q) = some (lt3 p q) := by
  unfold cmpD cp
  have h : cmpbs [T2 (I p.x) (I p.y), I p.g] [T2 (I q.x) (I q.y), I q.g] = true := by simp [cmpbs, cmpb]
  have e : ltBs [T2 (I p.x) (I p.y), I p.g] [T2 (I q.x) (I q.y), I q.g] = lt3 p q := by
    unfold lt3
    by_cases h1 : p.x = q.x
    · by_cases h2 : p.y = q.y
      · by_cases h3 : p.g = q.g
        · simp [ltBs, ltB, PyData.eqv, PyData.eqvAll, h1, h2, h3]
        · simp [ltBs, ltB, PyData.eqv, PyData.eqvAll, h1, h2, h3]
      · simp [ltBs, ltB, PyData.eqv, PyData.eqvAll, h1, h2]
    · simp [ltBs, ltB, PyData.eqv, PyData.eqvAll, h1]
  have o1 : okD (.tuple [T2 (I p.x) (I p.y), I p.g]) = true := rfl
  have o2 : okD (.tuple [T2 (I q.x) (I q.y), I q.g]) = true := rfl
  simp only [T2, I] at h e o1 o2 ⊢
  rw [o1, o2, h, e]
  rfl
def ascL (L : List Cp) : Bool := (List.range (L.length - 1)).all fun k => lt3 (L.getD k ⟨0, 0, 0⟩) (L.getD (k + 1) ⟨0, 0, 0⟩)
theorem c2 (L : List Cp) (h0 : 0 < L.length) (hl : L.length ≤ 1000) {ρ : En} : doCall ⟨1, [], pg.sem fu (n + 1) 2⟩ [.dat (.tuple (L.map cp))] ρ = .ok (.dat (.bool (ascL L))) ρ := by
  refine doCall_data (ds := [.tuple (L.map cp)]) rfl rfl (Ev.sem_eq (ev2 ?_)) rfl
  unfold d2
  have e1 : ((L.length : Int) - 1) = ((L.length - 1 : Nat) : Int) := by omega
  have hr := rng_ok (N := L.length - 1) (by omega)
  have hl' : L.length - 1 ≤ 1000000 := by omega
  have key : ∀ f : PyData → En → Rs (Option PyData), (∀ i, (h : i < L.length - 1) → f (.int (i : Nat)) [.dat (.tuple (L.map cp)), .non] = .ok (some (.bool (lt3 (L.getD i ⟨0, 0, 0⟩) (L.getD (i + 1) ⟨0, 0, 0⟩)))) [.dat (.tuple (L.map cp)), .non]) →
      lcL none f ((List.range (L.length - 1)).map fun k => PyData.int (k : Nat)) [.dat (.tuple (L.map cp)), .non] = .ok ((List.range (L.length - 1)).map fun k => .bool (lt3 (L.getD k ⟨0, 0, 0⟩) (L.getD (k + 1) ⟨0, 0, 0⟩))) [.dat (.tuple (L.map cp)), .non] := fun f hf => by
    rw [lc_map rfl (fun x => match x with
      | .int i => some (.bool (lt3 (L.getD i.toNat ⟨0, 0, 0⟩) (L.getD (i.toNat + 1) ⟨0, 0, 0⟩)))
      | _ => none)]
    · rw [List.filterMap_map]
      congr 1
      exact fm_some (fun k : Nat => PyData.bool (lt3 (L.getD k ⟨0, 0, 0⟩) (L.getD (k + 1) ⟨0, 0, 0⟩))) _
    · intro x hx
      simp at hx
      obtain ⟨i, hi, rfl⟩ := hx
      exact hf i hi
  simp -dsimp [evB, evS, evR, evT, evC, evO, evAs, evDs, evIt, evPs, letRs, nrm, cnts, cnt, biD, mtOk, mtD, letR, letD, letDs, sto, binD, cmpD, Vi.truthy, esc, lenOk, idxD, isiD, Ret, outs, retR, Rv.isRef, Ob.toD, subS, putD, isNon, okD_int, okD_bool, okD_none, PyData.eqv, PyData.eqvAll, L2.ixN, e1, hr, plainAt, wipeE, hl']
  rw [key]
  · simp -dsimp [evB, evS, evR, evT, evC, evO, evAs, evDs, evIt, evPs, letRs, nrm, cnts, cnt, biD, mtOk, mtD, letR, letD, letDs, sto, binD, cmpD, Vi.truthy, esc, lenOk, idxD, isiD, Ret, outs, retR, Rv.isRef, Ob.toD, subS, putD, isNon, okD_int, okD_bool, okD_none, PyData.eqv, PyData.eqvAll, L2.ixN, lkOk, backE, unl, boolsD_map, ascL]
  · intro i hi
    have g1 : (L.map cp)[i]? = some (cp (L.getD i ⟨0, 0, 0⟩)) := by simp [List.getD, show i < L.length by omega]
    have g2 : (L.map cp)[i + 1]? = some (cp (L.getD (i + 1) ⟨0, 0, 0⟩)) := by simp [List.getD, show i + 1 < L.length by omega]
    have a1 : atD (L.map cp) ((i : Int) + 1) = some (cp (L.getD (i + 1) ⟨0, 0, 0⟩)) := by
      have : ((i : Int) + 1) = ((i + 1 : Nat) : Int) := by omega
      rw [this, atD_nat, g2]
    generalize L.getD i ⟨0, 0, 0⟩ = p at *
    generalize L.getD (i + 1) ⟨0, 0, 0⟩ = q at *
    have cq := cmp_cp p q
    generalize cp p = dp at *
    generalize cp q = dq at *
    simp -dsimp [evB, evS, evR, evT, evC, letD, sto, nrm, cnt, esc, Rs.calm, wipeE, idxD, binD, atD_nat, g1, a1, cq, okD_bool]
def toCp : PyData → Option Cp
  | .tuple [.tuple [.int x, .int y], .int g] => some ⟨x, y, g⟩
  | _ => none
def toCps : List PyData → Option (List Cp)
  | [] => some []
  | d :: ds => (toCp d).bind fun p => (toCps ds).map (p :: ·)
theorem toCps_cp : ∀ L : List Cp, toCps (L.map cp) = some L
  | [] => rfl
  | p :: L => by
    rw [List.map_cons, toCps, toCps_cp L]
    rfl
def stB (m : Int) : PyData → Bool
  | .tuple xs => !xs.isEmpty && (xs.all (copyB m) && (match toCps xs with
    | some L => ascL L
    | none => false))
  | _ => false
theorem stB_tup (m : Int) (xs : List PyData) : stB m (.tuple xs) = (!xs.isEmpty && (xs.all (copyB m) && (match toCps xs with
    | some L => ascL L
    | none => false))) := by unfold stB; rfl
theorem all_id_map {α : Type} (p : α → Bool) (xs : List α) : (xs.map p).all id = xs.all p := by rw [List.all_map]; rfl
theorem c18 {k : Nat} {d : PyData} (h : Pl k d) (m : Int) {ρ : En} : doCall ⟨2, [], pg.sem fu (n + 4) 18⟩ [.dat d, .dat (I m)] ρ = .ok (.dat (.bool (stB m d))) ρ := by
  refine doCall_data (ds := [d, I m]) rfl rfl (Ev.sem_eq (ev18 ?_)) rfl
  unfold d18
  refine Ev_cons fun K k1 k2 _ _ => ?_
  generalize hT : (Tm.bi .all [(.lc (.seq (.var 0)) (.nm 2) [2] none (.call 17 [(.var 2), (.var 1)]))]) = T
  have fin : ∀ d, stB m d = false → (∀ xs, d ≠ .tuple xs) → True := fun _ _ _ => trivial
  by_cases ht : ∃ xs, d = .tuple xs
  · obtain ⟨xs, rfl⟩ := ht
    obtain ⟨j, rfl⟩ : ∃ j, k = j + 1 := by cases h; exact ⟨_, rfl⟩
    obtain ⟨hl, hx⟩ := h.mem
    cases xs with
    | nil =>
      simp -dsimp [evB, evS, evR, evT, evC, evO, evAs, evDs, evIt, evPs, letRs, nrm, cnts, cnt, biD, mtOk, mtD, letR, letD, letDs, sto, binD, cmpD, Vi.truthy, esc, lenOk, idxD, isiD, Ret, outs, retR, Rv.isRef, Ob.toD, subS, putD, isNon, okD_int, okD_bool, okD_none, PyData.eqv, PyData.eqvAll, L2.ixN]
      exact k2 _ _ (by simp -dsimp [evB, evS, evR, evT, evC, evO, evAs, evDs, evIt, evPs, letRs, nrm, cnts, cnt, biD, mtOk, mtD, letR, letD, letDs, sto, binD, cmpD, Vi.truthy, esc, lenOk, idxD, isiD, Ret, outs, retR, Rv.isRef, Ob.toD, subS, putD, isNon, okD_int, okD_bool, okD_none, PyData.eqv, PyData.eqvAll, L2.ixN, stB])
    | cons x xs =>
      have hl' : xs.length + 1 ≤ 1000000 := by simp at hl; omega
      have hn : ¬ ((xs.length : Int) + 1 = 0) := by omega
      have h7 := fun d {ρ : En} => @c17 fu n d m ρ
      have key : ∀ f : PyData → En → Rs (Option PyData), (∀ y ∈ x :: xs, f y [.dat (.tuple (x :: xs)), .dat (I m), .non] = .ok (some (.bool (copyB m y))) [.dat (.tuple (x :: xs)), .dat (I m), .non]) → lcL none f (x :: xs) [.dat (.tuple (x :: xs)), .dat (I m), .non] = .ok ((x :: xs).map fun y => .bool (copyB m y)) [.dat (.tuple (x :: xs)), .dat (I m), .non] := fun f hf => by
        rw [lc_map rfl (fun y => some (.bool (copyB m y))) _ hf, fm_some]
      have hb := boolsD_map (copyB m) (x :: xs)
      have hc : evT ⟨Fns pg.gd fu pg.pc.ds (n + 3), pg.gd, fu⟩ T [.dat (.tuple (x :: xs)), .dat (I m), .non] = .ok ((x :: xs).all (copyB m)) [.dat (.tuple (x :: xs)), .dat (I m), .non] := by
        subst hT
        simp -dsimp [evB, evS, evR, evT, evC, evO, evAs, evDs, evIt, evPs, letRs, nrm, cnts, cnt, biD, mtOk, mtD, letR, letD, letDs, sto, binD, cmpD, Vi.truthy, esc, lenOk, idxD, isiD, Ret, outs, retR, Rv.isRef, Ob.toD, subS, putD, isNon, okD_int, okD_bool, okD_none, PyData.eqv, PyData.eqvAll, L2.ixN, seqItems, plainAt, wipeE, hl']
        rw [key]
        · generalize hys : x :: xs = ys at *
          simp -dsimp [evB, evS, evR, evT, evC, evO, evAs, evDs, evIt, evPs, letRs, nrm, cnts, cnt, biD, mtOk, mtD, letR, letD, letDs, sto, binD, cmpD, Vi.truthy, esc, lenOk, idxD, isiD, Ret, outs, retR, Rv.isRef, Ob.toD, subS, putD, isNon, okD_int, okD_bool, okD_none, PyData.eqv, PyData.eqvAll, L2.ixN, lkOk, backE, unl, boolsD_map, all_id_map]
          rw [← hys, List.all_cons]
        · intro y hy
          simp -dsimp [evB, evS, evR, evT, evC, evO, evAs, evDs, evIt, evPs, letRs, nrm, cnts, cnt, biD, mtOk, mtD, letR, letD, letDs, sto, binD, cmpD, Vi.truthy, esc, lenOk, idxD, isiD, Ret, outs, retR, Rv.isRef, Ob.toD, subS, putD, isNon, okD_int, okD_bool, okD_none, PyData.eqv, PyData.eqvAll, L2.ixN, at17, h7, Rs.calm, wipeE]
      cases ha : (x :: xs).all (copyB m) with
      | false =>
        rw [ha] at hc
        have hs : stB m (.tuple (x :: xs)) = false := by rw [stB_tup, ha]; simp
        simp -dsimp [evB, evS, evR, evT, evC, evO, evAs, evDs, evIt, evPs, letRs, nrm, cnts, cnt, biD, mtOk, mtD, letR, letD, letDs, sto, binD, cmpD, Vi.truthy, esc, lenOk, idxD, isiD, Ret, outs, retR, Rv.isRef, Ob.toD, subS, putD, isNon, okD_int, okD_bool, okD_none, PyData.eqv, PyData.eqvAll, L2.ixN, hn, hc]
        exact k2 _ _ (by simp -dsimp [evB, evS, evR, evT, evC, evO, evAs, evDs, evIt, evPs, letRs, nrm, cnts, cnt, biD, mtOk, mtD, letR, letD, letDs, sto, binD, cmpD, Vi.truthy, esc, lenOk, idxD, isiD, Ret, outs, retR, Rv.isRef, Ob.toD, subS, putD, isNon, okD_int, okD_bool, okD_none, PyData.eqv, PyData.eqvAll, L2.ixN, hs])
      | true =>
        rw [ha] at hc
        obtain ⟨L, hL, _⟩ := copies_cp ha
        have hs : stB m (.tuple (x :: xs)) = ascL L := by rw [stB_tup, ha, hL, toCps_cp, ← hL]; simp
        have hLl : L.length = xs.length + 1 := by have := congrArg List.length hL; simpa using this.symm
        have h2 := fun {ρ : En} => @c2 fu (n + 2) L (by omega) (by simp at hl; omega) ρ
        rw [← hL] at h2
        simp -dsimp [evB, evS, evR, evT, evC, evO, evAs, evDs, evIt, evPs, letRs, nrm, cnts, cnt, biD, mtOk, mtD, letR, letD, letDs, sto, binD, cmpD, Vi.truthy, esc, lenOk, idxD, isiD, Ret, outs, retR, Rv.isRef, Ob.toD, subS, putD, isNon, okD_int, okD_bool, okD_none, PyData.eqv, PyData.eqvAll, L2.ixN, hn, hc]
        refine k1 _ (Ev_cons fun K k1 k2 _ _ => ?_)
        generalize x :: xs = ys at *
        simp -dsimp [evB, evS, evR, evT, evC, evO, evAs, evDs, evIt, evPs, letRs, nrm, cnts, cnt, biD, mtOk, mtD, letR, letD, letDs, sto, binD, cmpD, Vi.truthy, esc, lenOk, idxD, isiD, Ret, outs, retR, Rv.isRef, Ob.toD, subS, putD, isNon, okD_int, okD_bool, okD_none, PyData.eqv, PyData.eqvAll, L2.ixN, at2, h2]
        exact k2 _ _ (by simp -dsimp [evB, evS, evR, evT, evC, evO, evAs, evDs, evIt, evPs, letRs, nrm, cnts, cnt, biD, mtOk, mtD, letR, letD, letDs, sto, binD, cmpD, Vi.truthy, esc, lenOk, idxD, isiD, Ret, outs, retR, Rv.isRef, Ob.toD, subS, putD, isNon, okD_int, okD_bool, okD_none, PyData.eqv, PyData.eqvAll, L2.ixN, hs])
  · have hs : stB m d = false := by
      unfold stB
      split
      · exact absurd ⟨_, rfl⟩ ht
      · rfl
    cases h with
    | tup _ _ => exact absurd ⟨_, rfl⟩ ht
    | _ =>
      simp -dsimp [evB, evS, evR, evT, evC, evO, evAs, evDs, evIt, evPs, letRs, nrm, cnts, cnt, biD, mtOk, mtD, letR, letD, letDs, sto, binD, cmpD, Vi.truthy, esc, lenOk, idxD, isiD, Ret, outs, retR, Rv.isRef, Ob.toD, subS, putD, isNon, okD_int, okD_bool, okD_none, PyData.eqv, PyData.eqvAll, L2.ixN]
      exact k2 _ _ (by simp -dsimp [evB, evS, evR, evT, evC, evO, evAs, evDs, evIt, evPs, letRs, nrm, cnts, cnt, biD, mtOk, mtD, letR, letD, letDs, sto, binD, cmpD, Vi.truthy, esc, lenOk, idxD, isiD, Ret, outs, retR, Rv.isRef, Ob.toD, subS, putD, isNon, okD_int, okD_bool, okD_none, PyData.eqv, PyData.eqvAll, L2.ixN, hs])
def grB : PyData → Bool
  | .tuple [.tuple [.int a, .int b], .tuple [.int c, .int d]] => (M2.mk a b c d).gr
  | _ => false
theorem tab_tm {t : PyData} (h : isTabD t = true) : ∃ x : M2, t = TM x := by
  unfold isTabD at h
  split at h
  · rename_i a b
    rw [Bool.and_eq_true] at h
    obtain ⟨h1, h2⟩ := h
    unfold isOff at h1 h2
    split at h1
    · rename_i p q
      split at h2
      · rename_i r s
        rw [Bool.and_eq_true] at h1 h2
        cases p with
        | int p => cases q with
          | int q => cases r with
            | int r => cases s with
              | int s => exact ⟨⟨p, q, r, s⟩, rfl⟩
              | _ => simp [isN] at h2
            | _ => simp [isN] at h2
          | _ => simp [isN] at h1
        | _ => simp [isN] at h1
      · cases h2
    · cases h1
  · cases h
theorem Pl.i {k : Nat} {i : Int} (h : Pl k (.int i)) : i.natAbs < 2 ^ 63 := by cases h; assumption
theorem tm_sml {k : Nat} {x : M2} (h : Pl k (TM x)) : Sml x := by
  cases h with
  | tup _ h =>
    have h1 := h _ (List.mem_cons_self ..)
    have h2 := h _ (List.mem_cons_of_mem _ (List.mem_cons_self ..))
    cases h1 with
    | tup _ h1 =>
      cases h2 with
      | tup _ h2 =>
        have a1 := (h1 _ (List.mem_cons_self ..)).i
        have a2 := (h1 _ (List.mem_cons_of_mem _ (List.mem_cons_self ..))).i
        have a3 := (h2 _ (List.mem_cons_self ..)).i
        have a4 := (h2 _ (List.mem_cons_of_mem _ (List.mem_cons_self ..))).i
        exact ⟨by unfold Md; omega, by unfold Md; omega, by unfold Md; omega, by unfold Md; omega⟩
theorem grB_no {t : PyData} (h : isTabD t = false) : grB t = false := by
  unfold grB
  split
  · simp [isTabD, isOff, isN] at h
  · rfl
theorem c6g {k : Nat} {t : PyData} (h : Pl k t) {ρ : En} : doCall ⟨1, [], pg.sem fu (n + 4) 16⟩ [.dat t] ρ = .ok (.dat (.bool (grB t))) ρ := by
  cases ht : isTabD t with
  | true =>
    obtain ⟨x, rfl⟩ := tab_tm ht
    exact c16 x (tm_sml h)
  | false => rw [c16_no t ht, grB_no ht]
theorem two_eq {e : PyData} (h : two e = true) : ∃ a b, e = .tuple [a, b] := by
  unfold two at h
  split at h
  · exact ⟨_, _, rfl⟩
  · cases h
def kitB : PyData → Bool
  | .tuple [t, .tuple ss] => grB t && (!ss.isEmpty && ss.all (stB ss.length))
  | _ => false
theorem kitB_tup (t : PyData) (ss : List PyData) : kitB (.tuple [t, .tuple ss]) = (grB t && (!ss.isEmpty && ss.all (stB ss.length))) := by unfold kitB; rfl
theorem c19 {k : Nat} {e : PyData} (h : Pl k e) {ρ : En} : doCall ⟨1, [], pg.sem fu (n + 5) 19⟩ [.dat e] ρ = .ok (.dat (.bool (kitB e))) ρ := by
  refine doCall_data (ds := [e]) rfl rfl (Ev.sem_eq (ev19 ?_)) rfl
  unfold d19
  refine Ev_cons fun K k1 k2 _ _ => ?_
  cases h2 : two e with
  | false =>
    have hk : kitB e = false := by
      unfold kitB
      split
      · simp [two] at h2
      · rfl
    simp -dsimp [evB, evS, evR, evT, evC, evO, evAs, evDs, evIt, evPs, letRs, nrm, cnts, cnt, biD, mtOk, mtD, letR, letD, letDs, sto, binD, cmpD, Vi.truthy, esc, lenOk, idxD, isiD, Ret, outs, retR, Rv.isRef, Ob.toD, subS, putD, isNon, okD_int, okD_bool, okD_none, PyData.eqv, PyData.eqvAll, L2.ixN, at1, c1, h2]
    exact k2 _ _ (by simp -dsimp [evB, evS, evR, evT, evC, evO, evAs, evDs, evIt, evPs, letRs, nrm, cnts, cnt, biD, mtOk, mtD, letR, letD, letDs, sto, binD, cmpD, Vi.truthy, esc, lenOk, idxD, isiD, Ret, outs, retR, Rv.isRef, Ob.toD, subS, putD, isNon, okD_int, okD_bool, okD_none, PyData.eqv, PyData.eqvAll, L2.ixN, hk])
  | true =>
    obtain ⟨t, s, rfl⟩ := two_eq h2
    obtain ⟨j, rfl⟩ : ∃ j, k = j + 1 := by cases h; exact ⟨_, rfl⟩
    obtain ⟨hl, hx⟩ := h.mem
    have pt := hx t (by simp)
    have ps := hx s (by simp)
    have h6 := fun {ρ : En} => @c6g fu n j t pt ρ
    cases hg : grB t with
    | false =>
      have hk : kitB (.tuple [t, s]) = false := by
        unfold kitB
        split
        · rename_i t' ss' e
          injection e with e
          injection e with e1 e2
          rw [← e1, hg]; rfl
        · rfl
      rw [hg] at h6
      simp -dsimp [evB, evS, evR, evT, evC, evO, evAs, evDs, evIt, evPs, letRs, nrm, cnts, cnt, biD, mtOk, mtD, letR, letD, letDs, sto, binD, cmpD, Vi.truthy, esc, lenOk, idxD, isiD, Ret, outs, retR, Rv.isRef, Ob.toD, subS, putD, isNon, okD_int, okD_bool, okD_none, PyData.eqv, PyData.eqvAll, L2.ixN, at1, c1, two, at16, h6]
      exact k2 _ _ (by simp -dsimp [evB, evS, evR, evT, evC, evO, evAs, evDs, evIt, evPs, letRs, nrm, cnts, cnt, biD, mtOk, mtD, letR, letD, letDs, sto, binD, cmpD, Vi.truthy, esc, lenOk, idxD, isiD, Ret, outs, retR, Rv.isRef, Ob.toD, subS, putD, isNon, okD_int, okD_bool, okD_none, PyData.eqv, PyData.eqvAll, L2.ixN, hk])
    | true =>
      rw [hg] at h6
      by_cases hs : ∃ ss, s = .tuple ss
      · obtain ⟨ss, rfl⟩ := hs
        obtain ⟨i, rfl⟩ : ∃ i, j = i + 1 := by cases ps; exact ⟨_, rfl⟩
        obtain ⟨sl, sx⟩ := ps.mem
        cases ss with
        | nil =>
          simp -dsimp [evB, evS, evR, evT, evC, evO, evAs, evDs, evIt, evPs, letRs, nrm, cnts, cnt, biD, mtOk, mtD, letR, letD, letDs, sto, binD, cmpD, Vi.truthy, esc, lenOk, idxD, isiD, Ret, outs, retR, Rv.isRef, Ob.toD, subS, putD, isNon, okD_int, okD_bool, okD_none, PyData.eqv, PyData.eqvAll, L2.ixN, at1, c1, two, at16, h6]
          exact k2 _ _ (by simp -dsimp [evB, evS, evR, evT, evC, evO, evAs, evDs, evIt, evPs, letRs, nrm, cnts, cnt, biD, mtOk, mtD, letR, letD, letDs, sto, binD, cmpD, Vi.truthy, esc, lenOk, idxD, isiD, Ret, outs, retR, Rv.isRef, Ob.toD, subS, putD, isNon, okD_int, okD_bool, okD_none, PyData.eqv, PyData.eqvAll, L2.ixN, kitB_tup])
        | cons x xs =>
          have hl' : xs.length + 1 ≤ 1000000 := by simp at sl; omega
          have hn : ¬ ((xs.length : Int) + 1 = 0) := by omega
          have hk : kitB (.tuple [t, .tuple (x :: xs)]) = (x :: xs).all (stB ((x :: xs).length : Nat)) := by rw [kitB_tup, hg]; simp
          simp -dsimp [evB, evS, evR, evT, evC, evO, evAs, evDs, evIt, evPs, letRs, nrm, cnts, cnt, biD, mtOk, mtD, letR, letD, letDs, sto, binD, cmpD, Vi.truthy, esc, lenOk, idxD, isiD, Ret, outs, retR, Rv.isRef, Ob.toD, subS, putD, isNon, okD_int, okD_bool, okD_none, PyData.eqv, PyData.eqvAll, L2.ixN, at1, c1, two, at16, h6, hn]
          refine k1 _ (Ev_cons fun K k1 k2 _ _ => ?_)
          have key : ∀ f : PyData → En → Rs (Option PyData), (∀ y ∈ x :: xs, f y [.dat (.tuple [t, .tuple (x :: xs)]), .non] = .ok (some (.bool (stB ((x :: xs).length : Nat) y))) [.dat (.tuple [t, .tuple (x :: xs)]), .non]) → lcL none f (x :: xs) [.dat (.tuple [t, .tuple (x :: xs)]), .non] = .ok ((x :: xs).map fun y => .bool (stB ((x :: xs).length : Nat) y)) [.dat (.tuple [t, .tuple (x :: xs)]), .non] := fun f hf => by
            rw [lc_map rfl (fun y => some (.bool (stB ((x :: xs).length : Nat) y))) _ hf, fm_some]
          simp -dsimp [evB, evS, evR, evT, evC, evO, evAs, evDs, evIt, evPs, letRs, nrm, cnts, cnt, biD, mtOk, mtD, letR, letD, letDs, sto, binD, cmpD, Vi.truthy, esc, lenOk, idxD, isiD, Ret, outs, retR, Rv.isRef, Ob.toD, subS, putD, isNon, okD_int, okD_bool, okD_none, PyData.eqv, PyData.eqvAll, L2.ixN, seqItems, plainAt, wipeE, hl']
          rw [key]
          · generalize (x :: xs) = ys at *
            simp -dsimp [evB, evS, evR, evT, evC, evO, evAs, evDs, evIt, evPs, letRs, nrm, cnts, cnt, biD, mtOk, mtD, letR, letD, letDs, sto, binD, cmpD, Vi.truthy, esc, lenOk, idxD, isiD, Ret, outs, retR, Rv.isRef, Ob.toD, subS, putD, isNon, okD_int, okD_bool, okD_none, PyData.eqv, PyData.eqvAll, L2.ixN, lkOk, backE, unl, boolsD_map, all_id_map]
            exact k2 _ _ (by simp -dsimp [evB, evS, evR, evT, evC, evO, evAs, evDs, evIt, evPs, letRs, nrm, cnts, cnt, biD, mtOk, mtD, letR, letD, letDs, sto, binD, cmpD, Vi.truthy, esc, lenOk, idxD, isiD, Ret, outs, retR, Rv.isRef, Ob.toD, subS, putD, isNon, okD_int, okD_bool, okD_none, PyData.eqv, PyData.eqvAll, L2.ixN, hk])
          · intro y hy
            have h8 := fun m {ρ : En} => @c18 fu n i y (sx y hy) m ρ
            have el : ((x :: xs).length : Int) = (xs.length : Int) + 1 := by simp
            rw [el]
            simp -dsimp [evB, evS, evR, evT, evC, evO, evAs, evDs, evIt, evPs, letRs, nrm, cnts, cnt, biD, mtOk, mtD, letR, letD, letDs, sto, binD, cmpD, Vi.truthy, esc, lenOk, idxD, isiD, Ret, outs, retR, Rv.isRef, Ob.toD, subS, putD, isNon, okD_int, okD_bool, okD_none, PyData.eqv, PyData.eqvAll, L2.ixN, at18, h8, Rs.calm, wipeE]
      · have hk : kitB (.tuple [t, s]) = false := by
          unfold kitB
          split
          · rename_i t' ss' e
            injection e with e
            injection e with e1 e2
            injection e2 with e2 e3
            exact absurd ⟨_, e2⟩ hs
          · rfl
        cases ps with
        | tup _ _ => exact absurd ⟨_, rfl⟩ hs
        | _ =>
          simp -dsimp [evB, evS, evR, evT, evC, evO, evAs, evDs, evIt, evPs, letRs, nrm, cnts, cnt, biD, mtOk, mtD, letR, letD, letDs, sto, binD, cmpD, Vi.truthy, esc, lenOk, idxD, isiD, Ret, outs, retR, Rv.isRef, Ob.toD, subS, putD, isNon, okD_int, okD_bool, okD_none, PyData.eqv, PyData.eqvAll, L2.ixN, at1, c1, two, at16, h6]
          exact k2 _ _ (by simp -dsimp [evB, evS, evR, evT, evC, evO, evAs, evDs, evIt, evPs, letRs, nrm, cnts, cnt, biD, mtOk, mtD, letR, letD, letDs, sto, binD, cmpD, Vi.truthy, esc, lenOk, idxD, isiD, Ret, outs, retR, Rv.isRef, Ob.toD, subS, putD, isNon, okD_int, okD_bool, okD_none, PyData.eqv, PyData.eqvAll, L2.ixN, hk])
def outs' (p : PyData → Bool) (xs : List PyData) : List PyData := xs.filterMap fun x => if p x then none else some x
theorem outs_sub {p : PyData → Bool} : ∀ {xs : List PyData} {x : PyData}, x ∈ outs' p xs → x ∈ xs := by
  intro xs x h
  unfold outs' at h
  rw [List.mem_filterMap] at h
  obtain ⟨y, hy, e⟩ := h
  split at e
  · cases e
  · cases e; exact hy
theorem outs_len {p : PyData → Bool} (xs : List PyData) : (outs' p xs).length ≤ xs.length := List.length_filterMap_le ..
theorem outs_emp {p : PyData → Bool} : ∀ (xs : List PyData), (outs' p xs).isEmpty = xs.all p
  | [] => rfl
  | x :: xs => by
    have ih := outs_emp (p := p) xs
    unfold outs' at ih ⊢
    rw [List.filterMap_cons, List.all_cons]
    cases hp : p x with
    | true => simpa using ih
    | false => simp
theorem eqv_nil (L : List PyData) : PyData.eqv (.list L) (.list []) = L.isEmpty := by
  cases L <;> simp [PyData.eqv, PyData.eqvAll]
theorem okL {m : Nat} {xs : List PyData} {p : PyData → Bool} (hl : xs.length ≤ 1000) (h : ∀ x ∈ xs, Pl m x) (hm : m ≤ 60) : okD (.list (outs' p xs)) = true :=
  (Pl.lst (Nat.le_trans (outs_len xs) hl) fun x hx => h x (outs_sub hx)).ok (m := m + 1) (by omega)
theorem okN : okD (.list []) = true := rfl
theorem okT0 : okD (.tuple []) = true := rfl
def descL (L : List Cp) : List PyData := (List.range (L.length - 1)).filterMap fun k => if lt3 (L.getD k ⟨0, 0, 0⟩) (L.getD (k + 1) ⟨0, 0, 0⟩) then none else some (.int (1 + (k : Nat)))
theorem descL_emp (L : List Cp) : (descL L).isEmpty = ascL L := by
  unfold descL ascL
  generalize List.range (L.length - 1) = R
  induction R with
  | nil => rfl
  | cons k R ih =>
    rw [List.filterMap_cons, List.all_cons]
    cases lt3 (L.getD k ⟨0, 0, 0⟩) (L.getD (k + 1) ⟨0, 0, 0⟩) with
    | true => simpa using ih
    | false => simp
theorem descL_ok {L : List Cp} (hl : L.length ≤ 1000) : okD (.list (descL L)) = true := by
  refine (Pl.lst (m := 0) (Nat.le_trans (List.length_filterMap_le ..) (by simp; omega)) fun x hx => ?_).ok (by omega)
  unfold descL at hx
  rw [List.mem_filterMap] at hx
  obtain ⟨k, hk, e⟩ := hx
  split at e
  · cases e
  · cases e
    have := List.mem_range.mp hk
    exact .int (by omega)
theorem lt3_iff (p q : Cp) : lt3 p q = true ↔ p.x < q.x ∨ (p.x = q.x ∧ (p.y < q.y ∨ (p.y = q.y ∧ p.g < q.g))) := by
  unfold lt3
  simp
theorem lt3_no (p q : Cp) : lt3 p q = false ↔ ¬ (p.x < q.x ∨ (p.x = q.x ∧ (p.y < q.y ∨ (p.y = q.y ∧ p.g < q.g)))) := by
  rw [← lt3_iff]; simp
theorem lt3_tri {p q : Cp} (h : lt3 q p = false) (ne : p ≠ q) : lt3 p q = true := by
  rw [lt3_no] at h
  rw [lt3_iff]
  have : ¬ (p.x = q.x ∧ p.y = q.y ∧ p.g = q.g) := fun ⟨a, b, c⟩ => ne (by cases p; cases q; simp_all)
  omega
theorem data_cp (p q : Cp) : PySem.W.dataLt (cp p) (cp q) = lt3 p q := by
  unfold cp
  have a1 : PySem.W.alike (T2 (I p.x) (I p.y)) (T2 (I q.x) (I q.y)) = true := by simp [PySem.W.alike, PySem.W.alikeAll]
  have a2 : PySem.W.alike (I p.g) (I q.g) = true := by simp [PySem.W.alike]
  rw [PySem.W.dataLt_pair a1 a2, PySem.W.dataLt_ii, PySem.W.dataLt_int]
  unfold lt3
  by_cases h1 : p.x = q.x
  · by_cases h2 : p.y = q.y
    · by_cases h3 : p.g = q.g <;> simp [PyData.eqv, PyData.eqvAll, h1, h2, h3]
    · simp [PyData.eqv, PyData.eqvAll, h1, h2]
  · simp [PyData.eqv, PyData.eqvAll, h1]
theorem alike_cp (p q : Cp) : PySem.W.alike (cp p) (cp q) = true := by simp [cp, PySem.W.alike, PySem.W.alikeAll]
def sortC (L : List Cp) : List Cp := L.mergeSort fun a b => !lt3 b a
theorem sortD_cp (L : List Cp) : sortD (L.map cp) = (sortC L).map cp := by
  unfold sortD sortC
  rw [List.map_mergeSort]
  intro a _ b _
  rw [data_cp]
theorem sortOk_cp {L : List Cp} (h : L.length ≤ 1000) : sortOk (L.map cp) = true := by
  unfold sortOk lenOk
  simp only [Bool.and_eq_true, Bool.or_eq_true, decide_eq_true_eq, List.all_eq_true, List.length_map]
  refine ⟨⟨⟨by omega, fun a ha b hb => ?_⟩, .inl fun a ha => ?_⟩, fun a ha => ?_⟩
  · obtain ⟨p, _, rfl⟩ := List.mem_map.mp ha
    obtain ⟨q, _, rfl⟩ := List.mem_map.mp hb
    exact alike_cp p q
  · obtain ⟨p, _, rfl⟩ := List.mem_map.mp ha
    rfl
  · obtain ⟨p, _, rfl⟩ := List.mem_map.mp ha
    exact okT p
theorem sortC_mem {L : List Cp} {p : Cp} : p ∈ sortC L ↔ p ∈ L := List.mem_mergeSort
theorem sortC_len (L : List Cp) : (sortC L).length = L.length := List.length_mergeSort _
theorem sortC_asc {L : List Cp} (h : L.Nodup) : ascL (sortC L) = true := by
  have pw : (sortC L).Pairwise fun a b => (!lt3 b a) = true := List.pairwise_mergeSort (le := fun a b => !lt3 b a) (fun a b c h1 h2 => by
      simp only [Bool.not_eq_true', lt3_no] at h1 h2 ⊢
      omega) (fun a b => by
      cases h1 : lt3 b a with
      | false => rfl
      | true =>
        have : lt3 a b = false := by
          rw [lt3_iff] at h1
          rw [lt3_no]
          omega
        simp [this]) L
  have nd : (sortC L).Nodup := (List.mergeSort_perm L _).nodup_iff.mpr h
  generalize sortC L = S at *
  unfold ascL
  rw [List.all_eq_true]
  intro k hk
  have hk := List.mem_range.mp hk
  have e1 : S.getD k ⟨0, 0, 0⟩ = S[k]'(by omega) := by simp [List.getD, show k < S.length by omega]
  have e2 : S.getD (k + 1) ⟨0, 0, 0⟩ = S[k + 1]'(by omega) := by simp [List.getD, show k + 1 < S.length by omega]
  rw [e1, e2]
  refine lt3_tri ?_ ?_
  · have := List.pairwise_iff_getElem.mp pw k (k + 1) (by omega) (by omega) (by omega)
    simpa using this
  · intro z
    have := (List.getElem_inj nd).mp z
    omega
def kvs (L : List Cp) : List (PyData × PyData) := L.map fun p => (cp p, .bool true)
theorem eqv_cp (p q : Cp) : PyData.eqv (cp p) (cp q) = decide (p = q) := by
  cases p; cases q
  simp only [cp, PyData.eqv, PyData.eqvAll, Cp.mk.injEq, Bool.and_true]
  simp [Bool.and_assoc]
  rfl
def putC (L : List Cp) (p : Cp) : List Cp := if p ∈ L then L else L ++ [p]
theorem putKV_cp (L : List Cp) (p : Cp) : putKV (kvs L) (cp p) (.bool true) = kvs (putC L p) := by
  unfold putKV putC kvs
  have e : ((L.map fun p => (cp p, PyData.bool true)).any fun q => PyData.eqv q.1 (cp p)) = decide (p ∈ L) := by
    rw [List.any_map]
    induction L with
    | nil => simp
    | cons q L ih =>
      rw [List.any_cons, ih]
      simp only [Function.comp, eqv_cp, List.mem_cons]
      by_cases h : q = p
      · subst h; simp
      · have : ¬ p = q := fun z => h z.symm
        simp [h, this]
  rw [e]
  by_cases h : p ∈ L
  · simp only [h, decide_true, if_true, List.map_map]
    apply List.map_congr_left
    intro q _
    simp
  · simp [h]
theorem putC_nodup {L : List Cp} {p : Cp} (h : L.Nodup) : (putC L p).Nodup := by
  unfold putC
  split
  · exact h
  · rename_i hn
    rw [List.nodup_append]
    exact ⟨h, by simp, fun a ha b hb => by simp at hb; subst hb; exact fun z => hn (z ▸ ha)⟩
theorem putC_len {L : List Cp} {p : Cp} : (putC L p).length ≤ L.length + 1 := by
  unfold putC
  split <;> simp
theorem putC_ne {L : List Cp} {p : Cp} : putC L p ≠ [] := by
  unfold putC
  split
  · rename_i h; exact List.ne_nil_of_mem h
  · simp
theorem putC_mem {L : List Cp} {p q : Cp} (h : q ∈ putC L p) : q ∈ L ∨ q = p := by
  unfold putC at h
  split at h
  · exact .inl h
  · simpa using h
theorem keyK_cp (L : List Cp) (p : Cp) : keyK (kvs L) (cp p) = true := by
  have h1 : keyOk (cp p) = true := rfl
  have h2 : ((kvs L).all fun q => isTupD q.1) = true := by unfold kvs; simp [cp, isTupD]
  unfold keyK
  rw [h1, h2]; rfl
theorem keys_cp (L : List Cp) : (kvs L).map (·.1) = L.map cp := by unfold kvs; rw [List.map_map]; rfl
abbrev st (L : List Cp) : PyData := .tuple (L.map cp)
structure CpOk (far many : Nat) (p : Cp) : Prop where
  hx : p.x.natAbs ≤ far
  hy : p.y.natAbs ≤ far
  g0 : 0 ≤ p.g
  g1 : p.g < many
structure StOk (far many most : Nat) (L : List Cp) : Prop where
  l0 : 0 < L.length
  l1 : L.length ≤ most
  asc : ascL L = true
  all : ∀ p ∈ L, CpOk far many p
abbrev gear (x : M2) (S : List (List Cp)) : PyData := .tuple [TM x, .tuple (S.map st)]
structure GrOk (far most spots : Nat) (S : List (List Cp)) : Prop where
  l0 : 0 < S.length
  l1 : S.length ≤ spots
  all : ∀ L ∈ S, StOk far S.length most L
theorem c43 {A B : Int} (hw : DOk A B) (x : M2) (spots most far : Nat) (h1 : 0 < spots ∧ spots ≤ 10) (h2 : 0 < most ∧ most ≤ 10) (h3 : far ≤ 10) :
    Ev (pg.sem fu (n + 2) 43 [.own .par (Dk A B), .dat (TM x), .dat (I spots), .dat (I most), .dat (I far)]) fun r os => ∃ S A' B', r = .dat (gear x S) ∧ os = [.own .par (Dk A' B'), .dat (TM x), .dat (I spots), .dat (I most), .dat (I far)] ∧ DOk A' B' ∧ GrOk far most spots S := by
  refine ev43 ?_
  unfold d43
  obtain ⟨v0, A0, B0, v00, v01, w0, e0⟩ := draw (fu := fu) (n := n) hw spots (by omega) (by omega)
  obtain ⟨V, rfl⟩ := Int.eq_ofNat_of_zero_le v00
  refine Ev_cons fun K k1 k2 _ _ => ?_
  simp -dsimp [evB, evS, evR, evT, evC, evO, evAs, evDs, evIt, evPs, letRs, nrm, cnts, cnt, biD, mtOk, mtD, letR, letD, letDs, sto, binD, cmpD, Vi.truthy, esc, lenOk, idxD, isiD, Ret, outs, retR, Rv.isRef, Ob.toD, subS, putD, isNon, okD_int, okD_bool, okD_none, PyData.eqv, PyData.eqvAll, L2.ixN, at31, e0]
  refine k1 _ (Ev_cons fun KF kf1 kf2 _ _ => ?_)
  have em : (1 : Int) + (V : Int) = ((1 + V : Nat) : Int) := by omega
  have hmany : 1 + V ≤ spots := by omega
  rw [em]
  generalize hM : 1 + V = M at *
  have hr := rng_ok (N := M) (by omega)
  clear em
  refine Ev_for (xs := (List.range M).map fun k => PyData.int (k : Nat)) (fun i ρ => ∃ S A' B' s5 s8 s9 s10, ρ = [.own .par (Dk A' B'), .dat (TM x), .dat (I spots), .dat (I most), .dat (I far), s5, .dat (I M), .own .loc (.lst (S.map st)), s8, s9, s10] ∧ DOk A' B' ∧ S.length = i ∧ (∀ L ∈ S, StOk far M most L) ∧ Plain s5 ∧ free (some s8) = true ∧ Plain s9 ∧ Plain s10) (by simp -dsimp [evB, evS, evR, evT, evC, evO, evAs, evDs, evIt, evPs, letRs, nrm, cnts, cnt, biD, mtOk, mtD, letR, letD, letDs, sto, binD, cmpD, Vi.truthy, esc, lenOk, idxD, isiD, Ret, outs, retR, Rv.isRef, Ob.toD, subS, putD, isNon, okD_int, okD_bool, okD_none, PyData.eqv, PyData.eqvAll, L2.ixN, hr]) ⟨[], A0, B0, .non, .non, .non, .non, rfl, w0, rfl, (fun _ h => by cases h), by simp, rfl, by simp, by simp⟩ ?_ ?_
  · rintro i v ρ hv ⟨S, A1, B1, s5, s8, s9, s10, rfl, w1, hS, hall, p5, f8, p9, p10⟩
    have hi : i < M := by have := get_lt hv; simpa using this
    clear hv hr
    refine Ev_letN (by simp [p5.free]) rfl (Ev_cons fun K k1 k2 _ _ => ?_)
    simp -dsimp [evB, evS, evR, evT, evC, evO, evAs, evDs, evIt, evPs, letRs, nrm, cnts, cnt, biD, mtOk, mtD, letR, letD, letDs, sto, binD, cmpD, Vi.truthy, esc, lenOk, idxD, isiD, Ret, outs, retR, Rv.isRef, Ob.toD, subS, putD, isNon, okD_int, okD_bool, okD_none, PyData.eqv, PyData.eqvAll, L2.ixN, f8]
    refine k1 _ (Ev_cons fun KG kg1 kg2 _ _ => ?_)
    obtain ⟨v2, A2, B2, v20, v21, w2, e2⟩ := draw (fu := fu) (n := n) w1 most (by omega) (by omega)
    obtain ⟨U, rfl⟩ := Int.eq_ofNat_of_zero_le v20
    have hr : rngD 0 (1 + (U : Int)) = some ((List.range (1 + U)).map fun k => PyData.int (k : Nat)) := by
      have := rng_ok (N := 1 + U) (by omega)
      rwa [show ((1 + U : Nat) : Int) = 1 + (U : Int) by omega] at this
    refine Ev_for (xs := (List.range (1 + U)).map fun k => PyData.int (k : Nat)) (fun i ρ => ∃ L A' B' s9 s10, ρ = [.own .par (Dk A' B'), .dat (TM x), .dat (I spots), .dat (I most), .dat (I far), .dat v, .dat (I M), .own .loc (.lst (S.map st)), .own .loc (.dic (kvs L)), s9, s10] ∧ DOk A' B' ∧ L.Nodup ∧ L.length ≤ i ∧ (0 < i → 0 < L.length) ∧ (∀ p ∈ L, CpOk far M p) ∧ Plain s9 ∧ Plain s10) (by simp -dsimp [evB, evS, evR, evT, evC, evO, evAs, evDs, evIt, evPs, letRs, nrm, cnts, cnt, biD, mtOk, mtD, letR, letD, letDs, sto, binD, cmpD, Vi.truthy, esc, lenOk, idxD, isiD, Ret, outs, retR, Rv.isRef, Ob.toD, subS, putD, isNon, okD_int, okD_bool, okD_none, PyData.eqv, PyData.eqvAll, L2.ixN, at31, e2, hr, kvs]) ⟨[], A2, B2, s9, s10, rfl, w2, List.nodup_nil, Nat.le_refl _, (fun h => absurd h (Nat.lt_irrefl _)), (fun _ h => by cases h), p9, p10⟩ ?_ ?_
    · rintro a v' ρ hv ⟨L, A3, B3, s9, s10, rfl, w3, nd, hl, hl0, hok, p9, p10⟩
      have ha : a < 1 + U := by have := get_lt hv; simpa using this
      clear hv hr
      refine Ev_letN (by simp [p9.free]) rfl (Ev_cons fun K k1 k2 _ _ => ?_)
      obtain ⟨u1, A4, B4, u10, u11, w4, e4⟩ := draw (fu := fu) (n := n) w3 (2 * far + 1) (by omega) (by omega)
      obtain ⟨u2, A5, B5, u20, u21, w5, e5⟩ := draw (fu := fu) (n := n) w4 (2 * far + 1) (by omega) (by omega)
      obtain ⟨u3, A6, B6, u30, u31, w6, e6⟩ := draw (fu := fu) (n := n) w5 M (by omega) (by omega)
      simp -dsimp [evB, evS, evR, evT, evC, evO, evAs, evDs, evIt, evPs, letRs, nrm, cnts, cnt, biD, mtOk, mtD, letR, letD, letDs, sto, binD, cmpD, Vi.truthy, esc, lenOk, idxD, isiD, Ret, outs, retR, Rv.isRef, Ob.toD, subS, putD, isNon, okD_int, okD_bool, okD_none, PyData.eqv, PyData.eqvAll, L2.ixN, at31, e4, e5, p10.free]
      refine k1 _ (Ev_cons fun K k1 k2 _ _ => ?_)
      have hcp : PyData.tuple [PyData.tuple [.int (u1 - far), .int (u2 - far)], .int u3] = cp ⟨u1 - far, u2 - far, u3⟩ := rfl
      have hlk : (kvs L).length ≤ 1000000 := by unfold kvs; rw [List.length_map]; omega
      simp -dsimp [evB, evS, evR, evT, evC, evO, evAs, evDs, evIt, evPs, letRs, nrm, cnts, cnt, biD, mtOk, mtD, letR, letD, letDs, sto, binD, cmpD, Vi.truthy, esc, lenOk, idxD, isiD, Ret, outs, retR, Rv.isRef, Ob.toD, subS, putD, isNon, okD_int, okD_bool, okD_none, PyData.eqv, PyData.eqvAll, L2.ixN, at31, e6]
      simp only [hcp, keyK_cp, putKV_cp]
      simp -dsimp [evB, evS, evR, evT, evC, evO, evAs, evDs, evIt, evPs, letRs, nrm, cnts, cnt, biD, mtOk, mtD, letR, letD, letDs, sto, binD, cmpD, Vi.truthy, esc, lenOk, idxD, isiD, Ret, outs, retR, Rv.isRef, Ob.toD, subS, putD, isNon, okD_int, okD_bool, okD_none, PyData.eqv, PyData.eqvAll, L2.ixN, hlk]
      refine k1 _ (Ev_nil ⟨putC L ⟨u1 - far, u2 - far, u3⟩, A6, B6, .dat v', _, rfl, w6, putC_nodup nd, by have := putC_len (L := L) (p := ⟨u1 - far, u2 - far, u3⟩); omega, fun _ => List.length_pos_iff.mpr putC_ne, fun q hq => ?_, by simp, by simp⟩)
      rcases putC_mem hq with hq | rfl
      · exact hok q hq
      · exact ⟨by simp only; omega, by simp only; omega, u30, u31⟩
    · rintro ρ ⟨L, A3, B3, s9, s10, rfl, w3, nd, hl, hl0, hok, p9, p10⟩
      simp only [List.length_map, List.length_range] at hl hl0
      refine kg1 _ (Ev_cons fun K k1 k2 _ _ => ?_)
      have hso := sortOk_cp (L := L) (by omega)
      have hsd := sortD_cp L
      have hkc := keys_cp L
      have hSl : S.length ≤ 1000000 := by omega
      simp -dsimp [evB, evS, evR, evT, evC, evO, evAs, evDs, evIt, evPs, letRs, nrm, cnts, cnt, biD, mtOk, mtD, letR, letD, letDs, sto, binD, cmpD, Vi.truthy, esc, lenOk, idxD, isiD, Ret, outs, retR, Rv.isRef, Ob.toD, subS, putD, isNon, okD_int, okD_bool, okD_none, PyData.eqv, PyData.eqvAll, L2.ixN, hkc, hso, hsd, hSl]
      refine k1 _ (Ev_nil ⟨S ++ [sortC L], A3, B3, .dat v, .own .loc (.dic (kvs L)), s9, s10, ?_, w3, by simp [hS], fun L' hL' => ?_, by simp, rfl, p9, p10⟩)
      · simp
      · rcases List.mem_append.mp hL' with h | h
        · exact hall L' h
        · simp at h
          subst h
          exact ⟨by rw [sortC_len]; exact hl0 (by omega), by rw [sortC_len]; omega, sortC_asc nd, fun p hp => hok p (sortC_mem.mp hp)⟩
  · rintro ρ ⟨S, A1, B1, s5, s8, s9, s10, rfl, w1, hS, hall, p5, f8, p9, p10⟩
    simp only [List.length_map, List.length_range] at hS
    refine kf1 _ (Ev_cons fun K k1 k2 _ _ => ?_)
    simp -dsimp [evB, evS, evR, evT, evC, evO, evAs, evDs, evIt, evPs, letRs, nrm, cnts, cnt, biD, mtOk, mtD, letR, letD, letDs, sto, binD, cmpD, Vi.truthy, esc, lenOk, idxD, isiD, Ret, outs, retR, Rv.isRef, Ob.toD, subS, putD, isNon, okD_int, okD_bool, okD_none, PyData.eqv, PyData.eqvAll, L2.ixN]
    refine k2 _ _ ?_
    exact ⟨rfl, _, rfl, S, A1, B1, rfl, rfl, w1, by omega, by omega, by rw [hS]; exact hall⟩
theorem pl_tup {m : Nat} {xs : List PyData} : Pl (m + 1) (.tuple xs) ↔ xs.length ≤ 1000 ∧ ∀ x ∈ xs, Pl m x := ⟨fun h => h.mem, fun h => .tup h.1 h.2⟩
theorem pl_int {m : Nat} {i : Int} : Pl m (.int i) ↔ i.natAbs < 2 ^ 63 := ⟨fun h => h.i, fun h => .int h⟩
theorem pl_bool {m : Nat} {b : Bool} : Pl m (.bool b) ↔ True := ⟨fun _ => trivial, fun _ => .bool b⟩
theorem atD_mem {L : List PyData} {v : Int} (h0 : 0 ≤ v) (h1 : v < L.length) : ∃ e, atD L v = some e ∧ e ∈ L := by
  obtain ⟨k, rfl⟩ := Int.eq_ofNat_of_zero_le h0
  have hk : k < L.length := by omega
  exact ⟨L[k], by rw [atD_nat, List.getElem?_eq_getElem hk], List.getElem_mem hk⟩
theorem cut_mem {xs : List PyData} {lo hi : Option Int} {x : PyData} (h : x ∈ cutD xs lo hi) : x ∈ xs := by
  unfold cutD at h
  exact List.mem_of_mem_drop (List.mem_of_mem_take h)
theorem cut_len (xs : List PyData) (lo hi : Option Int) : (cutD xs lo hi).length ≤ xs.length := by
  unfold cutD
  rw [List.length_take, List.length_drop]
  omega
theorem pl_cp {p : Cp} {m : Nat} (hx : p.x.natAbs ≤ 10) (hy : p.y.natAbs ≤ 10) (hg : p.g.natAbs ≤ 100) : Pl (m + 2) (cp p) := by
  unfold cp
  simp only [T2, I, List.forall_mem_cons, pl_tup, pl_int, List.length_cons, List.length_nil, List.not_mem_nil, false_implies, implies_true, and_true]
  omega
theorem pl_app {m : Nat} {xs ys : List PyData} (h1 : ∀ x ∈ xs, Pl m x) (h2 : ∀ x ∈ ys, Pl m x) (hl : xs.length + ys.length ≤ 1000) : Pl (m + 1) (.tuple (xs ++ ys)) :=
  .tup (by simpa using hl) fun x hx => (List.mem_append.mp hx).elim (h1 x) (h2 x)
structure CpSml (p : Cp) : Prop where
  hx : p.x.natAbs ≤ 10
  hy : p.y.natAbs ≤ 10
  hg : p.g.natAbs ≤ 100
theorem pl_st {L : List Cp} (hl : L.length ≤ 100) (hL : ∀ p ∈ L, CpSml p) {m : Nat} : Pl (m + 3) (st L) := by
  refine .tup (by simpa using Nat.le_trans hl (by omega)) fun x hx => ?_
  obtain ⟨p, hp, rfl⟩ := List.mem_map.mp hx
  have := hL p hp
  exact pl_cp this.hx this.hy this.hg
structure Gs (x : M2) (S : List (List Cp)) : Prop where
  gx : gdB x = true
  l0 : 0 < S.length
  l1 : S.length ≤ 10
  all : ∀ L ∈ S, 0 < L.length ∧ L.length ≤ 100 ∧ ∀ p ∈ L, CpSml p
theorem pl_tm {x : M2} (h : gdB x = true) {m : Nat} : Pl (m + 2) (TM x) := by
  obtain ⟨h1, h2, h3, h4, _, _⟩ := gd_sml h
  simp only [T2, I, List.forall_mem_cons, pl_tup, pl_int, List.length_cons, List.length_nil, List.not_mem_nil, false_implies, implies_true, and_true]
  omega
theorem same_new {L : List PyData} (h : ∀ e ∈ L, Smp 2 e) (hl : L.length ≤ 10000) {ρ : En} : doCall ⟨2, [], pg.sem fu (n + 6) 37⟩ [.new (.lst L), .new (.lst L)] ρ = .ok (.dat (.bool true)) ρ :=
  doCall_new2 rfl rfl (s37 (fu := fu) (n := n + 2) (m := 3) (.lst hl h))
theorem gear_ok {x : M2} {S : List (List Cp)} {far most spots : Nat} (hx : gdB x = true) (h : GrOk far most spots S) (h1 : far ≤ 10) (h2 : most ≤ 10) (h3 : spots ≤ 10) : Gs x S ∧ kitB (gear x S) = true := by
  obtain ⟨l0, l1, all⟩ := h
  refine ⟨⟨hx, l0, by omega, fun L hL => ?_⟩, ?_⟩
  · obtain ⟨a0, a1, _, a3⟩ := all L hL
    exact ⟨a0, by omega, fun p hp => by have := a3 p hp; exact ⟨by have := this.hx; omega, by have := this.hy; omega, by have q1 := this.g0; have q2 := this.g1; omega⟩⟩
  · have hg : grB (TM x) = true := (gd_sml hx).2.2.2.2.1
    rw [kitB_tup, hg]
    simp only [Bool.true_and, Bool.and_eq_true, Bool.not_eq_true', List.all_eq_true, List.length_map]
    refine ⟨by cases S <;> simp_all, fun y hy => ?_⟩
    obtain ⟨L, hL, rfl⟩ := List.mem_map.mp hy
    obtain ⟨a0, a1, a2, a3⟩ := all L hL
    rw [stB_tup, toCps_cp]
    simp only [a2, Bool.and_true, Bool.and_eq_true, Bool.not_eq_true', List.all_eq_true]
    refine ⟨by cases L <;> simp_all, fun z hz => ?_⟩
    obtain ⟨p, hp, rfl⟩ := List.mem_map.mp hz
    exact cp_copy ⟨(a3 p hp).g0, (a3 p hp).g1⟩
theorem pl_gear {x : M2} {S : List (List Cp)} (g : Gs x S) : Pl 9 (gear x S) := by
  refine .tup (by simp) fun y hy => ?_
  simp at hy
  rcases hy with rfl | rfl
  · exact (pl_tm (m := 0) g.gx).mono (by omega)
  · refine .tup (m := 7) (by simpa using Nat.le_trans g.l1 (by omega)) fun z hz => ?_
    obtain ⟨L, hL, rfl⟩ := List.mem_map.mp hz
    exact (pl_st (m := 0) (g.all L hL).2.1 (g.all L hL).2.2).mono (by omega)
theorem dip11 {A B m : Int} (hw : DOk A B) (m0 : 0 < m) (m1 : m.natAbs < 2 ^ 64) : ∃ v A' B', 0 ≤ v ∧ v < m ∧ DOk A' B' ∧ ∀ (i : Nat) (fl : Fl) (ρ : En), ρ[i]? = some (.own fl (Dk A B)) → fl = .loc ∨ fl = .par → doCall ⟨2, [0], pg.sem fu (n + 1) 31⟩ [.ref i, .dat (I m)] ρ = .ok (.dat (I v)) (ρ.set i (.own fl (Dk A' B'))) := by
  obtain ⟨r, os, e, v, A', B', rfl, rfl, h1, h2, h3⟩ := (c31 (fu := fu) (n := n) A B m hw m0 m1).eq
  exact ⟨v, A', B', h1, h2, h3, fun i fl ρ hi hf => doCall_par (ds := [I m]) hi hf rfl rfl e⟩
theorem told18 {A B : Int} (hw : DOk A B) (x : M2) (spots most far : Nat) (h1 : 0 < spots ∧ spots ≤ 10) (h2 : 0 < most ∧ most ≤ 10) (h3 : far ≤ 10) :
    ∃ S A' B', DOk A' B' ∧ GrOk far most spots S ∧ ∀ (i : Nat) (fl : Fl) (ρ : En), ρ[i]? = some (.own fl (Dk A B)) → fl = .loc ∨ fl = .par → doCall ⟨5, [0], pg.sem fu (n + 2) 43⟩ [.ref i, .dat (TM x), .dat (I spots), .dat (I most), .dat (I far)] ρ = .ok (.dat (gear x S)) (ρ.set i (.own fl (Dk A' B'))) := by
  obtain ⟨r, os, e, S, A', B', rfl, rfl, h1, h2⟩ := (c43 (fu := fu) (n := n) hw x spots most far h1 h2 h3).eq
  exact ⟨S, A', B', h1, h2, fun i fl ρ hi hf => doCall_par (ds := [TM x, I spots, I most, I far]) hi hf rfl rfl e⟩
abbrev OO (o : Int × Int) : PyData := T2 (I o.1) (I o.2)
def stp (x : M2) (o : Int × Int) (p : Cp) : Int × Int := (x.a * o.1 + x.b * o.2 + p.x, x.c * o.1 + x.d * o.2 + p.y)
def sOf (S : List (List Cp)) (s : Int) : List Cp := S.getD s.toNat []
def cOf (L : List Cp) (i : Int) : Cp := L.getD i.toNat ⟨0, 0, 0⟩
def gone (x : M2) (S : List (List Cp)) : Int → Int × Int → List Int → Option (Int × (Int × Int))
  | s, o, [] => some (s, o)
  | s, o, i :: r => if i < 0 ∨ ((sOf S s).length : Int) ≤ i then none else gone x S (cOf (sOf S s) i).g (stp x o (cOf (sOf S s) i)) r
theorem gone_nil (x : M2) (S : List (List Cp)) (s : Int) (o : Int × Int) : gone x S s o [] = some (s, o) := rfl
theorem gone_cons (x : M2) (S : List (List Cp)) (s : Int) (o : Int × Int) (i : Int) (r : List Int) : gone x S s o (i :: r) = if i < 0 ∨ ((sOf S s).length : Int) ≤ i then none else gone x S (cOf (sOf S s) i).g (stp x o (cOf (sOf S s) i)) r := rfl
def goneD : Option (Int × (Int × Int)) → PyData
  | none => .none
  | some (s, o) => T2 (I s) (OO o)
abbrev row (w : List Int) : PyData := .tuple (w.map .int)
structure Kt (x : M2) (S : List (List Cp)) : Prop where
  gs : Gs x S
  kit : kitB (gear x S) = true
  l : S.length ≤ 4
  ok : ∀ L ∈ S, 0 < L.length ∧ L.length ≤ 6 ∧ ∀ p ∈ L, 0 ≤ p.g ∧ p.g < S.length
def St (S : List (List Cp)) (s : Int) : Prop := 0 ≤ s ∧ s < S.length
theorem at_map {α : Type} (f : α → PyData) (L : List α) (v : Int) (d : α) (h0 : 0 ≤ v) (h1 : v < L.length) : atD (L.map f) v = some (f (L.getD v.toNat d)) := by
  obtain ⟨k, rfl⟩ := Int.eq_ofNat_of_zero_le h0
  have hk : k < L.length := by omega
  rw [atD_nat]
  simp [List.getElem?_eq_getElem hk, List.getD_eq_getElem?_getD]
theorem at_st {S : List (List Cp)} {s : Int} (h : St S s) : atD (S.map st) s = some (st (sOf S s)) := at_map st S s [] h.1 h.2
theorem at_cp {L : List Cp} {i : Int} (h0 : 0 ≤ i) (h1 : i < L.length) : atD (L.map cp) i = some (cp (cOf L i)) := at_map cp L i ⟨0, 0, 0⟩ h0 h1
theorem sOf_mem {S : List (List Cp)} {s : Int} (h : St S s) : sOf S s ∈ S := by
  unfold sOf
  have : s.toNat < S.length := by have := h.1; have := h.2; omega
  rw [List.getD_eq_getElem?_getD, List.getElem?_eq_getElem this]
  exact List.getElem_mem this
theorem cOf_mem {L : List Cp} {i : Int} (h0 : 0 ≤ i) (h1 : i < L.length) : cOf L i ∈ L := by
  unfold cOf
  have : i.toNat < L.length := by omega
  rw [List.getD_eq_getElem?_getD, List.getElem?_eq_getElem this]
  exact List.getElem_mem this
theorem Kt.next {x : M2} {S : List (List Cp)} (k : Kt x S) {s i : Int} (h : St S s) (h0 : 0 ≤ i) (h1 : i < (sOf S s).length) : St S (cOf (sOf S s) i).g := (k.ok _ (sOf_mem h)).2.2 _ (cOf_mem h0 h1)
theorem big3 {i j : Int} (h : i.natAbs ≤ 3) : bigOk i j = true := by
  unfold bigOk
  exact decide_eq_true (.inl (by omega))
theorem Kt.sm {x : M2} {S : List (List Cp)} (k : Kt x S) : x.a.natAbs ≤ 3 ∧ x.b.natAbs ≤ 3 ∧ x.c.natAbs ≤ 3 ∧ x.d.natAbs ≤ 3 := by
  obtain ⟨a, b, c, d, _⟩ := gd_sml k.gs.gx
  exact ⟨a, b, c, d⟩
theorem c28_ (x : M2) (o : Int × Int) (h : x.a.natAbs ≤ 3 ∧ x.b.natAbs ≤ 3 ∧ x.c.natAbs ≤ 3 ∧ x.d.natAbs ≤ 3) {ρ : En} : doCall ⟨2, [], pg.sem fu (n + 1) 41⟩ [.dat (TM x), .dat (OO o)] ρ = .ok (.dat (OO (x.a * o.1 + x.b * o.2, x.c * o.1 + x.d * o.2))) ρ := by
  obtain ⟨h1, h2, h3, h4⟩ := h
  refine doCall_data (ds := [TM x, OO o]) rfl rfl (Ev.sem_eq (ev41 ?_)) rfl
  unfold d41
  refine Ev_cons fun K k1 k2 _ _ => ?_
  simp -dsimp [evB, evS, evR, evT, evC, evO, evAs, evDs, evIt, evPs, letRs, nrm, cnts, cnt, biD, mtOk, mtD, letR, letD, letDs, sto, binD, cmpD, Vi.truthy, esc, lenOk, idxD, isiD, Ret, outs, retR, Rv.isRef, Ob.toD, subS, putD, isNon, okD_int, okD_bool, okD_none, PyData.eqv, PyData.eqvAll, L2.ixN, big3 h1, big3 h2, big3 h3, big3 h4]
  exact k2 _ _ (by simp -dsimp [evB, evS, evR, evT, evC, evO, evAs, evDs, evIt, evPs, letRs, nrm, cnts, cnt, biD, mtOk, mtD, letR, letD, letDs, sto, binD, cmpD, Vi.truthy, esc, lenOk, idxD, isiD, Ret, outs, retR, Rv.isRef, Ob.toD, subS, putD, isNon, okD_int, okD_bool, okD_none, PyData.eqv, PyData.eqvAll, L2.ixN])
theorem c29_ (o q : Int × Int) {ρ : En} : doCall ⟨2, [], pg.sem fu (n + 1) 42⟩ [.dat (OO o), .dat (OO q)] ρ = .ok (.dat (OO (o.1 + q.1, o.2 + q.2))) ρ := by
  refine doCall_data (ds := [OO o, OO q]) rfl rfl (Ev.sem_eq (ev42 ?_)) rfl
  unfold d42
  refine Ev_cons fun K k1 k2 _ _ => ?_
  simp -dsimp [evB, evS, evR, evT, evC, evO, evAs, evDs, evIt, evPs, letRs, nrm, cnts, cnt, biD, mtOk, mtD, letR, letD, letDs, sto, binD, cmpD, Vi.truthy, esc, lenOk, idxD, isiD, Ret, outs, retR, Rv.isRef, Ob.toD, subS, putD, isNon, okD_int, okD_bool, okD_none, PyData.eqv, PyData.eqvAll, L2.ixN]
  exact k2 _ _ (by simp -dsimp [evB, evS, evR, evT, evC, evO, evAs, evDs, evIt, evPs, letRs, nrm, cnts, cnt, biD, mtOk, mtD, letR, letD, letDs, sto, binD, cmpD, Vi.truthy, esc, lenOk, idxD, isiD, Ret, outs, retR, Rv.isRef, Ob.toD, subS, putD, isNon, okD_int, okD_bool, okD_none, PyData.eqv, PyData.eqvAll, L2.ixN])
theorem drop_at {α : Type} {xs : List α} {i : Nat} {v : α} (h : xs[i]? = some v) : xs.drop i = v :: xs.drop (i + 1) := by
  obtain ⟨hi, rfl⟩ := List.getElem?_eq_some_iff.mp h
  exact List.drop_eq_getElem_cons hi
def nn (w : List Int) : Bool := w.all fun i => decide (0 ≤ i)
theorem lc_ints {f : PyData → En → Rs (Option PyData)} {ρ : En} (g : Int → PyData) (w : List Int) (hf : ∀ i ∈ w, f (.int i) ρ = .ok (some (g i)) ρ) : lcL none f (w.map .int) ρ = .ok (w.map g) ρ := by
  induction w with
  | nil => rfl
  | cons i r ih =>
    show lcL none f (.int i :: r.map .int) ρ = _
    unfold lcL
    rw [show lkOk none ρ = true from rfl, if_pos rfl, hf i (by simp), Rs.bind_ok, ih fun j hj => hf j (by simp [hj]), Rs.bind_ok]
    rfl
theorem goneD_none (r : Option (Int × (Int × Int))) : isNon (goneD r) = !r.isSome := by cases r <;> rfl
theorem gone_nn {x : M2} {S : List (List Cp)} : ∀ {w : List Int} {s : Int} {o : Int × Int}, nn w = false → gone x S s o w = none
  | [], s, o, h => by simp [nn] at h
  | i :: r, s, o, h => by
    rw [gone_cons]
    split
    · rfl
    · rename_i hb
      refine gone_nn ?_
      unfold nn at *
      rw [List.all_cons, Bool.and_eq_false_iff] at h
      rcases h with h | h
      · simp at h; omega
      · exact h
theorem nn_all {w : List Int} (h : nn w = true) : ∀ i ∈ w, 0 ≤ i := fun i hi => by
  have := List.all_eq_true.mp h i hi
  simpa using this
theorem gone_st {x : M2} {S : List (List Cp)} (k : Kt x S) : ∀ {w : List Int} {s : Int} {o : Int × Int} {r}, St S s → gone x S s o w = some r → St S r.1
  | [], s, o, r, hs, h => by cases h; exact hs
  | i :: w, s, o, r, hs, h => by
    rw [gone_cons] at h
    split at h
    · cases h
    · rename_i hb
      exact gone_st k (k.next hs (by omega) (by omega)) h
def adrB (x : M2) (S : List (List Cp)) (s : Int) (u v : List Int) : Bool := match gone x S s (0, 0) u with
  | none => false
  | some (f, _) => !v.isEmpty && (match gone x S f (0, 0) v with
    | none => false
    | some (l, _) => l == f)
theorem c20 {x : M2} {S : List (List Cp)} (k : Kt x S) {ρ : En} : doCall ⟨1, [], pg.sem fu (n + 6) 20⟩ [.dat (gear x S)] ρ = .ok (.dat .none) ρ := by
  refine doCall_data (ds := [gear x S]) rfl rfl (Ev.sem_eq (ev20 ?_)) rfl
  unfold d20
  have h11 := fun {ρ : En} => @c19 fu n 9 (gear x S) (pl_gear k.gs) ρ
  rw [k.kit] at h11
  refine Ev_cons fun K k1 k2 _ _ => ?_
  simp -dsimp [evB, evS, evR, evT, evC, evO, evAs, evDs, evIt, evPs, letRs, nrm, cnts, cnt, biD, mtOk, mtD, letR, letD, letDs, sto, binD, cmpD, Vi.truthy, esc, lenOk, idxD, isiD, Ret, outs, retR, Rv.isRef, Ob.toD, subS, putD, isNon, okD_int, okD_bool, okD_none, PyData.eqv, PyData.eqvAll, L2.ixN, at19, h11]
  exact k1 _ (Ev_nil (by simp -dsimp [evB, evS, evR, evT, evC, evO, evAs, evDs, evIt, evPs, letRs, nrm, cnts, cnt, biD, mtOk, mtD, letR, letD, letDs, sto, binD, cmpD, Vi.truthy, esc, lenOk, idxD, isiD, Ret, outs, retR, Rv.isRef, Ob.toD, subS, putD, isNon, okD_int, okD_bool, okD_none, PyData.eqv, PyData.eqvAll, L2.ixN]))
theorem c21 {x : M2} {S : List (List Cp)} {s : Int} (hs : St S s) {ρ : En} : doCall ⟨2, [], pg.sem fu (n + 2) 21⟩ [.dat (gear x S), .dat (I s)] ρ = .ok (.dat .none) ρ := by
  refine doCall_data (ds := [gear x S, I s]) rfl rfl (Ev.sem_eq (ev21 ?_)) rfl
  unfold d21
  obtain ⟨h0, h1⟩ := hs
  refine Ev_cons fun K k1 k2 _ _ => ?_
  simp -dsimp [evB, evS, evR, evT, evC, evO, evAs, evDs, evIt, evPs, letRs, nrm, cnts, cnt, biD, mtOk, mtD, letR, letD, letDs, sto, binD, cmpD, Vi.truthy, esc, lenOk, idxD, isiD, Ret, outs, retR, Rv.isRef, Ob.toD, subS, putD, isNon, okD_int, okD_bool, okD_none, PyData.eqv, PyData.eqvAll, L2.ixN, at0, c0, isN, h0, h1]
  exact k1 _ (Ev_nil (by simp -dsimp [evB, evS, evR, evT, evC, evO, evAs, evDs, evIt, evPs, letRs, nrm, cnts, cnt, biD, mtOk, mtD, letR, letD, letDs, sto, binD, cmpD, Vi.truthy, esc, lenOk, idxD, isiD, Ret, outs, retR, Rv.isRef, Ob.toD, subS, putD, isNon, okD_int, okD_bool, okD_none, PyData.eqv, PyData.eqvAll, L2.ixN]))
theorem eqv_row (w : List Int) : PyData.eqv (row w) (.tuple []) = w.isEmpty := by cases w <;> rfl
theorem okD_row {w : List Int} (hl : w.length ≤ 1000) (hw : ∀ i ∈ w, i.natAbs < 2 ^ 63) : okD (row w) = true := by
  refine Pl.ok (m := 1) (.tup (by simpa using hl) fun e he => ?_) (by decide)
  obtain ⟨i, hi, rfl⟩ := List.mem_map.mp he
  exact .int (hw i hi)
theorem cut_to {xs : List PyData} {k : Nat} (h : k ≤ xs.length) : cutD xs none (some (k : Int)) = xs.take k := by
  unfold cutD
  rw [HT.sIx_none, HT.sIx_nat, Nat.min_eq_left h]
  simp
theorem cut_from {xs : List PyData} {k : Nat} (h : k ≤ xs.length) : cutD xs (some (k : Int)) none = xs.drop k := by
  unfold cutD
  rw [HT.sIx_none, HT.sIx_nat, Nat.min_eq_left h, List.take_of_length_le]
  simp
def rn (S : List (List Cp)) : Int → List Int → Int
  | s, [] => s
  | s, i :: r => rn S (cOf (sOf S s) i).g r
def okW (S : List (List Cp)) : Int → List Int → Prop
  | _, [] => True
  | s, i :: r => 0 ≤ i ∧ i < (sOf S s).length ∧ okW S (cOf (sOf S s) i).g r
theorem run_app (S : List (List Cp)) : ∀ (u v : List Int) (s : Int), rn S s (u ++ v) = rn S (rn S s u) v
  | [], v, s => rfl
  | i :: u, v, s => run_app S u v _
theorem okW_app (S : List (List Cp)) : ∀ (u v : List Int) (s : Int), okW S s (u ++ v) ↔ okW S s u ∧ okW S (rn S s u) v
  | [], v, s => by simp [okW, rn]
  | i :: u, v, s => by
    simp only [List.cons_append, okW, rn, okW_app S u v, and_assoc]
theorem run_st {x : M2} {S : List (List Cp)} (k : Kt x S) : ∀ {w : List Int} {s : Int}, St S s → okW S s w → St S (rn S s w)
  | [], s, h, _ => h
  | i :: w, s, h, ⟨h0, h1, h2⟩ => run_st k (w := w) (k.next h h0 h1) h2
theorem gone_ok {x : M2} {S : List (List Cp)} : ∀ {w : List Int} {s : Int} {o : Int × Int}, okW S s w → ∃ o', gone x S s o w = some (rn S s w, o')
  | [], s, o, _ => ⟨o, rfl⟩
  | i :: w, s, o, ⟨h0, h1, h2⟩ => by
    rw [gone_cons, if_neg (by omega)]
    exact gone_ok (w := w) h2
theorem okW_lt {x : M2} {S : List (List Cp)} (k : Kt x S) : ∀ {w : List Int} {s : Int}, St S s → okW S s w → ∀ i ∈ w, 0 ≤ i ∧ i < 6
  | [], s, h, _, i, hi => by cases hi
  | j :: w, s, h, ⟨h0, h1, h2⟩, i, hi => by
    rcases List.mem_cons.mp hi with rfl | hi
    · have := (k.ok _ (sOf_mem h)).2.1
      omega
    · exact okW_lt k (k.next h h0 h1) h2 i hi
structure Adr (S : List (List Cp)) (s : Int) (u v : List Int) : Prop where
  a : okW S s u
  r : okW S (rn S s u) v
  back : rn S (rn S s u) v = rn S s u
  ne : v ≠ []
theorem Adr.b {x : M2} {S : List (List Cp)} {s : Int} {u v : List Int} (h : Adr S s u v) : adrB x S s u v = true := by
  obtain ⟨o, e⟩ := gone_ok (x := x) (o := (0, 0)) h.a
  obtain ⟨o2, e2⟩ := gone_ok (x := x) (o := (0, 0)) h.r
  unfold adrB
  rw [e]
  dsimp only
  rw [e2, h.back]
  have := h.ne
  cases v <;> simp_all
theorem ring_rep {S : List (List Cp)} {s : Int} {v : List Int} (h : okW S s v) (hb : rn S s v = s) : ∀ m : Nat, okW S s (List.replicate m v).flatten ∧ rn S s (List.replicate m v).flatten = s
  | 0 => ⟨trivial, rfl⟩
  | m + 1 => by
    have ih := ring_rep h hb m
    rw [List.replicate_succ, List.flatten_cons, okW_app, run_app, hb]
    exact ⟨⟨h, ih.1⟩, ih.2⟩
theorem flat_map {α β : Type} (f : α → β) (m : Nat) (v : List α) : (List.replicate m (v.map f)).flatten = (List.replicate m v).flatten.map f := by
  rw [List.map_flatten, List.map_replicate]
theorem flat_len {α : Type} (m : Nat) (v : List α) : (List.replicate m v).flatten.length = m * v.length := by
  simp [List.length_flatten]
def seenOf (S : List (List Cp)) (s : Int) (w : List Int) : List Int := (List.range w.length).map fun j => rn S s (w.take j)
theorem seen_snoc (S : List (List Cp)) (s : Int) (w : List Int) (i : Int) : seenOf S s (w ++ [i]) = seenOf S s w ++ [rn S s w] := by
  unfold seenOf
  rw [List.length_append, List.length_singleton, List.range_succ, List.map_append]
  congr 1
  · refine List.map_congr_left fun j hj => ?_
    rw [List.take_append_of_le_length (by have := List.mem_range.mp hj; omega)]
  · simp
theorem nodup_le {N : Nat} {L : List Int} (nd : L.Nodup) (h : ∀ s ∈ L, 0 ≤ s ∧ s < N) : L.length ≤ N := by
  have hs : L ⊆ (List.range N).map fun (k : Nat) => (k : Int) := fun s hs => by
    obtain ⟨h0, h1⟩ := h s hs
    exact List.mem_map.mpr ⟨s.toNat, List.mem_range.mpr (by omega), by omega⟩
  have := nd.length_le_of_subset hs
  simpa using this
theorem eqv_int (i j : Int) : PyData.eqv (.int i) (.int j) = decide (i = j) := by
  simp [PyData.eqv, Bool.beq_eq_decide_eq]
theorem any_int (L : List Int) (i : Int) : ((L.map PyData.int).any fun z => PyData.eqv z (.int i)) = decide (i ∈ L) := by
  rw [List.any_map]
  induction L with
  | nil => rfl
  | cons a L ih =>
    rw [List.any_cons, ih]
    simp only [Function.comp, eqv_int, List.mem_cons]
    by_cases h : i = a
    · simp [h]
    · simp [h, Ne.symm h, eq_comm]
theorem idx_int {L : List Int} {i : Int} (h : i ∈ L) : ∃ j, ((L.map PyData.int).findIdx? fun z => PyData.eqv z (.int i)) = some j ∧ L[j]? = some i := by
  cases e : (L.map PyData.int).findIdx? fun z => PyData.eqv z (.int i) with
  | none =>
    rw [List.findIdx?_eq_none_iff] at e
    have := e (.int i) (List.mem_map_of_mem h)
    rw [eqv_int] at this
    simp at this
  | some j =>
    obtain ⟨hj, h1, _⟩ := List.findIdx?_eq_some_iff_getElem.mp e
    refine ⟨j, rfl, ?_⟩
    rw [List.getElem_map, eqv_int] at h1
    simp only [List.length_map] at hj
    rw [List.getElem?_eq_getElem hj, of_decide_eq_true h1]
theorem last_map (w : List Int) (v : Int) : atD (w.map PyData.int ++ [.int v]) (-1) = some (.int v) := by rw [atD_m1]; simp
theorem okD_list {w : List Int} (hl : w.length ≤ 1000) (hw : ∀ i ∈ w, i.natAbs < 2 ^ 63) : okD (.list (w.map .int)) = true := by
  refine Pl.ok (m := 1) (.lst (by simpa using hl) fun e he => ?_) (by decide)
  obtain ⟨i, hi, rfl⟩ := List.mem_map.mp he
  exact .int (hw i hi)
structure Trk (S : List (List Cp)) (s : Int) (w : List Int) : Prop where
  ok : okW S s w
  nd : (seenOf S s w).Nodup
theorem seen_len (S : List (List Cp)) (s : Int) (w : List Int) : (seenOf S s w).length = w.length := by simp [seenOf]
theorem seen_st {x : M2} {S : List (List Cp)} (k : Kt x S) {s : Int} {w : List Int} (hs : St S s) (h : okW S s w) : ∀ t ∈ seenOf S s w, St S t := fun t ht => by
  obtain ⟨j, hj, rfl⟩ := List.mem_map.mp ht
  refine run_st k hs ?_
  have : okW S s (w.take j ++ w.drop j) := by rw [List.take_append_drop]; exact h
  exact ((okW_app S _ _ s).mp this).1
theorem Trk.len {x : M2} {S : List (List Cp)} (k : Kt x S) {s : Int} {w : List Int} (hs : St S s) (h : Trk S s w) : w.length ≤ 4 := by
  have := nodup_le (N := S.length) h.nd (fun t ht => seen_st k hs h.ok t ht)
  rw [seen_len] at this
  have := k.l
  omega
theorem Trk.snoc {S : List (List Cp)} {s i : Int} {w : List Int} (h : Trk S s w) (hn : rn S s w ∉ seenOf S s w) (h0 : 0 ≤ i) (h1 : i < (sOf S (rn S s w)).length) : Trk S s (w ++ [i]) := by
  refine ⟨?_, ?_⟩
  · rw [okW_app]
    exact ⟨h.ok, h0, h1, trivial⟩
  · rw [seen_snoc, List.nodup_append]
    refine ⟨h.nd, by simp, fun a ha b hb e => ?_⟩
    simp at hb
    subst hb
    subst e
    exact hn ha
theorem Trk.adr {S : List (List Cp)} {s : Int} {w : List Int} (h : Trk S s w) {j : Nat} (hj : (seenOf S s w)[j]? = some (rn S s w)) (m : Nat) (hm : 0 < m) : j < w.length ∧ Adr S s (w.take j) (List.replicate m (w.drop j)).flatten := by
  have hjl : j < w.length := by have := get_lt hj; rwa [seen_len] at this
  have e : rn S s (w.take j) = rn S s w := by
    unfold seenOf at hj
    rw [List.getElem?_map, List.getElem?_range hjl] at hj
    exact Option.some.inj hj
  have hw : w.take j ++ w.drop j = w := List.take_append_drop j w
  have ho : okW S s (w.take j ++ w.drop j) := by rw [hw]; exact h.ok
  obtain ⟨o1, o2⟩ := (okW_app S _ _ s).mp ho
  have hb : rn S (rn S s (w.take j)) (w.drop j) = rn S s (w.take j) := by rw [← run_app, hw, e]
  obtain ⟨r1, r2⟩ := ring_rep o2 hb m
  refine ⟨hjl, o1, r1, r2, ?_⟩
  have hl : (List.replicate m (w.drop j)).flatten.length = m * (w.length - j) := by rw [flat_len, List.length_drop]
  intro z
  rw [z] at hl
  have : 0 < m * (w.length - j) := Nat.mul_pos hm (by omega)
  simp at hl
  omega
def M2.one : M2 := ⟨1, 0, 0, 1⟩
def M2.pow (x : M2) : Nat → M2
  | 0 => M2.one
  | n + 1 => x.mul (x.pow n)
def tau (s t : Int) : Nat → Int
  | 0 => 2
  | 1 => t
  | n + 2 => t * tau s t (n + 1) - s * tau s t n
theorem det_mul (x y : M2) : (x.mul y).det = x.det * y.det := by
  simp only [M2.mul, M2.det]
  grind
theorem det_pow (x : M2) : ∀ n, (x.pow n).det = x.det ^ n
  | 0 => by simp [M2.pow, M2.one, M2.det]
  | n + 1 => by
    rw [M2.pow, det_mul, det_pow x n, Int.pow_succ, Int.mul_comm]
theorem tr_rec (x y : M2) : (x.mul (x.mul y)).tr = x.tr * (x.mul y).tr - x.det * y.tr := by
  simp only [M2.mul, M2.det, M2.tr]
  grind
theorem tr_pow (x : M2) : ∀ n, (x.pow n).tr = tau x.det x.tr n
  | 0 => by simp [M2.pow, M2.one, M2.tr, tau]
  | 1 => by simp [M2.pow, M2.one, M2.mul, M2.tr, tau]
  | n + 2 => by
    have h1 := tr_pow x (n + 1)
    have h0 := tr_pow x n
    rw [tau, ← h1, ← h0]
    exact tr_rec x (x.pow n)
theorem c3 (a b : Int) (h : Sz b) {ρ : En} : doCall ⟨2, [], pg.sem fu (n + 1) 3⟩ [.dat (I a), .dat (I b)] ρ = .ok (.dat (P2 (low a b))) ρ := by
  refine doCall_data (ds := [I a, I b]) rfl rfl (Ev.sem_eq (ev3 ?_)) rfl
  obtain ⟨h1, h2⟩ := div_gcd (a := a) h
  unfold d3 low
  by_cases hb : b < 0 <;> simp -dsimp [evB, evS, evR, evT, evC, evO, evAs, evDs, evIt, evPs, letRs, nrm, cnts, cnt, biD, mtOk, mtD, letR, letD, letDs, sto, binD, cmpD, Vi.truthy, esc, lenOk, idxD, isiD, Ret, outs, retR, Rv.isRef, Ob.toD, subS, putD, isNon, okD_int, okD_bool, okD_none, PyData.eqv, PyData.eqvAll, L2.ixN, hb, h1, h2]
theorem gls0 : pg.gd[0]? = some (P2 (0, 1)) := rfl
theorem gls1 : pg.gd[1]? = some (P2 (1, 1)) := rfl
theorem whl_gcd (Γ : Cn) : ∀ (y fuel x : Nat), y < fuel →
    whL (fun ρ => evT Γ (.cmp .ne (.var 1) (.con (.int 0))) ρ) (fun ρ => evB Γ [.par [0, 1] [(.var 1), (.bin .mod (.bi .int [(.var 0)]) (.var 1))]] ρ) fuel [.dat (I x), .dat (I y)] = .ok .nx [.dat (I (Nat.gcd x y)), .dat (I 0)] := by
  intro y fuel x hf
  refine Ev.sem_eq (Ev_whL (fun m ρ => ∃ x' : Nat, Nat.gcd x' m = Nat.gcd x y ∧ ρ = [.dat (I x'), .dat (I m)]) ?_ y fuel _ ⟨x, rfl, rfl⟩ hf)
  rintro m ρ ⟨x', hg, rfl⟩
  by_cases hm : m = 0
  · subst hm
    simp -dsimp [evB, evS, evR, evT, evC, evO, evAs, evDs, evIt, evPs, letRs, nrm, cnts, cnt, biD, mtOk, mtD, letR, letD, letDs, sto, binD, cmpD, Vi.truthy, esc, lenOk, idxD, isiD, Ret, outs, retR, Rv.isRef, Ob.toD, subS, putD, isNon, okD_int, okD_bool, okD_none, PyData.eqv, PyData.eqvAll, L2.ixN]
    simp at hg
    omega
  · have e : (x' : Int).fmod m = ((x' % m : Nat) : Int) := by rw [Int.fmod_eq_emod_of_nonneg _ (by omega)]; rfl
    have hm' : ¬ ((m : Int) = 0) := by omega
    have eg : Nat.gcd m (x' % m) = Nat.gcd x' m := by rw [Nat.gcd_comm x' m, Nat.gcd_rec m x', Nat.gcd_comm]
    simp -dsimp [evB, evS, evR, evT, evC, evO, evAs, evDs, evIt, evPs, letRs, nrm, cnts, cnt, biD, mtOk, mtD, letR, letD, letDs, sto, binD, cmpD, Vi.truthy, esc, lenOk, idxD, isiD, Ret, outs, retR, Rv.isRef, Ob.toD, subS, putD, isNon, okD_int, okD_bool, okD_none, PyData.eqv, PyData.eqvAll, L2.ixN, hm, hm', e]
    exact ⟨x' % m, Nat.mod_lt _ (by omega), m, eg.trans hg, by simp⟩
theorem c32 (x y : Nat) (hf : y < fu) {ρ : En} : doCall ⟨2, [], pg.sem fu (n + 1) 32⟩ [.dat (I x), .dat (I y)] ρ = .ok (.dat (I (Nat.gcd x y))) ρ := by
  refine doCall_data (ds := [I x, I y]) rfl rfl (Ev.sem_eq (ev32 ?_)) rfl
  have hw := whl_gcd ⟨Fns pg.gd fu pg.pc.ds n, pg.gd, fu⟩ y fu x hf
  unfold d32
  refine Ev_cons fun K k1 k2 _ _ => ?_
  show Ev (whL _ _ fu [.dat (I x), .dat (I y)]) K
  rw [hw]
  refine k1 _ (Ev_cons fun K k1 k2 _ _ => ?_)
  simp -dsimp [evB, evS, evR, evT, evC, evO, evAs, evDs, evIt, evPs, letRs, nrm, cnts, cnt, biD, mtOk, mtD, letR, letD, letDs, sto, binD, cmpD, Vi.truthy, esc, lenOk, idxD, isiD, Ret, outs, retR, Rv.isRef, Ob.toD, subS, putD, isNon, okD_int, okD_bool, okD_none, PyData.eqv, PyData.eqvAll, L2.ixN]
  exact k2 _ _ (by simp -dsimp [evB, evS, evR, evT, evC, evO, evAs, evDs, evIt, evPs, letRs, nrm, cnts, cnt, biD, mtOk, mtD, letR, letD, letDs, sto, binD, cmpD, Vi.truthy, esc, lenOk, idxD, isiD, Ret, outs, retR, Rv.isRef, Ob.toD, subS, putD, isNon, okD_int, okD_bool, okD_none, PyData.eqv, PyData.eqvAll, L2.ixN])
theorem c33 (a b : Int) (h : Sz b) (hf : b.natAbs < fu) {ρ : En} : doCall ⟨2, [], pg.sem fu (n + 2) 33⟩ [.dat (I a), .dat (I b)] ρ = .ok (.dat (P2 (low a b))) ρ := by
  refine doCall_data (ds := [I a, I b]) rfl rfl (Ev.sem_eq (ev33 ?_)) rfl
  obtain ⟨h1, h2⟩ := div_gcd (a := a) h
  have ha : (if a < 0 then -a else a) = (a.natAbs : Int) := by split <;> omega
  have hb : (if b < 0 then -b else b) = (b.natAbs : Int) := by split <;> omega
  have h28 := @c32 fu n a.natAbs b.natAbs hf
  unfold d33
  refine Ev_cons fun K k1 k2 _ _ => ?_
  simp -dsimp [evB, evS, evR, evT, evC, evO, evAs, evDs, evIt, evPs, letRs, nrm, cnts, cnt, biD, mtOk, mtD, letR, letD, letDs, sto, binD, cmpD, Vi.truthy, esc, lenOk, idxD, isiD, Ret, outs, retR, Rv.isRef, Ob.toD, subS, putD, isNon, okD_int, okD_bool, okD_none, PyData.eqv, PyData.eqvAll, L2.ixN, ha, hb, at32, h28]
  refine k1 _ (Ev_cons fun K k1 k2 _ _ => ?_)
  by_cases hp : b < 0
  · simp -dsimp [evB, evS, evR, evT, evC, evO, evAs, evDs, evIt, evPs, letRs, nrm, cnts, cnt, biD, mtOk, mtD, letR, letD, letDs, sto, binD, cmpD, Vi.truthy, esc, lenOk, idxD, isiD, Ret, outs, retR, Rv.isRef, Ob.toD, subS, putD, isNon, okD_int, okD_bool, okD_none, PyData.eqv, PyData.eqvAll, L2.ixN, hp]
    refine k1 _ (Ev_cons fun K k1 k2 _ _ => ?_)
    simp -dsimp [evB, evS, evR, evT, evC, evO, evAs, evDs, evIt, evPs, letRs, nrm, cnts, cnt, biD, mtOk, mtD, letR, letD, letDs, sto, binD, cmpD, Vi.truthy, esc, lenOk, idxD, isiD, Ret, outs, retR, Rv.isRef, Ob.toD, subS, putD, isNon, okD_int, okD_bool, okD_none, PyData.eqv, PyData.eqvAll, L2.ixN, hp, h2]
    exact k2 _ _ (by simp -dsimp [evB, evS, evR, evT, evC, evO, evAs, evDs, evIt, evPs, letRs, nrm, cnts, cnt, biD, mtOk, mtD, letR, letD, letDs, sto, binD, cmpD, Vi.truthy, esc, lenOk, idxD, isiD, Ret, outs, retR, Rv.isRef, Ob.toD, subS, putD, isNon, okD_int, okD_bool, okD_none, PyData.eqv, PyData.eqvAll, L2.ixN, low, hp])
  · simp -dsimp [evB, evS, evR, evT, evC, evO, evAs, evDs, evIt, evPs, letRs, nrm, cnts, cnt, biD, mtOk, mtD, letR, letD, letDs, sto, binD, cmpD, Vi.truthy, esc, lenOk, idxD, isiD, Ret, outs, retR, Rv.isRef, Ob.toD, subS, putD, isNon, okD_int, okD_bool, okD_none, PyData.eqv, PyData.eqvAll, L2.ixN, hp]
    refine k1 _ (Ev_cons fun K k1 k2 _ _ => ?_)
    simp -dsimp [evB, evS, evR, evT, evC, evO, evAs, evDs, evIt, evPs, letRs, nrm, cnts, cnt, biD, mtOk, mtD, letR, letD, letDs, sto, binD, cmpD, Vi.truthy, esc, lenOk, idxD, isiD, Ret, outs, retR, Rv.isRef, Ob.toD, subS, putD, isNon, okD_int, okD_bool, okD_none, PyData.eqv, PyData.eqvAll, L2.ixN, hp, h1]
    exact k2 _ _ (by simp -dsimp [evB, evS, evR, evT, evC, evO, evAs, evDs, evIt, evPs, letRs, nrm, cnts, cnt, biD, mtOk, mtD, letR, letD, letDs, sto, binD, cmpD, Vi.truthy, esc, lenOk, idxD, isiD, Ret, outs, retR, Rv.isRef, Ob.toD, subS, putD, isNon, okD_int, okD_bool, okD_none, PyData.eqv, PyData.eqvAll, L2.ixN, low, hp])
structure Fr2 (p q : Int) (k : Nat) : Prop where
  hq : q ≠ 0
  mp : Md k p
  mq : Md k q
theorem Fr2.lo {p q : Int} {k : Nat} (h : Fr2 p q k) : Md k (low p q).1 ∧ Md k (low p q).2 ∧ 0 < (low p q).2 := ⟨h.mp.low1 h.hq, h.mq.low2 h.hq, low_pos h.hq⟩
theorem sz_md {a b : Int} {j k : Nat} (ha : a ≠ 0) (hb : b ≠ 0) (h1 : Md j a) (h2 : Md k b) (h : j + k ≤ 9000) : Sz (a * b) :=
  ⟨Int.mul_ne_zero ha hb, Nat.lt_of_lt_of_le (natAbs_mul_lt h1 h2) (Nat.pow_le_pow_right (by omega) h)⟩
theorem big_md {a b : Int} {j k : Nat} (ha : Md j a) (hb : Md k b) (h : j ≤ 9000 ∧ k ≤ 9000) : bigOk a b = true := by
  have l : ∀ (x : Int) (i : Nat), Md i x → i ≤ 9000 → x.natAbs.log2 ≤ 9000 := fun x i hx hi => by
    by_cases h0 : x.natAbs = 0
    · rw [h0]; decide
    · have := (Nat.log2_lt h0).mpr hx
      omega
  have h1 := l a j ha h.1
  have h2 := l b k hb h.2
  unfold bigOk
  exact decide_eq_true (.inr (.inr (by omega)))
theorem lt_fu {a b : Int} {j k : Nat} (ha : Md j a) (hb : Md k b) (h : j + k ≤ 4000) (hf : 2 ^ 4000 < fu) : (a * b).natAbs < fu :=
  Nat.lt_trans (Nat.lt_of_lt_of_le (ha.mul hb) (Nat.pow_le_pow_right (by omega) h)) hf
theorem c34 {p q r s : Int} {j : Nat} (hj : j ≤ 2000) (h1 : Fr2 p q j) (h2 : Fr2 r s j) (hf : 2 ^ 4000 < fu) {ρ : En} : doCall ⟨2, [], pg.sem fu (n + 3) 34⟩ [.dat (P2 (low p q)), .dat (P2 (low r s))] ρ = .ok (.dat (P2 (low (p * s + r * q) (q * s)))) ρ := by
  refine doCall_data (ds := [P2 (low p q), P2 (low r s)]) rfl rfl (Ev.sem_eq (ev34 ?_)) rfl
  obtain ⟨a1, a2, a3⟩ := h1.lo
  obtain ⟨b1, b2, b3⟩ := h2.lo
  have e := low_add (p := p) (r := r) h1.hq h2.hq
  have h29 := @c33 fu n ((low p q).1 * (low r s).2 + (low r s).1 * (low p q).2) ((low p q).2 * (low r s).2) (sz_md (by omega) (by omega) a2 b2 (by omega)) (lt_fu a2 b2 (by omega) hf)
  rw [e] at h29
  unfold d34
  simp -dsimp [evB, evS, evR, evT, evC, evO, evAs, evDs, evIt, evPs, letRs, nrm, cnts, cnt, biD, mtOk, mtD, letR, letD, letDs, sto, binD, cmpD, Vi.truthy, esc, lenOk, idxD, isiD, Ret, outs, retR, Rv.isRef, Ob.toD, subS, putD, isNon, okD_int, okD_bool, okD_none, PyData.eqv, PyData.eqvAll, L2.ixN, big_md a1 b2 (by omega), big_md b1 a2 (by omega), big_md a2 b2 (by omega), at33, h29]
theorem c35 {p q r s : Int} {j : Nat} (hj : j ≤ 2000) (h1 : Fr2 p q j) (h2 : Fr2 r s j) (hf : 2 ^ 4000 < fu) {ρ : En} : doCall ⟨2, [], pg.sem fu (n + 3) 35⟩ [.dat (P2 (low p q)), .dat (P2 (low r s))] ρ = .ok (.dat (P2 (low (p * r) (q * s)))) ρ := by
  refine doCall_data (ds := [P2 (low p q), P2 (low r s)]) rfl rfl (Ev.sem_eq (ev35 ?_)) rfl
  obtain ⟨a1, a2, a3⟩ := h1.lo
  obtain ⟨b1, b2, b3⟩ := h2.lo
  have e := low_mul (p := p) (r := r) h1.hq h2.hq
  have h29 := @c33 fu n ((low p q).1 * (low r s).1) ((low p q).2 * (low r s).2) (sz_md (by omega) (by omega) a2 b2 (by omega)) (lt_fu a2 b2 (by omega) hf)
  rw [e] at h29
  unfold d35
  simp -dsimp [evB, evS, evR, evT, evC, evO, evAs, evDs, evIt, evPs, letRs, nrm, cnts, cnt, biD, mtOk, mtD, letR, letD, letDs, sto, binD, cmpD, Vi.truthy, esc, lenOk, idxD, isiD, Ret, outs, retR, Rv.isRef, Ob.toD, subS, putD, isNon, okD_int, okD_bool, okD_none, PyData.eqv, PyData.eqvAll, L2.ixN, big_md a1 b1 (by omega), big_md a2 b2 (by omega), at33, h29]
abbrev Pt (X Y q : Int) : PyData := T2 (P2 (low X q)) (P2 (low Y q))
theorem low_scale {p q g : Int} (hq : q ≠ 0) (hg : g ≠ 0) : low (p * g) (q * g) = low p q := low_eq (Int.mul_ne_zero hq hg) hq (by grind)
abbrev Vc := Int × Int
def mv (x : M2) (v : Vc) : Vc := (x.a * v.1 + x.b * v.2, x.c * v.1 + x.d * v.2)
def on1 (x : M2) (q : Int) (v : Vc) (p : Cp) : Vc := (x.a * v.1 + x.b * v.2 + -p.x * q, x.c * v.1 + x.d * v.2 + -p.y * q)
def act (x : M2) (q : Int) (v : Vc) (L : List Cp) : Vc := L.foldl (on1 x q) v
def off (x : M2) (o : Vc) (L : List Cp) : Vc := L.foldl (stp x) o
def cps (S : List (List Cp)) : Int → List Int → List Cp
  | _, [] => []
  | s, i :: r => cOf (sOf S s) i :: cps S (cOf (sOf S s) i).g r
theorem cps_app (S : List (List Cp)) : ∀ (u v : List Int) (s : Int), cps S s (u ++ v) = cps S s u ++ cps S (rn S s u) v
  | [], v, s => rfl
  | i :: u, v, s => by
    show cOf (sOf S s) i :: cps S _ (u ++ v) = _
    rw [cps_app S u v]; rfl
theorem cps_len (S : List (List Cp)) : ∀ (u : List Int) (s : Int), (cps S s u).length = u.length
  | [], s => rfl
  | i :: u, s => by simp [cps, cps_len S u]
theorem gone_off {x : M2} {S : List (List Cp)} : ∀ {w : List Int} {s : Int} {o : Int × Int}, okW S s w → gone x S s o w = some (rn S s w, off x o (cps S s w))
  | [], s, o, _ => rfl
  | i :: w, s, o, ⟨h0, h1, h2⟩ => by
    rw [gone_cons, if_neg (by omega)]
    exact gone_off (w := w) h2
theorem act_app (x : M2) (q : Int) (v : Vc) (L M : List Cp) : act x q v (L ++ M) = act x q (act x q v L) M := List.foldl_append
theorem mv_mul (x y : M2) (v : Vc) : mv (x.mul y) v = mv x (mv y v) := by
  unfold mv M2.mul
  ext <;> simp only [] <;> grind
theorem mul_assoc' (x y z : M2) : (x.mul y).mul z = x.mul (y.mul z) := by
  unfold M2.mul
  simp only [M2.mk.injEq]
  refine ⟨?_, ?_, ?_, ?_⟩ <;> grind
theorem pow_comm (x : M2) : ∀ n, (x.pow n).mul x = x.mul (x.pow n)
  | 0 => by
    unfold M2.pow M2.one M2.mul
    simp
  | n + 1 => by
    show (x.mul (x.pow n)).mul x = x.mul (x.mul (x.pow n))
    rw [mul_assoc', pow_comm x n]
theorem act_gen (x : M2) (q : Int) : ∀ (L : List Cp) (v o : Vc), act x q (v.1 - q * o.1, v.2 - q * o.2) L = ((mv (x.pow L.length) v).1 - q * (off x o L).1, (mv (x.pow L.length) v).2 - q * (off x o L).2)
  | [], v, o => by simp [act, off, mv, M2.pow, M2.one]
  | p :: L, v, o => by
    have ih := act_gen x q L (mv x v) (stp x o p)
    have e : on1 x q (v.1 - q * o.1, v.2 - q * o.2) p = ((mv x v).1 - q * (stp x o p).1, (mv x v).2 - q * (stp x o p).2) := by
      unfold on1 mv stp
      ext <;> simp only [] <;> grind
    show act x q (on1 x q (v.1 - q * o.1, v.2 - q * o.2) p) L = _
    rw [e, ih, ← mv_mul, pow_comm]
    rfl
theorem act_off (x : M2) (q : Int) (L : List Cp) (v : Vc) : act x q v L = ((mv (x.pow L.length) v).1 - q * (off x (0, 0) L).1, (mv (x.pow L.length) v).2 - q * (off x (0, 0) L).2) := by
  have := act_gen x q L v (0, 0)
  simpa using this
theorem act_scale (x : M2) (q c : Int) (L : List Cp) (v : Vc) : act x (q * c) (v.1 * c, v.2 * c) L = ((act x q v L).1 * c, (act x q v L).2 * c) := by
  rw [act_off, act_off]
  unfold mv
  ext <;> simp only [] <;> grind
def ringM (x : M2) (k : Nat) : M2 := ⟨(x.pow k).a - 1, (x.pow k).b, (x.pow k).c, (x.pow k).d - 1⟩
theorem cramer {N : M2} {z w : Int} (hN : N.det ≠ 0) (h1 : N.a * z + N.b * w = 0) (h2 : N.c * z + N.d * w = 0) : z = 0 ∧ w = 0 := by
  unfold M2.det at hN
  constructor
  · have : (N.a * N.d - N.b * N.c) * z = 0 := by
      have : (N.a * N.d - N.b * N.c) * z = N.d * (N.a * z + N.b * w) - N.b * (N.c * z + N.d * w) := by grind
      rw [this, h1, h2]; simp
    exact (Int.mul_eq_zero.mp this).resolve_left hN
  · have : (N.a * N.d - N.b * N.c) * w = 0 := by
      have : (N.a * N.d - N.b * N.c) * w = N.a * (N.c * z + N.d * w) - N.c * (N.a * z + N.b * w) := by grind
      rw [this, h1, h2]; simp
    exact (Int.mul_eq_zero.mp this).resolve_left hN
structure IsPt (x : M2) (U W : List Cp) (v : Vc) (q : Int) : Prop where
  hq : q ≠ 0
  eq : act x q (act x q v U) W = act x q v U
theorem IsPt.uniq {x : M2} {U W : List Cp} {v v' : Vc} {q q' : Int} (h : IsPt x U W v q) (h' : IsPt x U W v' q') (hd : x.det ≠ 0) (hk : (ringM x W.length).det ≠ 0) : v.1 * q' = v'.1 * q ∧ v.2 * q' = v'.2 * q := by
  have e := h.eq
  have e' := h'.eq
  have dif : ∀ (L : List Cp) (a b : Vc), ((act x q a L).1 * q' - (act x q' b L).1 * q, (act x q a L).2 * q' - (act x q' b L).2 * q) = mv (x.pow L.length) (a.1 * q' - b.1 * q, a.2 * q' - b.2 * q) := fun L a b => by
    rw [act_off, act_off]
    unfold mv
    ext <;> simp only [] <;> grind
  have d1 := dif W (act x q v U) (act x q' v' U)
  rw [e, e'] at d1
  have d2 := dif U v v'
  generalize act x q v U = a at *
  generalize act x q' v' U = b at *
  generalize hz : a.1 * q' - b.1 * q = z at *
  generalize hw : a.2 * q' - b.2 * q = w at *
  have f1 := congrArg Prod.fst d1
  have f2 := congrArg Prod.snd d1
  simp only [mv] at f1 f2
  obtain ⟨rfl, rfl⟩ := cramer (N := ringM x W.length) (z := z) (w := w) hk (by simp only [ringM]; grind) (by simp only [ringM]; grind)
  have g1 := congrArg Prod.fst d2
  have g2 := congrArg Prod.snd d2
  simp only [mv] at g1 g2
  have hp : (x.pow U.length).det ≠ 0 := by rw [det_pow]; exact Int.pow_ne_zero hd
  obtain ⟨q1, q2⟩ := cramer hp g1.symm g2.symm
  exact ⟨by omega, by omega⟩
def adjv (N : M2) (w : Vc) : Vc := (N.d * w.1 - N.b * w.2, N.a * w.2 - N.c * w.1)
theorem mv_adjv (N : M2) (w : Vc) : mv N (adjv N w) = (w.1 * N.det, w.2 * N.det) := by
  unfold mv adjv M2.det
  ext <;> simp only [] <;> grind
def fixV (x : M2) (W : List Cp) : Vc := adjv (ringM x W.length) (off x (0, 0) W)
theorem fix_pt {x : M2} {W : List Cp} (hk : (ringM x W.length).det ≠ 0) : IsPt x [] W (fixV x W) (ringM x W.length).det := ⟨hk, by
  show act x _ (fixV x W) W = fixV x W
  rw [act_off]
  have h := mv_adjv (ringM x W.length) (off x (0, 0) W)
  have h1 := congrArg Prod.fst h
  have h2 := congrArg Prod.snd h
  unfold fixV
  generalize adjv (ringM x W.length) (off x (0, 0) W) = f at *
  generalize off x (0, 0) W = o at *
  generalize (ringM x W.length).det = D at *
  unfold mv ringM at h1 h2
  unfold mv
  simp only [] at h1 h2
  ext <;> simp only [] <;> grind⟩
def ptV (x : M2) (U W : List Cp) : Vc := adjv (x.pow U.length) ((fixV x W).1 * 1 + (off x (0, 0) U).1 * (ringM x W.length).det, (fixV x W).2 * 1 + (off x (0, 0) U).2 * (ringM x W.length).det)
def ptQ (x : M2) (U W : List Cp) : Int := (ringM x W.length).det * 1 * (x.pow U.length).det
theorem act_pt {x : M2} {U W : List Cp} : act x (ptQ x U W) (ptV x U W) U = ((fixV x W).1 * (x.pow U.length).det, (fixV x W).2 * (x.pow U.length).det) := by
  rw [act_off]
  unfold ptV ptQ
  rw [mv_adjv]
  ext <;> simp only [] <;> grind
theorem is_pt {x : M2} {U W : List Cp} (hd : x.det ≠ 0) (hk : (ringM x W.length).det ≠ 0) : IsPt x U W (ptV x U W) (ptQ x U W) := by
  have hp : (x.pow U.length).det ≠ 0 := by rw [det_pow]; exact Int.pow_ne_zero hd
  refine ⟨Int.mul_ne_zero (Int.mul_ne_zero hk (by decide)) hp, ?_⟩
  rw [act_pt]
  unfold ptQ
  rw [Int.mul_one, act_scale]
  have := (fix_pt hk).eq
  rw [show act x (ringM x W.length).det (fixV x W) [] = fixV x W from rfl] at this
  rw [this]
theorem IsPt.turn {x : M2} {U A B : List Cp} {v : Vc} {q : Int} (h : IsPt x U (A ++ B) v q) : IsPt x (U ++ A) (B ++ A) v q := ⟨h.hq, by
  have e := h.eq
  rw [act_app] at e
  rw [act_app, act_app x q v U A, e]⟩
theorem IsPt.twice {x : M2} {U W : List Cp} {v : Vc} {q : Int} (h : IsPt x U W v q) : IsPt x (U ++ W) (W ++ W) v q := ⟨h.hq, by
  have e := h.eq
  rw [act_app, act_app x q v U W, e, e, e]⟩
theorem IsPt.behind {x : M2} {U W : List Cp} {v : Vc} {q : Int} (h : IsPt x U W v q) : IsPt x [] W (act x q v U) q := ⟨h.hq, h.eq⟩
def ringOk (s t : Int) : Nat → Int → Int → Int → Bool
  | 0, _, _, _ => true
  | n + 1, a, b, p => decide (p - a + 1 ≠ 0) && ringOk s t n b (t * b - s * a) (p * s)
theorem ringOk_spec {s t : Int} : ∀ (n j : Nat), ringOk s t n (tau s t j) (tau s t (j + 1)) (s ^ j) = true → ∀ i, i < n → s ^ (j + i) - tau s t (j + i) + 1 ≠ 0
  | 0, j, h, i, hi => (Nat.not_lt_zero _ hi).elim
  | n + 1, j, h, i, hi => by
    simp only [ringOk, Bool.and_eq_true, decide_eq_true_eq] at h
    cases i with
    | zero => exact h.1
    | succ i =>
      have e : s ^ (j + 1) = s ^ j * s := by rw [Int.pow_succ]
      have := ringOk_spec n (j + 1) (by rw [e]; exact h.2) i (by omega)
      rwa [show j + 1 + i = j + (i + 1) by omega] at this
theorem ring_all : ((List.range 19).all fun i => (List.range 13).all fun j => !growing' ((i : Int) - 9) ((j : Int) - 6) || ringOk ((i : Int) - 9) ((j : Int) - 6) 50 ((j : Int) - 6) (((j : Int) - 6) * ((j : Int) - 6) - ((i : Int) - 9) * 2) ((i : Int) - 9)) = true := by decide +kernel
theorem gd_ring {x : M2} (h : gdB x = true) {k : Nat} (h0 : 0 < k) (h1 : k ≤ 50) : x.det ≠ 0 ∧ (ringM x k).det ≠ 0 := by
  obtain ⟨a, b, c, d, gr, dt⟩ := gd_sml h
  have e : (ringM x k).det = x.det ^ k - tau x.det x.tr k + 1 := by
    rw [← det_pow, ← tr_pow]
    unfold ringM M2.det M2.tr
    simp only []
    grind
  have htr : x.tr.natAbs ≤ 6 := by unfold M2.tr; omega
  have hd : x.det ≠ 0 := by
    intro z
    unfold M2.gr growing' at gr
    rw [z] at gr
    simp at gr
  refine ⟨hd, ?_⟩
  rw [e]
  have h := List.all_eq_true.mp ring_all (x.det + 9).toNat (List.mem_range.mpr (by omega))
  have h := List.all_eq_true.mp h (x.tr + 6).toNat (List.mem_range.mpr (by omega))
  rw [show (((x.det + 9).toNat : Nat) : Int) - 9 = x.det by omega, show (((x.tr + 6).toNat : Nat) : Int) - 6 = x.tr by omega] at h
  have gr' : growing' x.det x.tr = true := gr
  rw [gr'] at h
  have q := ringOk_spec (s := x.det) (t := x.tr) 50 1 (by
    rw [Int.pow_succ, Int.pow_zero, Int.one_mul]
    show ringOk x.det x.tr 50 x.tr (x.tr * x.tr - x.det * 2) x.det = true
    simpa using h) (k - 1) (by omega)
  rwa [show 1 + (k - 1) = k by omega] at q
theorem Md.i {k : Nat} {a : Int} (h : a.natAbs < 2 ^ k) : Md k a := h
theorem Md3 {a : Int} (h : a.natAbs ≤ 3) : Md 2 a := by unfold Md; omega
structure Ent (x : M2) (k : Nat) : Prop where
  ha : Md k x.a
  hb : Md k x.b
  hc : Md k x.c
  hd : Md k x.d
theorem Ent.det {x : M2} {k : Nat} (h : Ent x k) : Md (2 * k + 1) x.det := by
  have h1 := (h.ha.mul h.hd).add (h.hb.mul h.hc).neg
  rw [← Int.sub_eq_add_neg] at h1
  unfold M2.det
  rwa [show k + k = 2 * k by omega] at h1
theorem md_lin {a b u v : Int} {k : Nat} (ha : a.natAbs ≤ 3) (hb : b.natAbs ≤ 3) (hu : Md k u) (hv : Md k v) : (a * u + b * v).natAbs ≤ 6 * (2 ^ k - 1) := by
  unfold Md at *
  have h1 : (a * u).natAbs ≤ 3 * (2 ^ k - 1) := by rw [Int.natAbs_mul]; exact Nat.mul_le_mul ha (by omega)
  have h2 : (b * v).natAbs ≤ 3 * (2 ^ k - 1) := by rw [Int.natAbs_mul]; exact Nat.mul_le_mul hb (by omega)
  omega
theorem md_up {u : Int} {k : Nat} (h : u.natAbs ≤ 6 * (2 ^ k - 1)) : Md (k + 3) u := by
  unfold Md
  rw [Nat.pow_succ, Nat.pow_succ, Nat.pow_succ]
  have := Nat.two_pow_pos k
  omega
structure E3 (x : M2) : Prop where
  ha : x.a.natAbs ≤ 3
  hb : x.b.natAbs ≤ 3
  hc : x.c.natAbs ≤ 3
  hd : x.d.natAbs ≤ 3
theorem pow_ent {x : M2} (h : E3 x) : ∀ k, Ent (x.pow k) (3 * k + 1)
  | 0 => by
    constructor <;> (unfold M2.pow M2.one Md; decide)
  | k + 1 => by
    obtain ⟨ia, ib, ic, id⟩ := pow_ent h k
    have e : 3 * (k + 1) + 1 = 3 * k + 1 + 3 := by omega
    rw [e]
    exact ⟨md_up (md_lin h.ha h.hb ia ic), md_up (md_lin h.ha h.hb ib id), md_up (md_lin h.hc h.hd ia ic), md_up (md_lin h.hc h.hd ib id)⟩
theorem ring_ent {x : M2} (h : E3 x) (k : Nat) : Ent (ringM x k) (3 * k + 2) := by
  obtain ⟨ia, ib, ic, id⟩ := pow_ent h k
  have one : ∀ {z : Int} {j : Nat}, Md (j + 1) z → Md (j + 2) (z - 1) := fun {z j} hz => by
    unfold Md at *
    rw [Nat.pow_succ] at hz ⊢
    rw [Nat.pow_succ]
    have := Nat.two_pow_pos j
    omega
  exact ⟨one ia, ib.mono (by omega), ic.mono (by omega), one id⟩
def VMd (k : Nat) (v : Vc) : Prop := Md k v.1 ∧ Md k v.2
def CpB (p : Cp) : Prop := p.x.natAbs ≤ 4 ∧ p.y.natAbs ≤ 4
theorem off_md {x : M2} (h : E3 x) : ∀ {L : List Cp} {o : Vc} {k : Nat}, (∀ p ∈ L, CpB p) → 3 ≤ k → VMd k o → VMd (k + 3 * L.length) (off x o L)
  | [], o, k, _, _, ho => ho
  | p :: L, o, k, hL, hk, ho => by
    obtain ⟨px, py⟩ := hL p (by simp)
    have up : ∀ {z w : Int}, z.natAbs ≤ 6 * (2 ^ k - 1) → w.natAbs ≤ 4 → Md (k + 3) (z + w) := fun {z w} hz hw => by
      unfold Md
      rw [Nat.pow_succ, Nat.pow_succ, Nat.pow_succ]
      have : 2 ^ 3 ≤ 2 ^ k := Nat.pow_le_pow_right (by omega) hk
      omega
    have := off_md h (L := L) (o := stp x o p) (k := k + 3) (fun p hp => hL p (by simp [hp])) (by omega) ⟨up (md_lin h.ha h.hb ho.1 ho.2) px, up (md_lin h.hc h.hd ho.1 ho.2) py⟩
    rw [show k + 3 + 3 * L.length = k + 3 * (p :: L).length by simp; omega] at this
    exact this
theorem act_md {x : M2} (h : E3 x) {q : Int} : ∀ {L : List Cp} {v : Vc} {k : Nat}, (∀ p ∈ L, CpB p) → Md k q → VMd k v → VMd (k + 4 * L.length) (act x q v L)
  | [], v, k, _, _, hv => hv
  | p :: L, v, k, hL, hq, hv => by
    obtain ⟨px, py⟩ := hL p (by simp)
    have up : ∀ {z w : Int}, z.natAbs ≤ 6 * (2 ^ k - 1) → w.natAbs ≤ 4 → Md (k + 4) (z + -w * q) := fun {z w} hz hw => by
      have hwq : (-w * q).natAbs ≤ 4 * (2 ^ k - 1) := by
        rw [Int.natAbs_mul, Int.natAbs_neg]
        unfold Md at hq
        exact Nat.mul_le_mul hw (by omega)
      unfold Md
      rw [Nat.pow_succ, Nat.pow_succ, Nat.pow_succ, Nat.pow_succ]
      have := Nat.two_pow_pos k
      omega
    have := act_md h (L := L) (v := on1 x q v p) (k := k + 4) (fun p hp => hL p (by simp [hp])) (hq.mono (by omega)) ⟨up (md_lin h.ha h.hb hv.1 hv.2) px, up (md_lin h.hc h.hd hv.1 hv.2) py⟩
    rw [show k + 4 + 4 * L.length = k + 4 * (p :: L).length by simp; omega] at this
    exact this
theorem adj_md {N : M2} {j k : Nat} {w : Vc} (h : Ent N j) (hw : VMd k w) : VMd (j + k + 1) (adjv N w) := by
  have s : ∀ {a b : Int} {m : Nat}, Md m a → Md m b → Md (m + 1) (a - b) := fun h1 h2 => by rw [Int.sub_eq_add_neg]; exact h1.add h2.neg
  exact ⟨s (h.hd.mul hw.1) (h.hb.mul hw.2), s (h.ha.mul hw.2) (h.hc.mul hw.1)⟩
structure Big (x : M2) (U W : List Cp) : Prop where
  rm : Ent (ringM x W.length) 200
  ow : VMd 200 (off x (0, 0) W)
  ou : VMd 200 (off x (0, 0) U)
  fv : VMd 500 (fixV x W)
  fq : Md 500 (ringM x W.length).det
  pm : Ent (x.pow U.length) 200
  gv : VMd 800 ((fixV x W).1 * 1 + (off x (0, 0) U).1 * (ringM x W.length).det, (fixV x W).2 * 1 + (off x (0, 0) U).2 * (ringM x W.length).det)
  pv : VMd 1100 (ptV x U W)
  pq : Md 1100 (ptQ x U W)
theorem Ent.mono {x : M2} {j k : Nat} (h : Ent x j) (e : j ≤ k) : Ent x k := ⟨h.ha.mono e, h.hb.mono e, h.hc.mono e, h.hd.mono e⟩
theorem VMd.mono {v : Vc} {j k : Nat} (h : VMd j v) (e : j ≤ k) : VMd k v := ⟨h.1.mono e, h.2.mono e⟩
theorem big {x : M2} (h : E3 x) {U W : List Cp} (hU : ∀ p ∈ U, CpB p) (hW : ∀ p ∈ W, CpB p) (lU : U.length ≤ 50) (lW : W.length ≤ 50) : Big x U W := by
  have z : VMd 3 ((0, 0) : Vc) := ⟨by unfold Md; decide, by unfold Md; decide⟩
  have rm := (ring_ent h W.length).mono (show _ ≤ 200 by omega)
  have ow := (off_md h hW (by omega) z).mono (show _ ≤ 200 by omega)
  have ou := (off_md h hU (by omega) z).mono (show _ ≤ 200 by omega)
  have fv := (adj_md rm ow).mono (show _ ≤ 500 by omega)
  have fq := rm.det.mono (show _ ≤ 500 by omega)
  have pm := (pow_ent h U.length).mono (show _ ≤ 200 by omega)
  have one : ∀ {a o : Int}, Md 500 a → Md 200 o → Md 800 (a * 1 + o * (ringM x W.length).det) := fun ha ho => by
    rw [Int.mul_one]
    exact ((ha.mono (show 500 ≤ 700 by omega)).add ((ho.mul fq).mono (by omega))).mono (by omega)
  have gv : VMd 800 ((fixV x W).1 * 1 + (off x (0, 0) U).1 * (ringM x W.length).det, (fixV x W).2 * 1 + (off x (0, 0) U).2 * (ringM x W.length).det) := ⟨one fv.1 ou.1, one fv.2 ou.2⟩
  have pv := (adj_md pm gv).mono (show _ ≤ 1100 by omega)
  have pq : Md 1100 (ptQ x U W) := by
    unfold ptQ
    rw [Int.mul_one]
    exact (fq.mul pm.det).mono (by omega)
  exact ⟨rm, ow, ou, fv, fq, pm, gv, pv, pq⟩
theorem c4 {p q r s : Int} {j : Nat} (hj : j ≤ 2000) (h1 : Fr2 p q j) (h2 : Fr2 r s j) {ρ : En} : doCall ⟨2, [], pg.sem fu (n + 2) 4⟩ [.dat (P2 (low p q)), .dat (P2 (low r s))] ρ = .ok (.dat (P2 (low (p * s + r * q) (q * s)))) ρ := by
  refine doCall_data (ds := [P2 (low p q), P2 (low r s)]) rfl rfl (Ev.sem_eq (ev4 ?_)) rfl
  obtain ⟨a1, a2, a3⟩ := h1.lo
  obtain ⟨b1, b2, b3⟩ := h2.lo
  have e := low_add (p := p) (r := r) h1.hq h2.hq
  have h29 := @c3 fu n ((low p q).1 * (low r s).2 + (low r s).1 * (low p q).2) ((low p q).2 * (low r s).2) (sz_md (by omega) (by omega) a2 b2 (by omega))
  have B1 := big_md a1 b2 (by omega)
  have B2 := big_md b1 a2 (by omega)
  have B3 := big_md a2 b2 (by omega)
  rw [e] at h29
  unfold d4
  refine Ev_cons fun K k1 k2 _ _ => ?_
  have e1 : (low p q).2 = 1 → (low r s).2 = 1 → low (p * s + r * q) (q * s) = ((low p q).1 + (low r s).1, 1) := fun z1 z2 => by
    rw [← e, z1, z2, Int.mul_one, Int.mul_one, Int.mul_one, low_one]
  generalize low p q = u at *
  generalize low r s = w at *
  by_cases z1 : u.2 = 1
  · by_cases z2 : w.2 = 1
    · have e1 := e1 z1 z2
      clear h29
      simp -dsimp [evB, evS, evR, evT, evC, evO, evAs, evDs, evIt, evPs, letRs, nrm, cnts, cnt, biD, mtOk, mtD, letR, letD, letDs, sto, binD, cmpD, Vi.truthy, esc, lenOk, idxD, isiD, Ret, outs, retR, Rv.isRef, Ob.toD, subS, putD, isNon, okD_int, okD_bool, okD_none, PyData.eqv, PyData.eqvAll, L2.ixN, z1, z2]
      exact k2 _ _ (by simp -dsimp [evB, evS, evR, evT, evC, evO, evAs, evDs, evIt, evPs, letRs, nrm, cnts, cnt, biD, mtOk, mtD, letR, letD, letDs, sto, binD, cmpD, Vi.truthy, esc, lenOk, idxD, isiD, Ret, outs, retR, Rv.isRef, Ob.toD, subS, putD, isNon, okD_int, okD_bool, okD_none, PyData.eqv, PyData.eqvAll, L2.ixN, e1])
    · simp -dsimp [evB, evS, evR, evT, evC, evO, evAs, evDs, evIt, evPs, letRs, nrm, cnts, cnt, biD, mtOk, mtD, letR, letD, letDs, sto, binD, cmpD, Vi.truthy, esc, lenOk, idxD, isiD, Ret, outs, retR, Rv.isRef, Ob.toD, subS, putD, isNon, okD_int, okD_bool, okD_none, PyData.eqv, PyData.eqvAll, L2.ixN, z1, z2]
      refine k1 _ (Ev_cons fun K k1 k2 _ _ => ?_)
      simp -dsimp [evB, evS, evR, evT, evC, evO, evAs, evDs, evIt, evPs, letRs, nrm, cnts, cnt, biD, mtOk, mtD, letR, letD, letDs, sto, binD, cmpD, Vi.truthy, esc, lenOk, idxD, isiD, Ret, outs, retR, Rv.isRef, Ob.toD, subS, putD, isNon, okD_int, okD_bool, okD_none, PyData.eqv, PyData.eqvAll, L2.ixN, B1, B2, B3, at3, h29]
      exact k2 _ _ (by simp -dsimp [evB, evS, evR, evT, evC, evO, evAs, evDs, evIt, evPs, letRs, nrm, cnts, cnt, biD, mtOk, mtD, letR, letD, letDs, sto, binD, cmpD, Vi.truthy, esc, lenOk, idxD, isiD, Ret, outs, retR, Rv.isRef, Ob.toD, subS, putD, isNon, okD_int, okD_bool, okD_none, PyData.eqv, PyData.eqvAll, L2.ixN])
  · simp -dsimp [evB, evS, evR, evT, evC, evO, evAs, evDs, evIt, evPs, letRs, nrm, cnts, cnt, biD, mtOk, mtD, letR, letD, letDs, sto, binD, cmpD, Vi.truthy, esc, lenOk, idxD, isiD, Ret, outs, retR, Rv.isRef, Ob.toD, subS, putD, isNon, okD_int, okD_bool, okD_none, PyData.eqv, PyData.eqvAll, L2.ixN, z1]
    refine k1 _ (Ev_cons fun K k1 k2 _ _ => ?_)
    simp -dsimp [evB, evS, evR, evT, evC, evO, evAs, evDs, evIt, evPs, letRs, nrm, cnts, cnt, biD, mtOk, mtD, letR, letD, letDs, sto, binD, cmpD, Vi.truthy, esc, lenOk, idxD, isiD, Ret, outs, retR, Rv.isRef, Ob.toD, subS, putD, isNon, okD_int, okD_bool, okD_none, PyData.eqv, PyData.eqvAll, L2.ixN, B1, B2, B3, at3, h29]
    exact k2 _ _ (by simp -dsimp [evB, evS, evR, evT, evC, evO, evAs, evDs, evIt, evPs, letRs, nrm, cnts, cnt, biD, mtOk, mtD, letR, letD, letDs, sto, binD, cmpD, Vi.truthy, esc, lenOk, idxD, isiD, Ret, outs, retR, Rv.isRef, Ob.toD, subS, putD, isNon, okD_int, okD_bool, okD_none, PyData.eqv, PyData.eqvAll, L2.ixN])
theorem c7e (x : M2) (h : Ent x 200) {ρ : En} : doCall ⟨1, [], pg.sem fu (n + 1) 14⟩ [.dat (TM x)] ρ = .ok (.dat (I x.det)) ρ := by
  refine doCall_data (ds := [TM x]) rfl rfl (Ev.sem_eq (ev14 ?_)) rfl
  unfold d14
  simp -dsimp [evB, evS, evR, evT, evC, evO, evAs, evDs, evIt, evPs, letRs, nrm, cnts, cnt, biD, mtOk, mtD, letR, letD, letDs, sto, binD, cmpD, Vi.truthy, esc, lenOk, idxD, isiD, Ret, outs, retR, Rv.isRef, Ob.toD, subS, putD, isNon, okD_int, okD_bool, okD_none, PyData.eqv, PyData.eqvAll, L2.ixN, big_md h.ha h.hd (by omega), big_md h.hb h.hc (by omega), M2.det]
theorem c15 {x : M2} {X Y q : Int} (h : Ent x 200) (hs : x.det ≠ 0) (q0 : q ≠ 0) (mX : Md 800 X) (mY : Md 800 Y) (mq : Md 800 q) {ρ : En} : doCall ⟨2, [], pg.sem fu (n + 2) 15⟩ [.dat (TM x), .dat (Pt X Y q)] ρ = .ok (.dat (Pt (x.d * X - x.b * Y) (x.a * Y - x.c * X) (q * x.det))) ρ := by
  refine doCall_data (ds := [TM x, Pt X Y q]) rfl rfl (Ev.sem_eq (ev15 ?_)) rfl
  have hdet := @c7e fu n x h
  have md : Md 401 x.det := h.det
  have fX : Fr2 X q 800 := ⟨q0, mX, mq⟩
  have fY : Fr2 Y q 800 := ⟨q0, mY, mq⟩
  obtain ⟨a1, a2, a3⟩ := fX.lo
  obtain ⟨b1, b2, b3⟩ := fY.lo
  obtain ⟨g, g0, g1, g2⟩ := low_g (p := X) q0
  obtain ⟨g', g0', g1', g2'⟩ := low_g (p := Y) q0
  have ha := h.ha
  have hb := h.hb
  have hc := h.hc
  have hd := h.hd
  unfold M2.det at md hs hdet ⊢
  have key : low (x.d * (low X q).1 * (low Y q).2 - x.b * (low Y q).1 * (low X q).2) ((x.a * x.d - x.b * x.c) * (low X q).2 * (low Y q).2) = low (x.d * X - x.b * Y) (q * (x.a * x.d - x.b * x.c)) ∧
      low (x.a * (low Y q).1 * (low X q).2 - x.c * (low X q).1 * (low Y q).2) ((x.a * x.d - x.b * x.c) * (low X q).2 * (low Y q).2) = low (x.a * Y - x.c * X) (q * (x.a * x.d - x.b * x.c)) := by
    have nz : (x.a * x.d - x.b * x.c) * (low X q).2 * (low Y q).2 ≠ 0 := Int.mul_ne_zero (Int.mul_ne_zero hs (by omega)) (by omega)
    have nz2 := Int.mul_ne_zero q0 hs
    generalize x.a * x.d - x.b * x.c = S at *
    generalize (low X q).1 = u at *
    generalize (low X q).2 = v at *
    generalize (low Y q).1 = w at *
    generalize (low Y q).2 = z at *
    have c1 : u * q = X * v := by rw [g1, g2]; grind
    have c2 : w * q = Y * z := by rw [g1', g2']; grind
    constructor
    · refine low_eq nz nz2 ?_
      have : (x.d * u * z - x.b * w * v) * (q * S) = S * (x.d * z * (u * q) - x.b * v * (w * q)) := by grind
      rw [this, c1, c2]; grind
    · refine low_eq nz nz2 ?_
      have : (x.a * w * v - x.c * u * z) * (q * S) = S * (x.a * v * (w * q) - x.c * z * (u * q)) := by grind
      rw [this, c1, c2]; grind
  obtain ⟨key1, key2⟩ := key
  have szb : Sz ((x.a * x.d - x.b * x.c) * (low X q).2 * (low Y q).2) := sz_md (Int.mul_ne_zero hs (by omega)) (by omega) (md.mul a2) b2 (by omega)
  have h1 := @c3 fu n (x.d * (low X q).1 * (low Y q).2 - x.b * (low Y q).1 * (low X q).2) _ szb
  have h2 := @c3 fu n (x.a * (low Y q).1 * (low X q).2 - x.c * (low X q).1 * (low Y q).2) _ szb
  rw [key1] at h1
  rw [key2] at h2
  have q1 := big_md md a2 (by omega)
  have q2 := big_md (md.mul a2) b2 (by omega)
  have q3 := big_md hd a1 (by omega)
  have q4 := big_md (hd.mul a1) b2 (by omega)
  have q5 := big_md hb b1 (by omega)
  have q6 := big_md (hb.mul b1) a2 (by omega)
  have q7 := big_md ha b1 (by omega)
  have q8 := big_md (ha.mul b1) a2 (by omega)
  have q9 := big_md hc a1 (by omega)
  have q10 := big_md (hc.mul a1) b2 (by omega)
  unfold d15
  refine Ev_cons fun K k1 k2 _ _ => ?_
  simp -dsimp [evB, evS, evR, evT, evC, evO, evAs, evDs, evIt, evPs, letRs, nrm, cnts, cnt, biD, mtOk, mtD, letR, letD, letDs, sto, binD, cmpD, Vi.truthy, esc, lenOk, idxD, isiD, Ret, outs, retR, Rv.isRef, Ob.toD, subS, putD, isNon, okD_int, okD_bool, okD_none, PyData.eqv, PyData.eqvAll, L2.ixN]
  refine k1 _ (Ev_cons fun K k1 k2 _ _ => ?_)
  simp -dsimp [evB, evS, evR, evT, evC, evO, evAs, evDs, evIt, evPs, letRs, nrm, cnts, cnt, biD, mtOk, mtD, letR, letD, letDs, sto, binD, cmpD, Vi.truthy, esc, lenOk, idxD, isiD, Ret, outs, retR, Rv.isRef, Ob.toD, subS, putD, isNon, okD_int, okD_bool, okD_none, PyData.eqv, PyData.eqvAll, L2.ixN]
  refine k1 _ (Ev_cons fun K k1 k2 _ _ => ?_)
  simp -dsimp [evB, evS, evR, evT, evC, evO, evAs, evDs, evIt, evPs, letRs, nrm, cnts, cnt, biD, mtOk, mtD, letR, letD, letDs, sto, binD, cmpD, Vi.truthy, esc, lenOk, idxD, isiD, Ret, outs, retR, Rv.isRef, Ob.toD, subS, putD, isNon, okD_int, okD_bool, okD_none, PyData.eqv, PyData.eqvAll, L2.ixN, at14, hdet, q1, q2]
  refine k1 _ (Ev_cons fun K k1 k2 _ _ => ?_)
  simp -dsimp [evB, evS, evR, evT, evC, evO, evAs, evDs, evIt, evPs, letRs, nrm, cnts, cnt, biD, mtOk, mtD, letR, letD, letDs, sto, binD, cmpD, Vi.truthy, esc, lenOk, idxD, isiD, Ret, outs, retR, Rv.isRef, Ob.toD, subS, putD, isNon, okD_int, okD_bool, okD_none, PyData.eqv, PyData.eqvAll, L2.ixN, at3, q3, q4, q5, q6, q7, q8, q9, q10, h1, h2]
  exact k2 _ _ (by simp -dsimp [evB, evS, evR, evT, evC, evO, evAs, evDs, evIt, evPs, letRs, nrm, cnts, cnt, biD, mtOk, mtD, letR, letD, letDs, sto, binD, cmpD, Vi.truthy, esc, lenOk, idxD, isiD, Ret, outs, retR, Rv.isRef, Ob.toD, subS, putD, isNon, okD_int, okD_bool, okD_none, PyData.eqv, PyData.eqvAll, L2.ixN])
abbrev PV (v : Vc) (q : Int) : PyData := Pt v.1 v.2 q
theorem cps_mem {x : M2} {S : List (List Cp)} (k : Kt x S) : ∀ {w : List Int} {s : Int}, St S s → okW S s w → ∀ p ∈ cps S s w, ∃ L ∈ S, p ∈ L
  | [], s, h, _, p, hp => by cases hp
  | i :: w, s, h, ⟨h0, h1, h2⟩, p, hp => by
    rcases List.mem_cons.mp hp with rfl | hp
    · exact ⟨_, sOf_mem h, cOf_mem h0 h1⟩
    · exact cps_mem k (k.next h h0 h1) h2 p hp
structure K4 (x : M2) (S : List (List Cp)) : Prop where
  k : Kt x S
  st : ∀ L ∈ S, ∀ p ∈ L, CpB p
theorem K4.cps {x : M2} {S : List (List Cp)} (h : K4 x S) {s : Int} {w : List Int} (hs : St S s) (ok : okW S s w) : ∀ p ∈ Lw.cps S s w, CpB p := fun p hp => by
  obtain ⟨L, hL, hpL⟩ := cps_mem h.k hs ok p hp
  exact h.st L hL p hpL
theorem K4.e3 {x : M2} {S : List (List Cp)} (h : K4 x S) : E3 x := by
  obtain ⟨a, b, c, d⟩ := h.k.sm
  exact ⟨a, b, c, d⟩
abbrev ptA (x : M2) (S : List (List Cp)) (s : Int) (u v : List Int) : PyData := PV (ptV x (cps S s u) (cps S (rn S s u) v)) (ptQ x (cps S s u) (cps S (rn S s u) v))
theorem sml3 {x : M2} (h : E3 x) : Sml x := ⟨(Md3 h.ha).mono (by omega), (Md3 h.hb).mono (by omega), (Md3 h.hc).mono (by omega), (Md3 h.hd).mono (by omega)⟩
theorem md_one : Md 1300 1 := by unfold Md; exact Nat.one_lt_two_pow (by omega)
theorem md_neg {a : Int} {k : Nat} (h : Md k a) : Md k (-a) := by unfold Md at *; rw [Int.natAbs_neg]; exact h
theorem low_low {p q : Int} (hq : q ≠ 0) : low (low p q).1 (low p q).2 = low p q := by
  obtain ⟨a, b, _⟩ := low_spec (p := p) hq
  exact low_eq (by omega) hq (by rw [b, Int.mul_comm])
theorem smp_p2 (p : Int × Int) {m : Nat} : Smp (m + 1) (P2 p) := smp_t2 (smp_int _) (smp_int _)
theorem smp_pt (v : Vc) (q : Int) {m : Nat} : Smp (m + 2) (PV v q) := smp_t2 (smp_p2 _) (smp_p2 _)
theorem okT_nil : okD (.tuple []) = true := rfl
theorem pt_eq {x : M2} {U W : List Cp} {v v' : Vc} {q q' : Int} (a : IsPt x U W v q) (b : IsPt x U W v' q') (hd : x.det ≠ 0) (hk : (ringM x W.length).det ≠ 0) : PV v q = PV v' q' := by
  obtain ⟨e1, e2⟩ := a.uniq b hd hk
  show T2 (P2 (low v.1 q)) (P2 (low v.2 q)) = T2 (P2 (low v'.1 q')) (P2 (low v'.2 q'))
  rw [low_eq a.hq b.hq e1, low_eq a.hq b.hq e2]
theorem ptA_eq {x : M2} {S : List (List Cp)} (h : K4 x S) {s : Int} {u v : List Int} (hv : v.length ≤ 50) (v0 : v ≠ []) {V : Vc} {Q : Int} (hp : IsPt x (cps S s u) (cps S (rn S s u) v) V Q) : ptA x S s u v = PV V Q := by
  obtain ⟨hd, hk⟩ := gd_ring (k := v.length) h.k.gs.gx (List.length_pos_iff.mpr v0) hv
  rw [← cps_len S v (rn S s u)] at hk
  exact pt_eq (is_pt hd hk) hp hd hk
theorem at_oo (L : List Cp) (i : Nat) (h : i < L.length) : atD (L.map fun p => OO (p.x, p.y)) i = some (OO ((L.getD i ⟨0, 0, 0⟩).x, (L.getD i ⟨0, 0, 0⟩).y)) := by
  have := at_map (fun p : Cp => OO (p.x, p.y)) L i ⟨0, 0, 0⟩ (by omega) (by omega)
  simpa using this
@[simp] theorem act_nil (x : M2) (q : Int) (v : Vc) : act x q v [] = v := rfl
theorem act_take (x : M2) (q : Int) (v : Vc) (L : List Cp) (i : Nat) (h : i < L.length) : act x q v (L.take (i + 1)) = on1 x q (act x q v (L.take i)) (L.getD i ⟨0, 0, 0⟩) := by
  rw [List.take_succ_eq_append_getElem h, act_app]
  have : L.getD i ⟨0, 0, 0⟩ = L[i] := by simp [h]
  rw [this]
  rfl
theorem getD_mem' {α : Type} {L : List α} {i : Nat} (d : α) (h : i < L.length) : L.getD i d ∈ L := by
  have : L.getD i d = L[i] := by simp [h]
  rw [this]
  exact List.getElem_mem h
theorem adr_turn {S : List (List Cp)} {s : Int} {u v : List Int} (ad : Adr S s u v) {a b : List Int} (hv : v = a ++ b) : Adr S s (u ++ a) (b ++ a) ∧ cps S s (u ++ a) = cps S s u ++ cps S (rn S s u) a ∧ cps S (rn S s (u ++ a)) (b ++ a) = cps S (rn S (rn S s u) a) b ++ cps S (rn S s u) a := by
  subst hv
  obtain ⟨o1, o2, o3, o4⟩ := ad
  rw [run_app] at o3
  obtain ⟨o5, o6⟩ := (okW_app S _ _ _).mp o2
  refine ⟨⟨?_, ?_, ?_, ?_⟩, cps_app S _ _ _, ?_⟩
  · rw [okW_app]; exact ⟨o1, o5⟩
  · rw [okW_app, run_app, o3]; exact ⟨o6, o5⟩
  · rw [run_app, run_app, o3]
  · intro z
    obtain ⟨z1, z2⟩ := List.append_eq_nil_iff.mp z
    exact o4 (by rw [z1, z2]; rfl)
  · rw [cps_app, run_app, o3]
theorem adr_twice {S : List (List Cp)} {s : Int} {u v : List Int} (ad : Adr S s u v) : Adr S s (u ++ v) (v ++ v) ∧ cps S s (u ++ v) = cps S s u ++ cps S (rn S s u) v ∧ cps S (rn S s (u ++ v)) (v ++ v) = cps S (rn S s u) v ++ cps S (rn S s u) v := by
  obtain ⟨o1, o2, o3, o4⟩ := ad
  refine ⟨⟨?_, ?_, ?_, ?_⟩, cps_app S _ _ _, ?_⟩
  · rw [okW_app]; exact ⟨o1, o2⟩
  · rw [okW_app, run_app, o3, o3]; exact ⟨o2, o2⟩
  · simp only [run_app, o3]
  · intro z
    exact o4 (List.append_eq_nil_iff.mp z).1
  · rw [cps_app, run_app, o3, o3]
theorem kt_of {x : M2} {S : List (List Cp)} {far most : Nat} (hx : gdB x = true) (h : GrOk far most 4 S) (h1 : far ≤ 4) (h2 : most ≤ 6) : K4 x S := by
  obtain ⟨gs, hk⟩ := gear_ok hx h (by omega) (by omega) (by omega)
  exact ⟨⟨gs, hk, h.l1, fun L hL => by
    have := h.all L hL
    exact ⟨this.l0, by have := this.l1; omega, fun p hp => ⟨(this.all p hp).g0, (this.all p hp).g1⟩⟩⟩, fun L hL p hp => by
    have := (h.all L hL).all p hp
    exact ⟨by have := this.hx; omega, by have := this.hy; omega⟩⟩
theorem same_dat {d : PyData} {m : Nat} (h : Smp m d) {ρ : En} : doCall ⟨2, [], pg.sem fu (n + m + 1) 37⟩ [.dat d, .dat d] ρ = .ok (.dat (.bool true)) ρ :=
  doCall_data (ds := [d, d]) rfl rfl (s37 (fu := fu) (n := n) h) rfl
end Lw
set_option maxHeartbeats 4000000
namespace Lw
open PySem Vi
variable {fu n : Nat}
theorem low_neg (p q : Int) (hq : q ≠ 0) : (-(low p q).1, (low p q).2) = low (-p) q := by
  have h := low_spec (p := p) hq
  have h' := low_spec (p := -p) hq
  obtain ⟨g, g0, g1, g2⟩ := low_g (p := p) hq
  have e := low_uniq (u := -(low p q).1) (v := (low p q).2) h.1 h'.1 (by rw [Int.natAbs_neg]; exact h.2.2) h'.2.2 (by
    have h3 := h'.2.1
    have : q * (-(low p q).1 * (low (-p) q).2) = q * ((low (-p) q).1 * (low p q).2) := by
      rw [show q * (-(low p q).1 * (low (-p) q).2) = -((low p q).1 * q) * (low (-p) q).2 by grind, h.2.1, show q * ((low (-p) q).1 * (low p q).2) = ((low (-p) q).1 * q) * (low p q).2 by grind, h3]
      grind
    exact Int.eq_of_mul_eq_mul_left hq this)
  exact Prod.ext e.1 e.2
theorem low_abs (p q : Int) (hq : q ≠ 0) : (((low p q).1.natAbs : Int), (low p q).2) = low (p.natAbs : Int) (q.natAbs : Int) := by
  have h := low_spec (p := p) hq
  have hq' : (q.natAbs : Int) ≠ 0 := by omega
  have h' := low_spec (p := (p.natAbs : Int)) hq'
  have e := low_uniq (u := ((low p q).1.natAbs : Int)) (v := (low p q).2) h.1 h'.1 (by simpa using h.2.2) h'.2.2 (by
    have h1 : ((low p q).1.natAbs : Int) * (q.natAbs : Int) = (low p q).2 * (p.natAbs : Int) := by
      have := congrArg (fun z : Int => (z.natAbs : Int)) h.2.1
      simp only [Int.natAbs_mul, Int.natCast_mul] at this
      rw [this]
      have : ((low p q).2.natAbs : Int) = (low p q).2 := by have := h.1; omega
      rw [this]
    have h3 := h'.2.1
    refine Int.eq_of_mul_eq_mul_left hq' ?_
    rw [show (q.natAbs : Int) * (((low p q).1.natAbs : Int) * (low (p.natAbs : Int) (q.natAbs : Int)).2) = (((low p q).1.natAbs : Int) * (q.natAbs : Int)) * (low (p.natAbs : Int) (q.natAbs : Int)).2 by grind, h1,
      show (q.natAbs : Int) * ((low (p.natAbs : Int) (q.natAbs : Int)).1 * (low p q).2) = ((low (p.natAbs : Int) (q.natAbs : Int)).1 * (q.natAbs : Int)) * (low p q).2 by grind, h3]
    grind)
  exact Prod.ext e.1 e.2
theorem low_lt {p q r s : Int} (hq : 0 < q) (hs : 0 < s) : (low p q).1 * (low r s).2 < (low r s).1 * (low p q).2 ↔ p * s < r * q := by
  have a := low_spec (p := p) (q := q) (by omega)
  have b := low_spec (p := r) (q := s) (by omega)
  generalize low p q = u at *
  generalize low r s = w at *
  obtain ⟨a1, a2, _⟩ := a
  obtain ⟨b1, b2, _⟩ := b
  have k1 : 0 < q * s := Int.mul_pos hq hs
  have k2 : 0 < u.2 * w.2 := Int.mul_pos a1 b1
  have e1 : (q * s) * (u.1 * w.2) = (u.2 * w.2) * (p * s) := by
    rw [show (q * s) * (u.1 * w.2) = (u.1 * q) * (s * w.2) by grind, a2]; grind
  have e2 : (q * s) * (w.1 * u.2) = (u.2 * w.2) * (r * q) := by
    rw [show (q * s) * (w.1 * u.2) = (w.1 * s) * (q * u.2) by grind, b2]; grind
  rw [← Int.mul_lt_mul_left k1, e1, e2, Int.mul_lt_mul_left k2]
theorem low_div {p q r s : Int} (hq : q ≠ 0) (hs : s ≠ 0) (hr : r ≠ 0) : low ((low p q).1 * (low r s).2) ((low p q).2 * (low r s).1) = low (p * s) (q * r) := by
  obtain ⟨g, g0, g1, g2⟩ := low_g (p := p) hq
  obtain ⟨h, h0, h1, h2⟩ := low_g (p := r) hs
  have a := low_pos (p := p) hq
  have b := low_pos (p := r) hs
  have r1 : (low r s).1 ≠ 0 := fun z => hr (by rw [h1, z]; simp)
  generalize low p q = u at *
  generalize low r s = w at *
  refine low_eq (Int.mul_ne_zero (by omega) r1) (Int.mul_ne_zero hq hr) ?_
  rw [g1, g2, h1, h2]; grind
theorem c5 {p q : Int} (hq : q ≠ 0) {ρ : En} : doCall ⟨1, [], pg.sem fu (n + 1) 5⟩ [.dat (P2 (low p q))] ρ = .ok (.dat (P2 (low (-p) q))) ρ := by
  refine doCall_data (ds := [P2 (low p q)]) rfl rfl (Ev.sem_eq (ev5 ?_)) rfl
  have e := low_neg p q hq
  rw [← e]
  unfold d5
  simp -dsimp [evB, evS, evR, evT, evC, evO, evAs, evDs, evIt, evPs, letRs, nrm, cnts, cnt, biD, mtOk, mtD, letR, letD, letDs, sto, binD, cmpD, Vi.truthy, esc, lenOk, idxD, isiD, Ret, outs, retR, Rv.isRef, Ob.toD, subS, putD, isNon, okD_int, okD_bool, okD_none, PyData.eqv, PyData.eqvAll, L2.ixN]
theorem c6 {p q r s : Int} {j : Nat} (hj : j ≤ 2000) (h1 : Fr2 p q j) (h2 : Fr2 r s j) {ρ : En} : doCall ⟨2, [], pg.sem fu (n + 3) 6⟩ [.dat (P2 (low p q)), .dat (P2 (low r s))] ρ = .ok (.dat (P2 (low (p * s + -r * q) (q * s)))) ρ := by
  refine doCall_data (ds := [P2 (low p q), P2 (low r s)]) rfl rfl (Ev.sem_eq (ev6 ?_)) rfl
  have e5 := fun {ρ : En} => @c5 fu (n + 1) r s h2.hq ρ
  have e4 := fun {ρ : En} => @c4 fu n p q (-r) s j hj h1 ⟨h2.hq, h2.mp.neg, h2.mq⟩ ρ
  unfold d6
  simp -dsimp [evB, evS, evR, evT, evC, evO, evAs, evDs, evIt, evPs, letRs, nrm, cnts, cnt, biD, mtOk, mtD, letR, letD, letDs, sto, binD, cmpD, Vi.truthy, esc, lenOk, idxD, isiD, Ret, outs, retR, Rv.isRef, Ob.toD, subS, putD, isNon, okD_int, okD_bool, okD_none, PyData.eqv, PyData.eqvAll, L2.ixN, at5, e5, at4, e4]
theorem c7 {p q r s : Int} {j : Nat} (hj : j ≤ 2000) (h1 : Fr2 p q j) (h2 : Fr2 r s j) {ρ : En} : doCall ⟨2, [], pg.sem fu (n + 2) 7⟩ [.dat (P2 (low p q)), .dat (P2 (low r s))] ρ = .ok (.dat (P2 (low (p * r) (q * s)))) ρ := by
  refine doCall_data (ds := [P2 (low p q), P2 (low r s)]) rfl rfl (Ev.sem_eq (ev7 ?_)) rfl
  obtain ⟨a1, a2, a3⟩ := h1.lo
  obtain ⟨b1, b2, b3⟩ := h2.lo
  have e := low_mul (p := p) (r := r) h1.hq h2.hq
  have h29 := @c3 fu n ((low p q).1 * (low r s).1) ((low p q).2 * (low r s).2) (sz_md (by omega) (by omega) a2 b2 (by omega))
  rw [e] at h29
  unfold d7
  simp -dsimp [evB, evS, evR, evT, evC, evO, evAs, evDs, evIt, evPs, letRs, nrm, cnts, cnt, biD, mtOk, mtD, letR, letD, letDs, sto, binD, cmpD, Vi.truthy, esc, lenOk, idxD, isiD, Ret, outs, retR, Rv.isRef, Ob.toD, subS, putD, isNon, okD_int, okD_bool, okD_none, PyData.eqv, PyData.eqvAll, L2.ixN, big_md a1 b1 (by omega), big_md a2 b2 (by omega), at3, h29]
theorem c8 {p q r s : Int} {j : Nat} (hj : j ≤ 2000) (h1 : Fr2 p q j) (h2 : Fr2 r s j) (hr : r ≠ 0) {ρ : En} : doCall ⟨2, [], pg.sem fu (n + 2) 8⟩ [.dat (P2 (low p q)), .dat (P2 (low r s))] ρ = .ok (.dat (P2 (low (p * s) (q * r)))) ρ := by
  refine doCall_data (ds := [P2 (low p q), P2 (low r s)]) rfl rfl (Ev.sem_eq (ev8 ?_)) rfl
  obtain ⟨a1, a2, a3⟩ := h1.lo
  obtain ⟨b1, b2, b3⟩ := h2.lo
  have e := low_div (p := p) h1.hq h2.hq hr
  have r1 : (low r s).1 ≠ 0 := fun z => by
    obtain ⟨h, h0, g1, g2⟩ := low_g (p := r) h2.hq
    rw [z] at g1
    omega
  have h29 := @c3 fu n ((low p q).1 * (low r s).2) ((low p q).2 * (low r s).1) (sz_md (by omega) r1 a2 b1 (by omega))
  rw [e] at h29
  unfold d8
  simp -dsimp [evB, evS, evR, evT, evC, evO, evAs, evDs, evIt, evPs, letRs, nrm, cnts, cnt, biD, mtOk, mtD, letR, letD, letDs, sto, binD, cmpD, Vi.truthy, esc, lenOk, idxD, isiD, Ret, outs, retR, Rv.isRef, Ob.toD, subS, putD, isNon, okD_int, okD_bool, okD_none, PyData.eqv, PyData.eqvAll, L2.ixN, big_md a1 b2 (by omega), big_md a2 b1 (by omega), at3, h29]
theorem c9 {p q r s : Int} {j : Nat} (hj : j ≤ 2000) (h1 : Fr2 p q j) (h2 : Fr2 r s j) (hq : 0 < q) (hs : 0 < s) {ρ : En} : doCall ⟨2, [], pg.sem fu (n + 1) 9⟩ [.dat (P2 (low p q)), .dat (P2 (low r s))] ρ = .ok (.dat (.bool (decide (p * s < r * q)))) ρ := by
  refine doCall_data (ds := [P2 (low p q), P2 (low r s)]) rfl rfl (Ev.sem_eq (ev9 ?_)) rfl
  obtain ⟨a1, a2, a3⟩ := h1.lo
  obtain ⟨b1, b2, b3⟩ := h2.lo
  have e : decide ((low p q).1 * (low r s).2 < (low r s).1 * (low p q).2) = decide (p * s < r * q) := decide_eq_decide.mpr (low_lt hq hs)
  unfold d9
  simp -dsimp [evB, evS, evR, evT, evC, evO, evAs, evDs, evIt, evPs, letRs, nrm, cnts, cnt, biD, mtOk, mtD, letR, letD, letDs, sto, binD, cmpD, Vi.truthy, esc, lenOk, idxD, isiD, Ret, outs, retR, Rv.isRef, Ob.toD, subS, putD, isNon, okD_int, okD_bool, okD_none, PyData.eqv, PyData.eqvAll, L2.ixN, big_md a1 b2 (by omega), big_md b1 a2 (by omega), e]
theorem c36 {p q r s : Int} {j : Nat} (hj : j ≤ 2000) (h1 : Fr2 p q j) (h2 : Fr2 r s j) (hq : 0 < q) (hs : 0 < s) {ρ : En} : doCall ⟨2, [], pg.sem fu (n + 1) 36⟩ [.dat (P2 (low p q)), .dat (P2 (low r s))] ρ = .ok (.dat (.bool (decide (p * s < r * q)))) ρ := by
  refine doCall_data (ds := [P2 (low p q), P2 (low r s)]) rfl rfl (Ev.sem_eq (ev36 ?_)) rfl
  obtain ⟨a1, a2, a3⟩ := h1.lo
  obtain ⟨b1, b2, b3⟩ := h2.lo
  have e : decide ((low p q).1 * (low r s).2 - (low r s).1 * (low p q).2 < 0) = decide (p * s < r * q) := decide_eq_decide.mpr (by rw [← low_lt hq hs]; omega)
  unfold d36
  simp -dsimp [evB, evS, evR, evT, evC, evO, evAs, evDs, evIt, evPs, letRs, nrm, cnts, cnt, biD, mtOk, mtD, letR, letD, letDs, sto, binD, cmpD, Vi.truthy, esc, lenOk, idxD, isiD, Ret, outs, retR, Rv.isRef, Ob.toD, subS, putD, isNon, okD_int, okD_bool, okD_none, PyData.eqv, PyData.eqvAll, L2.ixN, big_md a1 b2 (by omega), big_md b1 a2 (by omega), e]
theorem abs_if (x : Int) : (if x < 0 then -x else x) = (x.natAbs : Int) := by split <;> omega
theorem c10 {p q : Int} (hq : q ≠ 0) {ρ : En} : doCall ⟨1, [], pg.sem fu (n + 1) 10⟩ [.dat (P2 (low p q))] ρ = .ok (.dat (P2 (low (p.natAbs : Int) (q.natAbs : Int)))) ρ := by
  refine doCall_data (ds := [P2 (low p q)]) rfl rfl (Ev.sem_eq (ev10 ?_)) rfl
  have e := low_abs p q hq
  rw [← e]
  unfold d10
  simp -dsimp [evB, evS, evR, evT, evC, evO, evAs, evDs, evIt, evPs, letRs, nrm, cnts, cnt, biD, mtOk, mtD, letR, letD, letDs, sto, binD, cmpD, Vi.truthy, esc, lenOk, idxD, isiD, Ret, outs, retR, Rv.isRef, Ob.toD, subS, putD, isNon, okD_int, okD_bool, okD_none, PyData.eqv, PyData.eqvAll, L2.ixN, abs_if]
theorem c11 {p r q : Int} {j : Nat} (hj : j ≤ 2000) (h1 : Fr2 p q j) (h2 : Fr2 r q j) (hq : 0 < q) {ρ : En} : doCall ⟨2, [], pg.sem fu (n + 2) 11⟩ [.dat (P2 (low p q)), .dat (P2 (low r q))] ρ = .ok (.dat (P2 (low (max p r) q))) ρ := by
  refine doCall_data (ds := [P2 (low p q), P2 (low r q)]) rfl rfl (Ev.sem_eq (ev11 ?_)) rfl
  have e9 := fun {ρ : En} => @c9 fu n p q r q j hj h1 h2 hq hq ρ
  have e : (p * q < r * q) ↔ p < r := Int.mul_lt_mul_right hq
  unfold d11
  by_cases h : p < r
  · have m : max p r = r := by omega
    rw [m]
    simp -dsimp [evB, evS, evR, evT, evC, evO, evAs, evDs, evIt, evPs, letRs, nrm, cnts, cnt, biD, mtOk, mtD, letR, letD, letDs, sto, binD, cmpD, Vi.truthy, esc, lenOk, idxD, isiD, Ret, outs, retR, Rv.isRef, Ob.toD, subS, putD, isNon, okD_int, okD_bool, okD_none, PyData.eqv, PyData.eqvAll, L2.ixN, at9, e9, e, h]
  · have m : max p r = p := by omega
    rw [m]
    simp -dsimp [evB, evS, evR, evT, evC, evO, evAs, evDs, evIt, evPs, letRs, nrm, cnts, cnt, biD, mtOk, mtD, letR, letD, letDs, sto, binD, cmpD, Vi.truthy, esc, lenOk, idxD, isiD, Ret, outs, retR, Rv.isRef, Ob.toD, subS, putD, isNon, okD_int, okD_bool, okD_none, PyData.eqv, PyData.eqvAll, L2.ixN, at9, e9, e, h]
end Lw
set_option maxHeartbeats 4000000
namespace Lw
open PySem Vi
variable {fu n : Nat}
abbrev TQ (N : M2) (D : Int) : PyData := T2 (T2 (P2 (low N.a D)) (P2 (low N.b D))) (T2 (P2 (low N.c D)) (P2 (low N.d D)))
def M2.adj (x : M2) : M2 := ⟨x.d, -x.b, -x.c, x.a⟩
def siz (N : M2) : Int := max ((N.a.natAbs : Int) + N.b.natAbs) ((N.c.natAbs : Int) + N.d.natAbs)
structure Bt (N : M2) (D : Int) (k : Nat) : Prop where
  ne : D ≠ 0
  ent : Ent N k
  md : Md k D
theorem Bt.a {N : M2} {D : Int} {k : Nat} (h : Bt N D k) : Fr2 N.a D k := ⟨h.ne, h.ent.ha, h.md⟩
theorem Bt.b {N : M2} {D : Int} {k : Nat} (h : Bt N D k) : Fr2 N.b D k := ⟨h.ne, h.ent.hb, h.md⟩
theorem Bt.c {N : M2} {D : Int} {k : Nat} (h : Bt N D k) : Fr2 N.c D k := ⟨h.ne, h.ent.hc, h.md⟩
theorem Bt.d {N : M2} {D : Int} {k : Nat} (h : Bt N D k) : Fr2 N.d D k := ⟨h.ne, h.ent.hd, h.md⟩
theorem md_abs {k : Nat} {a : Int} (h : Md k a) : Md k (a.natAbs : Int) := by unfold Md at *; simpa using h
theorem Fr2.abs {p q : Int} {k : Nat} (h : Fr2 p q k) : Fr2 (p.natAbs : Int) (q.natAbs : Int) k := ⟨by have := h.hq; omega, md_abs h.mp, md_abs h.mq⟩
theorem Fr2.mono {p q : Int} {j k : Nat} (h : Fr2 p q j) (e : j ≤ k) : Fr2 p q k := ⟨h.hq, h.mp.mono e, h.mq.mono e⟩
theorem Fr2.sum {p r q : Int} {k : Nat} (h : Fr2 p q k) (h2 : Fr2 r q k) : Fr2 (p + r) q (k + 1) := ⟨h.hq, h.mp.add h2.mp, h.mq.mono (by omega)⟩
theorem low_sum {p r q : Int} (hq : q ≠ 0) : low (p * q + r * q) (q * q) = low (p + r) q := low_eq (Int.mul_ne_zero hq hq) hq (by grind)
theorem low_sum2 {p r q s : Int} (hq : q ≠ 0) (hs : s ≠ 0) : low ((p * s) * (q * s) + (r * s) * (q * s)) ((q * s) * (q * s)) = low ((p + r) * s) (q * s) := low_eq (Int.mul_ne_zero (Int.mul_ne_zero hq hs) (Int.mul_ne_zero hq hs)) (Int.mul_ne_zero hq hs) (by grind)
theorem Bt.rows {N : M2} {D : Int} {k : Nat} (h : Bt N D k) : Fr2 ((N.a.natAbs : Int) + N.b.natAbs) (D.natAbs : Int) (k + 1) ∧ Fr2 ((N.c.natAbs : Int) + N.d.natAbs) (D.natAbs : Int) (k + 1) ∧ 0 < (D.natAbs : Int) :=
  ⟨h.a.abs.sum h.b.abs, h.c.abs.sum h.d.abs, by have := h.ne; omega⟩
theorem c24 {N : M2} {D : Int} {k : Nat} (h : Bt N D k) (hk : k ≤ 1900) {ρ : En} : doCall ⟨1, [], pg.sem fu (n + 3) 24⟩ [.dat (TQ N D)] ρ = .ok (.dat (P2 (low (siz N) (D.natAbs : Int)))) ρ := by
  refine doCall_data (ds := [TQ N D]) rfl rfl (Ev.sem_eq (ev24 ?_)) rfl
  have hD := h.ne
  have sa := fun {ρ : En} => @c10 fu (n + 1) N.a D hD ρ
  have sb := fun {ρ : En} => @c10 fu (n + 1) N.b D hD ρ
  have sc := fun {ρ : En} => @c10 fu (n + 1) N.c D hD ρ
  have sd := fun {ρ : En} => @c10 fu (n + 1) N.d D hD ρ
  have u := fun {ρ : En} => @c4 fu n _ _ _ _ k (by omega) h.a.abs h.b.abs ρ
  have v := fun {ρ : En} => @c4 fu n _ _ _ _ k (by omega) h.c.abs h.d.abs ρ
  obtain ⟨r1, r2, r3⟩ := h.rows
  rw [low_sum (by omega)] at u v
  have g := fun {ρ : En} => @c11 fu n _ _ _ (k + 1) (by omega) r1 r2 r3 ρ
  unfold d24 siz TQ T2
  generalize low N.a D = A at *
  generalize low N.b D = B at *
  generalize low N.c D = C at *
  generalize low N.d D = E at *
  generalize low (N.a.natAbs : Int) (D.natAbs : Int) = A' at *
  generalize low (N.b.natAbs : Int) (D.natAbs : Int) = B' at *
  generalize low (N.c.natAbs : Int) (D.natAbs : Int) = C' at *
  generalize low (N.d.natAbs : Int) (D.natAbs : Int) = E' at *
  refine Ev_cons fun K k1 k2 _ _ => ?_
  simp -dsimp [evB, evS, evR, evT, evC, evO, evAs, evDs, evIt, evPs, letRs, nrm, cnts, cnt, biD, mtOk, mtD, letR, letD, letDs, sto, binD, cmpD, Vi.truthy, esc, lenOk, idxD, isiD, Ret, outs, retR, Rv.isRef, Ob.toD, subS, putD, isNon, okD_int, okD_bool, okD_none, PyData.eqv, PyData.eqvAll, L2.ixN, seqItems, lcL, plainAt, wipeE, lkOk, Rs.calm, backE, unl, at10, sa, sb, sc, sd, at4, u, v]
  refine k1 _ (Ev_cons fun K k1 k2 _ _ => ?_)
  simp -dsimp [evB, evS, evR, evT, evC, evO, evAs, evDs, evIt, evPs, letRs, nrm, cnts, cnt, biD, mtOk, mtD, letR, letD, letDs, sto, binD, cmpD, Vi.truthy, esc, lenOk, idxD, isiD, Ret, outs, retR, Rv.isRef, Ob.toD, subS, putD, isNon, okD_int, okD_bool, okD_none, PyData.eqv, PyData.eqvAll, L2.ixN, at11, g]
  exact k2 _ _ (by simp -dsimp [evB, evS, evR, evT, evC, evO, evAs, evDs, evIt, evPs, letRs, nrm, cnts, cnt, biD, mtOk, mtD, letR, letD, letDs, sto, binD, cmpD, Vi.truthy, esc, lenOk, idxD, isiD, Ret, outs, retR, Rv.isRef, Ob.toD, subS, putD, isNon, okD_int, okD_bool, okD_none, PyData.eqv, PyData.eqvAll, L2.ixN])
theorem c45 {N : M2} {D : Int} {k : Nat} (h : Bt N D k) (hk : k ≤ 1900) (hf : 2 ^ 4000 < fu) {ρ : En} : doCall ⟨1, [], pg.sem fu (n + 4) 45⟩ [.dat (TQ N D)] ρ = .ok (.dat (P2 (low (siz N) (D.natAbs : Int)))) ρ := by
  refine doCall_data (ds := [TQ N D]) rfl rfl (Ev.sem_eq (ev45 ?_)) rfl
  have hD := h.ne
  have u := fun {ρ : En} => @c34 fu n _ _ _ _ k (by omega) h.a.abs h.b.abs hf ρ
  have v := fun {ρ : En} => @c34 fu n _ _ _ _ k (by omega) h.c.abs h.d.abs hf ρ
  obtain ⟨r1, r2, r3⟩ := h.rows
  rw [low_sum (by omega)] at u v
  have g := fun {ρ : En} => @c36 fu (n + 2) _ _ _ _ (k + 1) (by omega) r1 r2 r3 r3 ρ
  have ea := low_abs N.a D hD
  have eb := low_abs N.b D hD
  have ec := low_abs N.c D hD
  have ed := low_abs N.d D hD
  rw [← ea, ← eb] at u
  rw [← ec, ← ed] at v
  unfold d45 siz TQ
  generalize low N.a D = A at *
  generalize low N.b D = B at *
  generalize low N.c D = C at *
  generalize low N.d D = E at *
  generalize (N.a.natAbs : Int) + N.b.natAbs = s1 at *
  generalize (N.c.natAbs : Int) + N.d.natAbs = s2 at *
  have gg : (s1 * (D.natAbs : Int) < s2 * (D.natAbs : Int)) ↔ s1 < s2 := Int.mul_lt_mul_right r3
  refine Ev_cons fun K k1 k2 _ _ => ?_
  simp -dsimp [evB, evS, evR, evT, evC, evO, evAs, evDs, evIt, evPs, letRs, nrm, cnts, cnt, biD, mtOk, mtD, letR, letD, letDs, sto, binD, cmpD, Vi.truthy, esc, lenOk, idxD, isiD, Ret, outs, retR, Rv.isRef, Ob.toD, subS, putD, isNon, okD_int, okD_bool, okD_none, PyData.eqv, PyData.eqvAll, L2.ixN, abs_if, at34, u]
  refine k1 _ (Ev_cons fun K k1 k2 _ _ => ?_)
  simp -dsimp [evB, evS, evR, evT, evC, evO, evAs, evDs, evIt, evPs, letRs, nrm, cnts, cnt, biD, mtOk, mtD, letR, letD, letDs, sto, binD, cmpD, Vi.truthy, esc, lenOk, idxD, isiD, Ret, outs, retR, Rv.isRef, Ob.toD, subS, putD, isNon, okD_int, okD_bool, okD_none, PyData.eqv, PyData.eqvAll, L2.ixN, abs_if, at34, v]
  refine k1 _ (Ev_cons fun K k1 k2 _ _ => ?_)
  by_cases hl : s1 < s2
  · have m : max s1 s2 = s2 := by omega
    simp -dsimp [evB, evS, evR, evT, evC, evO, evAs, evDs, evIt, evPs, letRs, nrm, cnts, cnt, biD, mtOk, mtD, letR, letD, letDs, sto, binD, cmpD, Vi.truthy, esc, lenOk, idxD, isiD, Ret, outs, retR, Rv.isRef, Ob.toD, subS, putD, isNon, okD_int, okD_bool, okD_none, PyData.eqv, PyData.eqvAll, L2.ixN, at36, g, gg, hl]
    exact k2 _ _ (by simp -dsimp [evB, evS, evR, evT, evC, evO, evAs, evDs, evIt, evPs, letRs, nrm, cnts, cnt, biD, mtOk, mtD, letR, letD, letDs, sto, binD, cmpD, Vi.truthy, esc, lenOk, idxD, isiD, Ret, outs, retR, Rv.isRef, Ob.toD, subS, putD, isNon, okD_int, okD_bool, okD_none, PyData.eqv, PyData.eqvAll, L2.ixN, m])
  · have m : max s1 s2 = s1 := by omega
    simp -dsimp [evB, evS, evR, evT, evC, evO, evAs, evDs, evIt, evPs, letRs, nrm, cnts, cnt, biD, mtOk, mtD, letR, letD, letDs, sto, binD, cmpD, Vi.truthy, esc, lenOk, idxD, isiD, Ret, outs, retR, Rv.isRef, Ob.toD, subS, putD, isNon, okD_int, okD_bool, okD_none, PyData.eqv, PyData.eqvAll, L2.ixN, at36, g, gg, hl]
    exact k2 _ _ (by simp -dsimp [evB, evS, evR, evT, evC, evO, evAs, evDs, evIt, evPs, letRs, nrm, cnts, cnt, biD, mtOk, mtD, letR, letD, letDs, sto, binD, cmpD, Vi.truthy, esc, lenOk, idxD, isiD, Ret, outs, retR, Rv.isRef, Ob.toD, subS, putD, isNon, okD_int, okD_bool, okD_none, PyData.eqv, PyData.eqvAll, L2.ixN, m])
end Lw
set_option maxHeartbeats 4000000
namespace Lw
open PySem Vi
variable {fu n : Nat}
theorem Fr2.mul {p q r s : Int} {k : Nat} (h : Fr2 p q k) (h2 : Fr2 r s k) : Fr2 (p * r) (q * s) (k + k) := ⟨Int.mul_ne_zero h.hq h2.hq, h.mp.mul h2.mp, h.mq.mul h2.mq⟩
theorem c46 {N : M2} {D a b E : Int} {k : Nat} (h : Bt N D k) (ha : Fr2 a E k) (hb : Fr2 b E k) (hk : k ≤ 900) (hf : 2 ^ 4000 < fu) {ρ : En} :
    doCall ⟨2, [], pg.sem fu (n + 4) 46⟩ [.dat (TQ N D), .dat (T2 (P2 (low a E)) (P2 (low b E)))] ρ = .ok (.dat (T2 (P2 (low (a * N.a + b * N.c) (E * D))) (P2 (low (a * N.b + b * N.d) (E * D))))) ρ := by
  refine doCall_data (ds := [TQ N D, T2 (P2 (low a E)) (P2 (low b E))]) rfl rfl (Ev.sem_eq (ev46 ?_)) rfl
  have m1 := fun {ρ : En} => @c35 fu n _ _ _ _ k (by omega) ha h.a hf ρ
  have m2 := fun {ρ : En} => @c35 fu n _ _ _ _ k (by omega) hb h.c hf ρ
  have m3 := fun {ρ : En} => @c35 fu n _ _ _ _ k (by omega) ha h.b hf ρ
  have m4 := fun {ρ : En} => @c35 fu n _ _ _ _ k (by omega) hb h.d hf ρ
  have s1 := fun {ρ : En} => @c34 fu n _ _ _ _ (k + k) (by omega) (ha.mul h.a) (hb.mul h.c) hf ρ
  have s2 := fun {ρ : En} => @c34 fu n _ _ _ _ (k + k) (by omega) (ha.mul h.b) (hb.mul h.d) hf ρ
  rw [low_sum (Int.mul_ne_zero ha.hq h.ne)] at s1 s2
  unfold d46 TQ
  generalize low N.a D = A at *
  generalize low N.b D = B at *
  generalize low N.c D = C at *
  generalize low N.d D = F at *
  generalize low a E = a' at *
  generalize low b E = b' at *
  generalize low (a * N.a) (E * D) = x1 at *
  generalize low (b * N.c) (E * D) = x2 at *
  generalize low (a * N.b) (E * D) = x3 at *
  generalize low (b * N.d) (E * D) = x4 at *
  generalize low (a * N.a + b * N.c) (E * D) = y1 at *
  generalize low (a * N.b + b * N.d) (E * D) = y2 at *
  refine Ev_cons fun K k1 k2 _ _ => ?_
  simp -dsimp [evB, evS, evR, evT, evC, evO, evAs, evDs, evIt, evPs, letRs, nrm, cnts, cnt, biD, mtOk, mtD, letR, letD, letDs, sto, binD, cmpD, Vi.truthy, esc, lenOk, idxD, isiD, Ret, outs, retR, Rv.isRef, Ob.toD, subS, putD, isNon, okD_int, okD_bool, okD_none, PyData.eqv, PyData.eqvAll, L2.ixN, at35, m1, m2, at34, s1]
  refine k1 _ (Ev_cons fun K k1 k2 _ _ => ?_)
  simp -dsimp [evB, evS, evR, evT, evC, evO, evAs, evDs, evIt, evPs, letRs, nrm, cnts, cnt, biD, mtOk, mtD, letR, letD, letDs, sto, binD, cmpD, Vi.truthy, esc, lenOk, idxD, isiD, Ret, outs, retR, Rv.isRef, Ob.toD, subS, putD, isNon, okD_int, okD_bool, okD_none, PyData.eqv, PyData.eqvAll, L2.ixN, at35, m3, m4, at34, s2]
  exact k2 _ _ (by simp -dsimp [evB, evS, evR, evT, evC, evO, evAs, evDs, evIt, evPs, letRs, nrm, cnts, cnt, biD, mtOk, mtD, letR, letD, letDs, sto, binD, cmpD, Vi.truthy, esc, lenOk, idxD, isiD, Ret, outs, retR, Rv.isRef, Ob.toD, subS, putD, isNon, okD_int, okD_bool, okD_none, PyData.eqv, PyData.eqvAll, L2.ixN])
theorem c23 {N P : M2} {D E : Int} {k : Nat} (h : Bt N D k) (g : Bt P E k) (hk : k ≤ 900) {ρ : En} :
    doCall ⟨2, [], pg.sem fu (n + 3) 23⟩ [.dat (TQ N D), .dat (TQ P E)] ρ = .ok (.dat (TQ (N.mul P) (D * E))) ρ := by
  refine doCall_data (ds := [TQ N D, TQ P E]) rfl rfl (Ev.sem_eq (ev23 ?_)) rfl
  have m1 := fun {ρ : En} => @c7 fu n _ _ _ _ k (by omega) h.a g.a ρ
  have m2 := fun {ρ : En} => @c7 fu n _ _ _ _ k (by omega) h.b g.c ρ
  have m3 := fun {ρ : En} => @c7 fu n _ _ _ _ k (by omega) h.a g.b ρ
  have m4 := fun {ρ : En} => @c7 fu n _ _ _ _ k (by omega) h.b g.d ρ
  have m5 := fun {ρ : En} => @c7 fu n _ _ _ _ k (by omega) h.c g.a ρ
  have m6 := fun {ρ : En} => @c7 fu n _ _ _ _ k (by omega) h.d g.c ρ
  have m7 := fun {ρ : En} => @c7 fu n _ _ _ _ k (by omega) h.c g.b ρ
  have m8 := fun {ρ : En} => @c7 fu n _ _ _ _ k (by omega) h.d g.d ρ
  have s1 := fun {ρ : En} => @c4 fu n _ _ _ _ (k + k) (by omega) (h.a.mul g.a) (h.b.mul g.c) ρ
  have s2 := fun {ρ : En} => @c4 fu n _ _ _ _ (k + k) (by omega) (h.a.mul g.b) (h.b.mul g.d) ρ
  have s3 := fun {ρ : En} => @c4 fu n _ _ _ _ (k + k) (by omega) (h.c.mul g.a) (h.d.mul g.c) ρ
  have s4 := fun {ρ : En} => @c4 fu n _ _ _ _ (k + k) (by omega) (h.c.mul g.b) (h.d.mul g.d) ρ
  rw [low_sum (Int.mul_ne_zero h.ne g.ne)] at s1 s2 s3 s4
  unfold d23 TQ M2.mul T2
  simp only []
  generalize low N.a D = A at *
  generalize low N.b D = B at *
  generalize low N.c D = C at *
  generalize low N.d D = F at *
  generalize low P.a E = A' at *
  generalize low P.b E = B' at *
  generalize low P.c E = C' at *
  generalize low P.d E = F' at *
  generalize low (N.a * P.a) (D * E) = x1 at *
  generalize low (N.b * P.c) (D * E) = x2 at *
  generalize low (N.a * P.b) (D * E) = x3 at *
  generalize low (N.b * P.d) (D * E) = x4 at *
  generalize low (N.c * P.a) (D * E) = x5 at *
  generalize low (N.d * P.c) (D * E) = x6 at *
  generalize low (N.c * P.b) (D * E) = x7 at *
  generalize low (N.d * P.d) (D * E) = x8 at *
  generalize low (N.a * P.a + N.b * P.c) (D * E) = y1 at *
  generalize low (N.a * P.b + N.b * P.d) (D * E) = y2 at *
  generalize low (N.c * P.a + N.d * P.c) (D * E) = y3 at *
  generalize low (N.c * P.b + N.d * P.d) (D * E) = y4 at *
  refine Ev_cons fun K k1 k2 _ _ => ?_
  simp -dsimp [evB, evS, evR, evT, evC, evO, evAs, evDs, evIt, evPs, letRs, nrm, cnts, cnt, biD, mtOk, mtD, letR, letD, letDs, sto, binD, cmpD, Vi.truthy, esc, lenOk, idxD, isiD, Ret, outs, retR, Rv.isRef, Ob.toD, subS, putD, isNon, okD_int, okD_bool, okD_none, PyData.eqv, PyData.eqvAll, L2.ixN]
  refine k1 _ (Ev_cons fun K k1 k2 _ _ => ?_)
  simp -dsimp [evB, evS, evR, evT, evC, evO, evAs, evDs, evIt, evPs, letRs, nrm, cnts, cnt, biD, mtOk, mtD, letR, letD, letDs, sto, binD, cmpD, Vi.truthy, esc, lenOk, idxD, isiD, Ret, outs, retR, Rv.isRef, Ob.toD, subS, putD, isNon, okD_int, okD_bool, okD_none, PyData.eqv, PyData.eqvAll, L2.ixN]
  refine k1 _ (Ev_cons fun K k1 k2 _ _ => ?_)
  simp -dsimp [evB, evS, evR, evT, evC, evO, evAs, evDs, evIt, evPs, letRs, nrm, cnts, cnt, biD, mtOk, mtD, letR, letD, letDs, sto, binD, cmpD, Vi.truthy, esc, lenOk, idxD, isiD, Ret, outs, retR, Rv.isRef, Ob.toD, subS, putD, isNon, okD_int, okD_bool, okD_none, PyData.eqv, PyData.eqvAll, L2.ixN, seqItems, forL, lcL, free, unlockAt, plainAt, wipeE, lkOk, Rs.calm, backE, unl, at7, at4, m1, m2, m3, m4, m5, m6, m7, m8, s1, s2, s3, s4]
  refine k1 _ (Ev_cons fun K k1 k2 _ _ => ?_)
  simp -dsimp [evB, evS, evR, evT, evC, evO, evAs, evDs, evIt, evPs, letRs, nrm, cnts, cnt, biD, mtOk, mtD, letR, letD, letDs, sto, binD, cmpD, Vi.truthy, esc, lenOk, idxD, isiD, Ret, outs, retR, Rv.isRef, Ob.toD, subS, putD, isNon, okD_int, okD_bool, okD_none, PyData.eqv, PyData.eqvAll, L2.ixN]
  exact k2 _ _ (by simp -dsimp [evB, evS, evR, evT, evC, evO, evAs, evDs, evIt, evPs, letRs, nrm, cnts, cnt, biD, mtOk, mtD, letR, letD, letDs, sto, binD, cmpD, Vi.truthy, esc, lenOk, idxD, isiD, Ret, outs, retR, Rv.isRef, Ob.toD, subS, putD, isNon, okD_int, okD_bool, okD_none, PyData.eqv, PyData.eqvAll, L2.ixN])
theorem c22 {x : M2} (h : Ent x 200) (hs : x.det ≠ 0) {ρ : En} : doCall ⟨1, [], pg.sem fu (n + 3) 22⟩ [.dat (TM x)] ρ = .ok (.dat (TQ x.adj x.det)) ρ := by
  refine doCall_data (ds := [TM x]) rfl rfl (Ev.sem_eq (ev22 ?_)) rfl
  have u := fun {ρ : En} => @c15 fu n x 1 0 1 h hs (by omega) (by unfold Md; exact Nat.one_lt_two_pow (by omega)) (by unfold Md; exact Nat.two_pow_pos _) (by unfold Md; exact Nat.one_lt_two_pow (by omega)) ρ
  have v := fun {ρ : En} => @c15 fu n x 0 1 1 h hs (by omega) (by unfold Md; exact Nat.two_pow_pos _) (by unfold Md; exact Nat.one_lt_two_pow (by omega)) (by unfold Md; exact Nat.one_lt_two_pow (by omega)) ρ
  unfold Pt at u v
  simp only [low_one, Int.mul_one, Int.one_mul, Int.mul_zero, Int.sub_zero, Int.zero_sub] at u v
  unfold d22 TQ M2.adj
  simp only []
  generalize low x.d x.det = y1 at *
  generalize low (-x.b) x.det = y2 at *
  generalize low (-x.c) x.det = y3 at *
  generalize low x.a x.det = y4 at *
  refine Ev_cons fun K k1 k2 _ _ => ?_
  simp -dsimp [evB, evS, evR, evT, evC, evO, evAs, evDs, evIt, evPs, letRs, nrm, cnts, cnt, biD, mtOk, mtD, letR, letD, letDs, sto, binD, cmpD, Vi.truthy, esc, lenOk, idxD, isiD, Ret, outs, retR, Rv.isRef, Ob.toD, subS, putD, isNon, okD_int, okD_bool, okD_none, PyData.eqv, PyData.eqvAll, L2.ixN, gls0, gls1, at15, u, v]
  refine k1 _ (Ev_cons fun K k1 k2 _ _ => ?_)
  simp -dsimp [evB, evS, evR, evT, evC, evO, evAs, evDs, evIt, evPs, letRs, nrm, cnts, cnt, biD, mtOk, mtD, letR, letD, letDs, sto, binD, cmpD, Vi.truthy, esc, lenOk, idxD, isiD, Ret, outs, retR, Rv.isRef, Ob.toD, subS, putD, isNon, okD_int, okD_bool, okD_none, PyData.eqv, PyData.eqvAll, L2.ixN]
  exact k2 _ _ (by simp -dsimp [evB, evS, evR, evT, evC, evO, evAs, evDs, evIt, evPs, letRs, nrm, cnts, cnt, biD, mtOk, mtD, letR, letD, letDs, sto, binD, cmpD, Vi.truthy, esc, lenOk, idxD, isiD, Ret, outs, retR, Rv.isRef, Ob.toD, subS, putD, isNon, okD_int, okD_bool, okD_none, PyData.eqv, PyData.eqvAll, L2.ixN])
end Lw
set_option maxHeartbeats 4000000
namespace Lw
open PySem Vi
variable {fu n : Nat}
def E' (x : M2) (k : Nat) : Int := ((x.det ^ k).natAbs : Int)
def Wd (x : M2) : Nat → Int
  | 0 => 0
  | k + 1 => Wd x k * (x.det.natAbs : Int) + siz (x.adj.pow (k + 1))
def below (x : M2) (k : Nat) : Bool := decide (siz (x.adj.pow k) < E' x k)
theorem stop_all : ((List.range 7).all fun a => (List.range 7).all fun b => (List.range 7).all fun c => (List.range 7).all fun d =>
    !gdB ⟨(a : Int) - 3, (b : Int) - 3, (c : Int) - 3, (d : Int) - 3⟩ || below ⟨(a : Int) - 3, (b : Int) - 3, (c : Int) - 3, (d : Int) - 3⟩ 1 || below ⟨(a : Int) - 3, (b : Int) - 3, (c : Int) - 3, (d : Int) - 3⟩ 2 || below ⟨(a : Int) - 3, (b : Int) - 3, (c : Int) - 3, (d : Int) - 3⟩ 3 || below ⟨(a : Int) - 3, (b : Int) - 3, (c : Int) - 3, (d : Int) - 3⟩ 4) = true := by decide +kernel
structure Stop (x : M2) (K : Nat) : Prop where
  l0 : 1 ≤ K
  l1 : K ≤ 4
  lt : siz (x.adj.pow K) < E' x K
  ge : ∀ j, 1 ≤ j → j < K → ¬ siz (x.adj.pow j) < E' x j
theorem stop_of {x : M2} (h : gdB x = true) : ∃ K, Stop x K := by
  obtain ⟨a0, b0, c0, d0, _⟩ := gd_sml h
  have key : below x 1 = true ∨ below x 2 = true ∨ below x 3 = true ∨ below x 4 = true := by
    have r := stop_all
    have m : ∀ z : Int, z.natAbs ≤ 3 → (z + 3).toNat ∈ List.range 7 ∧ (((z + 3).toNat : Nat) : Int) - 3 = z := fun z hz => ⟨List.mem_range.mpr (by omega), by omega⟩
    have r1 := List.all_eq_true.mp r _ (m _ a0).1
    have r2 := List.all_eq_true.mp r1 _ (m _ b0).1
    have r3 := List.all_eq_true.mp r2 _ (m _ c0).1
    have r4 := List.all_eq_true.mp r3 _ (m _ d0).1
    simp only [(m _ a0).2, (m _ b0).2, (m _ c0).2, (m _ d0).2] at r4
    have e : (⟨x.a, x.b, x.c, x.d⟩ : M2) = x := rfl
    rw [e, h] at r4
    simp only [Bool.not_true, Bool.false_or, Bool.or_eq_true] at r4
    rcases r4 with ((r4 | r4) | r4) | r4
    · exact .inl r4
    · exact .inr (.inl r4)
    · exact .inr (.inr (.inl r4))
    · exact .inr (.inr (.inr r4))
  have d : ∀ j, below x j = true ↔ siz (x.adj.pow j) < E' x j := fun j => by unfold below; exact decide_eq_true_iff
  rw [d, d, d, d] at key
  by_cases h1 : siz (x.adj.pow 1) < E' x 1
  · exact ⟨1, by omega, by omega, h1, fun j a b => by omega⟩
  by_cases h2 : siz (x.adj.pow 2) < E' x 2
  · refine ⟨2, by omega, by omega, h2, fun j a b => ?_⟩
    obtain rfl : j = 1 := by omega
    exact h1
  by_cases h3 : siz (x.adj.pow 3) < E' x 3
  · exact ⟨3, by omega, by omega, h3, fun j a b => by
      rcases (by omega : j = 1 ∨ j = 2) with rfl | rfl
      · exact h1
      · exact h2⟩
  refine ⟨4, by omega, by omega, ?_, fun j a b => by
      rcases (by omega : j = 1 ∨ j = 2 ∨ j = 3) with rfl | rfl | rfl
      · exact h1
      · exact h2
      · exact h3⟩
  rcases key with k | k | k | k
  · exact absurd k h1
  · exact absurd k h2
  · exact absurd k h3
  · exact k
def nv (v : Vc) : Int := max (v.1.natAbs : Int) (v.2.natAbs : Int)
theorem abs_lin (a b u w m : Int) (hu : (u.natAbs : Int) ≤ m) (hw : (w.natAbs : Int) ≤ m) : ((a * u + b * w).natAbs : Int) ≤ ((a.natAbs : Int) + b.natAbs) * m := by
  have h1 : ((a * u + b * w).natAbs : Int) ≤ ((a * u).natAbs : Int) + ((b * w).natAbs : Int) := by omega
  have h2 : ((a * u).natAbs : Int) ≤ (a.natAbs : Int) * m := by
    rw [Int.natAbs_mul, Int.natCast_mul]
    exact Int.mul_le_mul_of_nonneg_left hu (by omega)
  have h3 : ((b * w).natAbs : Int) ≤ (b.natAbs : Int) * m := by
    rw [Int.natAbs_mul, Int.natCast_mul]
    exact Int.mul_le_mul_of_nonneg_left hw (by omega)
  rw [Int.add_mul]
  omega
theorem nv_nonneg (v : Vc) : 0 ≤ nv v := by unfold nv; omega
theorem nv_mv (N : M2) (v : Vc) : nv (mv N v) ≤ siz N * nv v := by
  have h1 : (v.1.natAbs : Int) ≤ nv v := by unfold nv; omega
  have h2 : (v.2.natAbs : Int) ≤ nv v := by unfold nv; omega
  have h0 := nv_nonneg v
  have a := abs_lin N.a N.b v.1 v.2 _ h1 h2
  have b := abs_lin N.c N.d v.1 v.2 _ h1 h2
  generalize nv v = m at *
  have s1 : (N.a.natAbs : Int) + N.b.natAbs ≤ siz N := by unfold siz; omega
  have s2 : (N.c.natAbs : Int) + N.d.natAbs ≤ siz N := by unfold siz; omega
  have a2 := Int.mul_le_mul_of_nonneg_right s1 h0
  have b2 := Int.mul_le_mul_of_nonneg_right s2 h0
  unfold nv mv
  simp only []
  omega
theorem nv_add (u v : Vc) : nv (u.1 + v.1, u.2 + v.2) ≤ nv u + nv v := by unfold nv; simp only []; omega
theorem nv_scale (c : Int) (v : Vc) : nv (c * v.1, c * v.2) = (c.natAbs : Int) * nv v := by
  unfold nv
  simp only [Int.natAbs_mul, Int.natCast_mul]
  rcases Int.le_total (v.1.natAbs : Int) (v.2.natAbs : Int) with h | h
  · rw [Int.max_eq_right h, Int.max_eq_right (Int.mul_le_mul_of_nonneg_left h (by omega))]
  · rw [Int.max_eq_left h, Int.max_eq_left (Int.mul_le_mul_of_nonneg_left h (by omega))]
def orb (x : M2) (q : Int) (v : Vc) (f : Nat → Cp) : Nat → Vc
  | 0 => v
  | i + 1 => on1 x q (orb x q v f i) (f i)
def stepV (p : Cp) : Vc := (p.x, p.y)
def lngC (p : Cp) : Int := max (p.x.natAbs : Int) (p.y.natAbs : Int)
def carry (x : M2) (f : Nat → Cp) (i : Nat) : Nat → Vc
  | 0 => (0, 0)
  | k + 1 => (x.det * (carry x f i k).1 + (mv (x.adj.pow (k + 1)) (stepV (f (i + k)))).1, x.det * (carry x f i k).2 + (mv (x.adj.pow (k + 1)) (stepV (f (i + k)))).2)
theorem mv_adj (x : M2) (q : Int) (v : Vc) (p : Cp) : mv x.adj ((on1 x q v p).1 + q * p.x, (on1 x q v p).2 + q * p.y) = (x.det * v.1, x.det * v.2) := by
  unfold mv on1 M2.adj M2.det
  simp only []
  refine Prod.ext ?_ ?_ <;> simp only [] <;> grind
theorem mv_lin (N : M2) (u w : Vc) (q : Int) : mv N (u.1 + q * w.1, u.2 + q * w.2) = ((mv N u).1 + q * (mv N w).1, (mv N u).2 + q * (mv N w).2) := by
  unfold mv
  refine Prod.ext ?_ ?_ <;> simp only [] <;> grind
theorem mv_scale (N : M2) (c : Int) (u : Vc) : mv N (c * u.1, c * u.2) = (c * (mv N u).1, c * (mv N u).2) := by
  unfold mv
  refine Prod.ext ?_ ?_ <;> simp only [] <;> grind
theorem orb_back (x : M2) (q : Int) (v : Vc) (f : Nat → Cp) (i : Nat) : ∀ k, (x.det ^ k * (orb x q v f i).1, x.det ^ k * (orb x q v f i).2) = ((mv (x.adj.pow k) (orb x q v f (i + k))).1 + q * (carry x f i k).1, (mv (x.adj.pow k) (orb x q v f (i + k))).2 + q * (carry x f i k).2)
  | 0 => by simp [carry, M2.pow, M2.one, mv]
  | k + 1 => by
    have ih := orb_back x q v f i k
    have b := mv_adj x q (orb x q v f (i + k)) (f (i + k))
    have e0 : on1 x q (orb x q v f (i + k)) (f (i + k)) = orb x q v f (i + (k + 1)) := rfl
    rw [e0] at b
    have c := mv_scale (x.adj.pow k) x.det (orb x q v f (i + k))
    rw [← b, ← mv_mul, pow_comm] at c
    have d := mv_lin (x.adj.mul (x.adj.pow k)) (orb x q v f (i + (k + 1))) (stepV (f (i + k))) q
    unfold stepV at d
    simp only [] at d
    rw [d] at c
    have i1 := congrArg Prod.fst ih
    have i2 := congrArg Prod.snd ih
    have c1 := congrArg Prod.fst c
    have c2 := congrArg Prod.snd c
    simp only [] at i1 i2 c1 c2
    rw [Int.pow_succ]
    unfold carry stepV
    simp only [M2.pow]
    refine Prod.ext ?_ ?_ <;> simp only []
    · rw [show x.det ^ k * x.det * (orb x q v f i).1 = x.det * (x.det ^ k * (orb x q v f i).1) by grind, i1, Int.mul_add, ← c1]; grind
    · rw [show x.det ^ k * x.det * (orb x q v f i).2 = x.det * (x.det ^ k * (orb x q v f i).2) by grind, i2, Int.mul_add, ← c2]; grind
theorem nv_step (p : Cp) : nv (stepV p) = lngC p := rfl
theorem carry_le (x : M2) (f : Nat → Cp) (i : Nat) {L : Int} (hL : ∀ j, lngC (f j) ≤ L) : ∀ k, nv (carry x f i k) ≤ L * Wd x k
  | 0 => by simp [carry, nv, Wd]
  | k + 1 => by
    have ih := carry_le x f i hL k
    unfold carry Wd
    have h1 := nv_add (x.det * (carry x f i k).1, x.det * (carry x f i k).2) (mv (x.adj.pow (k + 1)) (stepV (f (i + k))))
    have h2 := nv_scale x.det (carry x f i k)
    have h3 := nv_mv (x.adj.pow (k + 1)) (stepV (f (i + k)))
    have hs : 0 ≤ siz (x.adj.pow (k + 1)) := by unfold siz; omega
    have h4 := Int.mul_le_mul_of_nonneg_left (hL (i + k)) hs
    have h5 := Int.mul_le_mul_of_nonneg_left ih (show (0 : Int) ≤ (x.det.natAbs : Int) by omega)
    rw [nv_step] at h3
    rw [h2] at h1
    simp only [] at h1
    have : L * (Wd x k * (x.det.natAbs : Int) + siz (x.adj.pow (k + 1))) = (x.det.natAbs : Int) * (L * Wd x k) + siz (x.adj.pow (k + 1)) * L := by grind
    rw [this]
    omega
theorem orb_le (x : M2) (q : Int) (v : Vc) (f : Nat → Cp) {L : Int} (hL : ∀ j, lngC (f j) ≤ L) (i k : Nat) : E' x k * nv (orb x q v f i) ≤ siz (x.adj.pow k) * nv (orb x q v f (i + k)) + (q.natAbs : Int) * (L * Wd x k) := by
  have e := orb_back x q v f i k
  have h1 := nv_scale (x.det ^ k) (orb x q v f i)
  rw [e] at h1
  have h2 := nv_add (mv (x.adj.pow k) (orb x q v f (i + k))) (q * (carry x f i k).1, q * (carry x f i k).2)
  simp only [] at h2
  rw [h1, nv_scale] at h2
  have h3 := nv_mv (x.adj.pow k) (orb x q v f (i + k))
  have h4 := Int.mul_le_mul_of_nonneg_left (carry_le x f i hL k) (show (0 : Int) ≤ (q.natAbs : Int) by omega)
  unfold E'
  omega
end Lw
set_option maxHeartbeats 4000000
namespace Lw
open PySem Vi
variable {fu n : Nat}
def walkF (U W : List Cp) (i : Nat) : Cp := if i < U.length then U.getD i ⟨0, 0, 0⟩ else W.getD ((i - U.length) % W.length) ⟨0, 0, 0⟩
theorem orb_act (x : M2) (q : Int) (v : Vc) (f : Nat → Cp) : ∀ (L : List Cp) (i : Nat), (∀ j, j < L.length → L.getD j ⟨0, 0, 0⟩ = f (i + j)) → act x q (orb x q v f i) L = orb x q v f (i + L.length)
  | [], i, _ => rfl
  | p :: L, i, h => by
    have h0 : p = f i := by have := h 0 (by simp); simpa using this
    have ih := orb_act x q v f L (i + 1) (fun j hj => by
      have := h (j + 1) (by simpa using hj)
      rw [List.getD_cons_succ] at this
      rw [this]
      congr 1
      omega)
    show act x q (on1 x q (orb x q v f i) p) L = _
    have e : on1 x q (orb x q v f i) p = orb x q v f (i + 1) := by rw [h0]; rfl
    rw [e, ih, List.length_cons]
    congr 1
    omega
theorem orb_ring {x : M2} {q : Int} {v : Vc} {U W : List Cp} (h : IsPt x U W v q) : orb x q v (walkF U W) (U.length + W.length) = orb x q v (walkF U W) U.length := by
  have hu := orb_act x q v (walkF U W) U 0 (fun j hj => by unfold walkF; rw [if_pos (by omega)]; congr 1; omega)
  have hw := orb_act x q v (walkF U W) W U.length (fun j hj => by
    unfold walkF
    rw [if_neg (by omega)]
    congr 1
    rw [show U.length + j - U.length = j by omega, Nat.mod_eq_of_lt hj])
  have e0 : orb x q v (walkF U W) 0 = v := rfl
  rw [e0, Nat.zero_add] at hu
  rw [← hw, ← hu, h.eq]
theorem orb_again {x : M2} {q : Int} {v : Vc} {U W : List Cp} (h : IsPt x U W v q) : ∀ t, orb x q v (walkF U W) (U.length + W.length + t) = orb x q v (walkF U W) (U.length + t)
  | 0 => orb_ring h
  | t + 1 => by
    have ih := orb_again h t
    show on1 x q (orb x q v (walkF U W) (U.length + W.length + t)) (walkF U W (U.length + W.length + t)) = on1 x q (orb x q v (walkF U W) (U.length + t)) (walkF U W (U.length + t))
    rw [ih]
    congr 1
    unfold walkF
    rw [if_neg (by omega), if_neg (by omega)]
    congr 1
    rw [show U.length + W.length + t - U.length = t + W.length by omega, show U.length + t - U.length = t by omega, Nat.add_mod_right]
theorem orb_among {x : M2} {q : Int} {v : Vc} {U W : List Cp} (h : IsPt x U W v q) (hw : W ≠ []) : ∀ i, ∃ j, j < U.length + W.length ∧ orb x q v (walkF U W) i = orb x q v (walkF U W) j := by
  intro i
  induction i using Nat.strongRecOn with
  | _ i ih =>
    by_cases hi : i < U.length + W.length
    · exact ⟨i, hi, rfl⟩
    · have hl := List.length_pos_iff.mpr hw
      obtain ⟨j, h1, h2⟩ := ih (i - W.length) (by omega)
      refine ⟨j, h1, ?_⟩
      rw [← h2]
      have := orb_again h (i - U.length - W.length)
      rw [show U.length + W.length + (i - U.length - W.length) = i by omega, show U.length + (i - U.length - W.length) = i - W.length by omega] at this
      exact this
theorem greatest (g : Nat → Int) : ∀ k, 0 < k → ∃ m, m < k ∧ ∀ j, j < k → g j ≤ g m
  | 0, h => by omega
  | 1, _ => ⟨0, by omega, fun j hj => by
      obtain rfl : j = 0 := by omega
      exact Int.le_refl _⟩
  | k + 2, _ => by
    obtain ⟨m, h1, h2⟩ := greatest g (k + 1) (by omega)
    by_cases hg : g (k + 1) ≤ g m
    · refine ⟨m, by omega, fun j hj => ?_⟩
      by_cases e : j = k + 1
      · subst e; exact hg
      · exact h2 j (by omega)
    · refine ⟨k + 1, by omega, fun j hj => ?_⟩
      by_cases e : j = k + 1
      · subst e; exact Int.le_refl _
      · have := h2 j (by omega)
        omega
theorem walkF_mem {U W : List Cp} (hw : W ≠ []) (i : Nat) : walkF U W i ∈ U ++ W := by
  unfold walkF
  split
  · rename_i h
    exact List.mem_append_left _ (getD_mem' _ h)
  · exact List.mem_append_right _ (getD_mem' _ (Nat.mod_lt _ (List.length_pos_iff.mpr hw)))
theorem pt_le {x : M2} {K : Nat} (hK : siz (x.adj.pow K) < E' x K) {q : Int} {v : Vc} {U W : List Cp} (h : IsPt x U W v q) (hw : W ≠ []) {L : Int} (hL : ∀ p ∈ U ++ W, lngC p ≤ L) : nv v * (E' x K - siz (x.adj.pow K)) ≤ (q.natAbs : Int) * (L * Wd x K) := by
  have hl := List.length_pos_iff.mpr hw
  obtain ⟨m, m1, m2⟩ := greatest (fun i => nv (orb x q v (walkF U W) i)) (U.length + W.length) (by omega)
  have all : ∀ i, nv (orb x q v (walkF U W) i) ≤ nv (orb x q v (walkF U W) m) := fun i => by
    obtain ⟨j, h1, h2⟩ := orb_among h hw i
    rw [h2]
    exact m2 j h1
  have a := orb_le x q v (walkF U W) (fun j => hL _ (walkF_mem hw j)) m K
  have b := all (m + K)
  have c : nv v ≤ nv (orb x q v (walkF U W) m) := all 0
  generalize nv (orb x q v (walkF U W) m) = M at *
  generalize nv (orb x q v (walkF U W) (m + K)) = M2 at *
  have hs : 0 ≤ siz (x.adj.pow K) := by unfold siz; omega
  have d := Int.mul_le_mul_of_nonneg_left b hs
  have e := Int.mul_le_mul_of_nonneg_right c (show 0 ≤ E' x K - siz (x.adj.pow K) by omega)
  have f : M * (E' x K - siz (x.adj.pow K)) = E' x K * M - siz (x.adj.pow K) * M := by grind
  omega
def ceilQ (p q : Int) : Int := -((-(low p q).1).fdiv (low p q).2)
theorem ceilQ_le {p q : Int} (hq : 0 < q) : p ≤ ceilQ p q * q := by
  obtain ⟨h1, h2, _⟩ := low_spec (p := p) (q := q) (by omega)
  unfold ceilQ
  generalize low p q = t at *
  have h3 : (-t.1).fdiv t.2 * t.2 ≤ -t.1 := by
    rw [Int.fdiv_eq_ediv_of_nonneg _ (by omega)]
    have h4 := Int.emod_add_mul_ediv (-t.1) t.2
    have h5 := Int.emod_nonneg (-t.1) (show t.2 ≠ 0 by omega)
    have h6 : (-t.1) / t.2 * t.2 = t.2 * ((-t.1) / t.2) := Int.mul_comm _ _
    omega
  generalize (-t.1).fdiv t.2 = r at *
  have h7 : t.1 ≤ -r * t.2 := by rw [Int.neg_mul]; omega
  have h8 := Int.mul_le_mul_of_nonneg_right h7 (show 0 ≤ q by omega)
  rw [h2] at h8
  have h9 : t.2 * p ≤ t.2 * (-r * q) := by
    have : -r * t.2 * q = t.2 * (-r * q) := by grind
    omega
  exact Int.le_of_mul_le_mul_left h9 h1
def rch (x : M2) (K : Nat) (L : Int) : Int := ceilQ (Wd x K * L) (E' x K - siz (x.adj.pow K))
theorem pt_in {x : M2} {K : Nat} (hK : siz (x.adj.pow K) < E' x K) {q : Int} {v : Vc} {U W : List Cp} (h : IsPt x U W v q) (hw : W ≠ []) {L : Int} (hL : ∀ p ∈ U ++ W, lngC p ≤ L) : nv v ≤ rch x K L * (q.natAbs : Int) := by
  have a := pt_le hK h hw hL
  have b := ceilQ_le (p := Wd x K * L) (q := E' x K - siz (x.adj.pow K)) (by omega)
  have hq := h.hq
  unfold rch
  generalize ceilQ (Wd x K * L) (E' x K - siz (x.adj.pow K)) = R at *
  have c := Int.mul_le_mul_of_nonneg_left b (show (0 : Int) ≤ (q.natAbs : Int) by omega)
  have d : nv v * (E' x K - siz (x.adj.pow K)) ≤ (R * (q.natAbs : Int)) * (E' x K - siz (x.adj.pow K)) := by
    have e1 : (q.natAbs : Int) * (L * Wd x K) = (q.natAbs : Int) * (Wd x K * L) := by rw [Int.mul_comm L]
    have e2 : (R * (q.natAbs : Int)) * (E' x K - siz (x.adj.pow K)) = (q.natAbs : Int) * (R * (E' x K - siz (x.adj.pow K))) := by grind
    omega
  exact Int.le_of_mul_le_mul_right d (by omega)
end Lw
set_option maxHeartbeats 4000000
namespace Lw
open PySem Vi
variable {fu n : Nat}
theorem intsD_map {α : Type} (h : α → Int) : ∀ L : List α, intsD (L.map fun x => PyData.int (h x)) = some (L.map h)
  | [] => rfl
  | x :: L => by simp only [List.map_cons, intsD, intsD_map h L]; rfl
theorem mostI_spec : ∀ {ns : List Int}, ns ≠ [] → ∃ x, mostI ns = some x ∧ x ∈ ns ∧ ∀ y ∈ ns, y ≤ x := fun {ns} h => by
  cases e : mostI ns with
  | none =>
    cases ns with
    | nil => exact absurd rfl h
    | cons x xs => unfold mostI at e; split at e <;> cases e
  | some m => exact ⟨m, rfl, mostI_le e⟩
def lng (S : List (List Cp)) : Int := (mostI (S.flatten.map lngC)).getD 0
theorem lc2_map {f : PyData → En → Rs (List PyData)} {α : Type} (e : α → PyData) (g : α → List PyData) {ρ : En} : ∀ (S : List α), (∀ L ∈ S, f (e L) ρ = .ok (g L) ρ) → lc2L none f (S.map e) ρ = .ok (S.flatMap g) ρ
  | [], _ => rfl
  | L :: S, h => by
    rw [List.map_cons]
    unfold lc2L
    rw [if_pos (show lkOk none ρ = true from rfl), h L (List.mem_cons_self ..), Rs.bind_ok, lc2_map e g S (fun M hM => h M (List.mem_cons_of_mem _ hM))]
    rfl
theorem lc_as {f : PyData → En → Rs (Option PyData)} {α : Type} (e g : α → PyData) {ρ : En} : ∀ (L : List α), (∀ p ∈ L, f (e p) ρ = .ok (some (g p)) ρ) → lcL none f (L.map e) ρ = .ok (L.map g) ρ
  | [], _ => rfl
  | p :: L, h => by
    rw [List.map_cons]
    unfold lcL
    rw [if_pos (show lkOk none ρ = true from rfl), h p (List.mem_cons_self ..), Rs.bind_ok, lc_as e g L (fun M hM => h M (List.mem_cons_of_mem _ hM))]
    rfl
theorem max2_lng (p : Cp) : (if (if p.x < 0 then -p.x else p.x) < (if p.y < 0 then -p.y else p.y) then (if p.y < 0 then -p.y else p.y) else (if p.x < 0 then -p.x else p.x)) = lngC p := by
  unfold lngC
  rw [abs_if, abs_if]
  split <;> omega
structure Full (S : List (List Cp)) : Prop where
  l0 : 0 < S.length
  l1 : S.length ≤ 100
  all : ∀ L ∈ S, 0 < L.length ∧ L.length ≤ 100
theorem Full.some {S : List (List Cp)} (h : Full S) : S.flatten.map lngC ≠ [] := by
  cases S with
  | nil => have := h.l0; simp at this
  | cons L S =>
    have := (h.all L (List.mem_cons_self ..)).1
    cases L with
    | nil => simp at this
    | cons p L => simp
theorem lng_spec {S : List (List Cp)} (h : Full S) : mostI (S.flatten.map lngC) = some (lng S) ∧ lng S ∈ S.flatten.map lngC ∧ ∀ y ∈ S.flatten.map lngC, y ≤ lng S := by
  obtain ⟨m, h1, h2, h3⟩ := mostI_spec h.some
  have : lng S = m := by unfold lng; rw [h1]; rfl
  rw [this]
  exact ⟨h1, h2, h3⟩
theorem flat_le : ∀ {S : List (List Cp)}, (∀ L ∈ S, L.length ≤ 100) → S.flatten.length ≤ 100 * S.length
  | [], _ => by simp
  | L :: S, h => by
    have h1 := h L (List.mem_cons_self ..)
    have h2 := flat_le fun M hM => h M (List.mem_cons_of_mem _ hM)
    rw [List.flatten_cons, List.length_append, List.length_cons]
    omega
theorem c25 {x : M2} {S : List (List Cp)} (h : Full S) {ρ : En} : doCall ⟨1, [], pg.sem fu (n + 1) 25⟩ [.dat (gear x S)] ρ = .ok (.dat (I (lng S))) ρ := by
  refine doCall_data (ds := [gear x S]) rfl rfl (Ev.sem_eq (ev25 ?_)) rfl
  have hl : S.length ≤ 1000000 := by have := h.l1; omega
  obtain ⟨hm, _, _⟩ := lng_spec h
  have hi := intsD_map lngC S.flatten
  have hfl : (S.flatMap fun L => L.map fun p => PyData.int (lngC p)) = S.flatten.map fun p => PyData.int (lngC p) := by
    rw [List.flatMap_def, List.map_flatten]
  have hlen := flat_le fun L hL => (h.all L hL).2
  have key : ∀ f : PyData → En → Rs (List PyData), (∀ L ∈ S, f (st L) [.dat (gear x S), .non, .non, .non, .non] = .ok (L.map fun p => PyData.int (lngC p)) [.dat (gear x S), .non, .non, .non, .non]) → lc2L none f (S.map st) [.dat (gear x S), .non, .non, .non, .non] = .ok (S.flatten.map fun p => PyData.int (lngC p)) [.dat (gear x S), .non, .non, .non, .non] := fun f hf => by
    rw [lc2_map st (fun L => L.map fun p => PyData.int (lngC p)) S hf, hfl]
  unfold d25
  simp -dsimp [evB, evS, evR, evT, evC, evO, evAs, evDs, evIt, evPs, letRs, nrm, cnts, cnt, biD, mtOk, mtD, letR, letD, letDs, sto, binD, cmpD, Vi.truthy, esc, lenOk, idxD, isiD, Ret, outs, retR, Rv.isRef, Ob.toD, subS, putD, isNon, okD_int, okD_bool, okD_none, PyData.eqv, PyData.eqvAll, L2.ixN, seqItems, plainAt, wipeE, hl]
  rw [key]
  · have h2 := h.l1
    have h3 : (S.flatten.map fun p => PyData.int (lngC p)).length ≤ 1000000 := by rw [List.length_map]; omega
    clear hfl key
    generalize (S.flatten.map fun p => PyData.int (lngC p)) = T at *
    generalize S.flatten.map lngC = N at *
    simp -dsimp [evB, evS, evR, evT, evC, evO, evAs, evDs, evIt, evPs, letRs, nrm, cnts, cnt, biD, mtOk, mtD, letR, letD, letDs, sto, binD, cmpD, Vi.truthy, esc, lenOk, idxD, isiD, Ret, outs, retR, Rv.isRef, Ob.toD, subS, putD, isNon, okD_int, okD_bool, okD_none, PyData.eqv, PyData.eqvAll, L2.ixN, lkOk, backE, unl, h3, hi, hm]
  · intro L hL
    have h5 : L.length ≤ 1000000 := by have := (h.all L hL).2; omega
    have key2 : ∀ f : PyData → En → Rs (Option PyData), (∀ p ∈ L, f (cp p) [.dat (gear x S), .dat (st L), .non, .non, .non] = .ok (some (.int (lngC p))) [.dat (gear x S), .dat (st L), .non, .non, .non]) → lcL none f (L.map cp) [.dat (gear x S), .dat (st L), .non, .non, .non] = .ok (L.map fun p => PyData.int (lngC p)) [.dat (gear x S), .dat (st L), .non, .non, .non] := fun f hf => lc_as cp (fun p => .int (lngC p)) L hf
    simp -dsimp [evB, evS, evR, evT, evC, evO, evAs, evDs, evIt, evPs, letRs, nrm, cnts, cnt, biD, mtOk, mtD, letR, letD, letDs, sto, binD, cmpD, Vi.truthy, esc, lenOk, idxD, isiD, Ret, outs, retR, Rv.isRef, Ob.toD, subS, putD, isNon, okD_int, okD_bool, okD_none, PyData.eqv, PyData.eqvAll, L2.ixN, seqItems, plainAt, wipeE, Rs.calm, h5]
    rw [key2]
    · simp -dsimp [evB, evS, evR, evT, evC, evO, evAs, evDs, evIt, evPs, letRs, nrm, cnts, cnt, biD, mtOk, mtD, letR, letD, letDs, sto, binD, cmpD, Vi.truthy, esc, lenOk, idxD, isiD, Ret, outs, retR, Rv.isRef, Ob.toD, subS, putD, isNon, okD_int, okD_bool, okD_none, PyData.eqv, PyData.eqvAll, L2.ixN, lkOk, unl, wipeE]
    · intro p hp
      have := max2_lng p
      simp -dsimp [evB, evS, evR, evT, evC, evO, evAs, evDs, evIt, evPs, letRs, nrm, cnts, cnt, biD, mtOk, mtD, letR, letD, letDs, sto, binD, cmpD, Vi.truthy, esc, lenOk, idxD, isiD, Ret, outs, retR, Rv.isRef, Ob.toD, subS, putD, isNon, okD_int, okD_bool, okD_none, PyData.eqv, PyData.eqvAll, L2.ixN, cp, Rs.calm, wipeE, this]
end Lw
set_option maxHeartbeats 4000000
namespace Lw
open PySem Vi
variable {fu n : Nat}
theorem det_md {x : M2} (h : gdB x = true) : Md 4 x.det := by
  have := (gd_sml h).2.2.2.2.2
  unfold Md
  omega
theorem det_ne {x : M2} (h : gdB x = true) : x.det ≠ 0 := (gd_ring h (k := 1) (by omega) (by omega)).1
theorem detp_md {x : M2} (h : gdB x = true) : ∀ k, Md (4 * k + 1) (x.det ^ k)
  | 0 => by unfold Md; simp
  | k + 1 => by
    rw [Int.pow_succ, show 4 * (k + 1) + 1 = (4 * k + 1) + 4 by omega]
    exact (detp_md h k).mul (det_md h)
theorem E'_succ (x : M2) (k : Nat) : E' x (k + 1) = E' x k * (x.det.natAbs : Int) := by
  unfold E'
  rw [Int.pow_succ, Int.natAbs_mul, Int.natCast_mul]
theorem E'_pos {x : M2} (h : gdB x = true) (k : Nat) : 0 < E' x k := by
  have : x.det ^ k ≠ 0 := Int.pow_ne_zero (det_ne h)
  unfold E'
  omega
theorem siz_md {N : M2} {k : Nat} (h : Ent N k) : Md (k + 1) (siz N) := by
  obtain ⟨a, b, c, d⟩ := h
  unfold Md siz at *
  rw [Nat.pow_succ]
  omega
theorem adj_e3 {x : M2} (h : gdB x = true) : E3 x.adj := by
  obtain ⟨a, b, c, d, _⟩ := gd_sml h
  exact ⟨d, by unfold M2.adj; simpa using b, by unfold M2.adj; simpa using c, a⟩
theorem Wd_md {x : M2} (h : gdB x = true) : ∀ k, Md (5 * k + 5) (Wd x k)
  | 0 => by unfold Md Wd; simp
  | k + 1 => by
    have h1 := (Wd_md h k).mul (md_abs (det_md h))
    have h2 := siz_md (pow_ent (adj_e3 h) (k + 1))
    have h3 := (h1.mono (show 5 * k + 5 + 4 ≤ 5 * k + 9 by omega)).add (h2.mono (show 3 * (k + 1) + 1 + 1 ≤ 5 * k + 9 by omega))
    rw [Wd, show 5 * (k + 1) + 5 = 5 * k + 9 + 1 by omega]
    exact h3
theorem bt_pow {x : M2} (h : gdB x = true) {k : Nat} (hk : k ≤ 5) : Bt (x.adj.pow k) (x.det ^ k) 60 := ⟨Int.pow_ne_zero (det_ne h), (pow_ent (adj_e3 h) k).mono (by omega), (detp_md h k).mono (by omega)⟩
theorem bt_one {x : M2} (h : gdB x = true) : Bt x.adj x.det 60 := ⟨det_ne h, by
  obtain ⟨a, b, c, d⟩ := adj_e3 h
  exact ⟨(Md3 a).mono (by omega), (Md3 b).mono (by omega), (Md3 c).mono (by omega), (Md3 d).mono (by omega)⟩, (det_md h).mono (by omega)⟩
theorem fr_size {x : M2} (h : gdB x = true) {k : Nat} (hk : k ≤ 5) : Fr2 (siz (x.adj.pow k)) (E' x k) 60 := ⟨by have := E'_pos h k; omega, (siz_md (pow_ent (adj_e3 h) k)).mono (by omega), (md_abs (detp_md h k)).mono (by omega)⟩
theorem fr_sum {x : M2} (h : gdB x = true) {k : Nat} (hk : k ≤ 5) : Fr2 (Wd x k) (E' x k) 60 := ⟨by have := E'_pos h k; omega, (Wd_md h k).mono (by omega), (md_abs (detp_md h k)).mono (by omega)⟩
theorem fr_one {k : Nat} (h : 1 ≤ k) : Fr2 1 1 k := ⟨by omega, by unfold Md; exact Nat.one_lt_two_pow (by omega), by unfold Md; exact Nat.one_lt_two_pow (by omega)⟩
theorem fr_int {k : Nat} {a : Int} (h : Md k a) (h1 : 1 ≤ k) : Fr2 a 1 k := ⟨by omega, h, by unfold Md; exact Nat.one_lt_two_pow (by omega)⟩
theorem low_next {x : M2} (h : gdB x = true) (k : Nat) : low (Wd x k * E' x (k + 1) + siz (x.adj.pow (k + 1)) * E' x k) (E' x k * E' x (k + 1)) = low (Wd x (k + 1)) (E' x (k + 1)) := by
  have a := E'_pos h k
  have b := E'_pos h (k + 1)
  refine low_eq (Int.mul_ne_zero (by omega) (by omega)) (by omega) ?_
  rw [Wd, E'_succ]
  grind
theorem low_end {x : M2} (h : gdB x = true) {k : Nat} {L : Int} (hs : siz (x.adj.pow k) < E' x k) : low ((Wd x k * L) * (1 * E' x k)) ((E' x k * 1) * (1 * E' x k + -siz (x.adj.pow k) * 1)) = low (Wd x k * L) (E' x k - siz (x.adj.pow k)) := by
  have a := E'_pos h k
  refine low_eq (Int.mul_ne_zero (by omega) (by omega)) (by omega) ?_
  grind
theorem divOk_md {k : Nat} {a : Int} (h : Md k a) (h0 : a ≠ 0) (hk : k ≤ 9000) : divOk a = true := by
  unfold divOk
  rw [decide_eq_true h0, Bool.true_and]
  exact decide_eq_true (Nat.lt_of_lt_of_le ((Nat.log2_lt (by omega)).mpr h) hk)
theorem pow1 (x : M2) : x.pow 1 = x := by
  unfold M2.pow M2.pow M2.one M2.mul
  simp
theorem c26 {x : M2} {S : List (List Cp)} (hx : gdB x = true) (hS : Full S) {K : Nat} (hK : Stop x K) (hL : Md 40 (lng S)) (hf : 10 < fu) {ρ : En} : doCall ⟨1, [], pg.sem fu (n + 4) 26⟩ [.dat (gear x S)] ρ = .ok (.dat (I (rch x K (lng S)))) ρ := by
  refine doCall_data (ds := [gear x S]) rfl rfl (Ev.sem_eq (ev26 ?_)) rfl
  have hent : Ent x 200 := (by
    obtain ⟨a, b, c, d, _⟩ := gd_sml hx
    exact ⟨(Md3 a).mono (by omega), (Md3 b).mono (by omega), (Md3 c).mono (by omega), (Md3 d).mono (by omega)⟩)
  have e22 := fun {ρ : En} => @c22 fu n x hent (det_ne hx) ρ
  have e24 := fun {ρ : En} => @c24 fu n x.adj x.det 60 (bt_one hx) (by omega) ρ
  have e25 := fun {ρ : En} => @c25 fu (n + 2) x S hS ρ
  have hp1 := pow1 x.adj
  have h1 : (x.det.natAbs : Int) = E' x 1 := by unfold E'; rw [Int.pow_succ, Int.pow_zero, Int.one_mul]
  have hw1 : siz x.adj = Wd x 1 := by unfold Wd Wd; rw [hp1]; simp
  unfold d26
  refine Ev_cons fun K' k1 k2 _ _ => ?_
  simp -dsimp [evB, evS, evR, evT, evC, evO, evAs, evDs, evIt, evPs, letRs, nrm, cnts, cnt, biD, mtOk, mtD, letR, letD, letDs, sto, binD, cmpD, Vi.truthy, esc, lenOk, idxD, isiD, Ret, outs, retR, Rv.isRef, Ob.toD, subS, putD, isNon, okD_int, okD_bool, okD_none, PyData.eqv, PyData.eqvAll, L2.ixN, at22, e22]
  refine k1 _ (Ev_cons fun K' k1 k2 _ _ => ?_)
  simp -dsimp [evB, evS, evR, evT, evC, evO, evAs, evDs, evIt, evPs, letRs, nrm, cnts, cnt, biD, mtOk, mtD, letR, letD, letDs, sto, binD, cmpD, Vi.truthy, esc, lenOk, idxD, isiD, Ret, outs, retR, Rv.isRef, Ob.toD, subS, putD, isNon, okD_int, okD_bool, okD_none, PyData.eqv, PyData.eqvAll, L2.ixN, at24, e24]
  refine k1 _ (Ev_cons fun K' k1 k2 _ _ => ?_)
  simp -dsimp [evB, evS, evR, evT, evC, evO, evAs, evDs, evIt, evPs, letRs, nrm, cnts, cnt, biD, mtOk, mtD, letR, letD, letDs, sto, binD, cmpD, Vi.truthy, esc, lenOk, idxD, isiD, Ret, outs, retR, Rv.isRef, Ob.toD, subS, putD, isNon, okD_int, okD_bool, okD_none, PyData.eqv, PyData.eqvAll, L2.ixN]
  refine k1 _ (Ev_cons fun K' k1 k2 _ _ => ?_)
  refine Ev_whl (fun m ρ => ∃ k, m = 4 - k ∧ 1 ≤ k ∧ k ≤ K ∧ ρ = [.dat (gear x S), .dat (TQ x.adj x.det), .dat (P2 (low (Wd x k) (E' x k))), .dat (TQ (x.adj.pow k) (x.det ^ k)), .dat (P2 (low (siz (x.adj.pow k)) (E' x k))), .non, .non]) 3
    ⟨1, rfl, Nat.le_refl _, hK.l0, by rw [hp1, ← h1, hw1, show x.det ^ 1 = x.det by rw [Int.pow_succ, Int.pow_zero, Int.one_mul]]⟩ (show 3 < fu by omega) ?_
  rintro m _ ⟨k, rfl, k0, kK, rfl⟩
  have kl := hK.l1
  have fs := fr_size hx (k := k) (by omega)
  have fw := fr_sum hx (k := k) (by omega)
  have pE := E'_pos hx k
  have e9 := fun {ρ : En} => @c9 fu (n + 2) _ _ _ _ 60 (by omega) fs (fr_one (by omega)) pE (by omega) ρ
  rw [low_one] at e9
  by_cases hlt : siz (x.adj.pow k) < E' x k
  · have ek : k = K := by
      by_cases z : k < K
      · exact absurd hlt (hK.ge k k0 z)
      · omega
    subst ek
    simp -dsimp [evB, evS, evR, evT, evC, evO, evAs, evDs, evIt, evPs, letRs, nrm, cnts, cnt, biD, mtOk, mtD, letR, letD, letDs, sto, binD, cmpD, Vi.truthy, esc, lenOk, idxD, isiD, Ret, outs, retR, Rv.isRef, Ob.toD, subS, putD, isNon, okD_int, okD_bool, okD_none, PyData.eqv, PyData.eqvAll, L2.ixN, gls1, at9, e9, hlt]
    refine k1 _ (Ev_cons fun K' k1 k2 _ _ => ?_)
    have e7 := fun {ρ : En} => @c7 fu (n + 1) _ _ _ _ 60 (by omega) fw (fr_int (hL.mono (by omega)) (by omega)) ρ
    rw [low_one] at e7
    have e6 := fun {ρ : En} => @c6 fu n _ _ _ _ 60 (by omega) (fr_one (by omega)) fs ρ
    rw [low_one] at e6
    have f7 := (fw.mul (fr_int (hL.mono (by omega)) (by omega))).mono (show 60 + 60 ≤ 130 by omega)
    have f6 : Fr2 (1 * E' x k + -siz (x.adj.pow k) * 1) (1 * E' x k) 130 := ⟨by omega, by
      have := (fs.mq.add fs.mp.neg).mono (show 60 + 1 ≤ 130 by omega)
      rw [Int.one_mul, Int.mul_one]; exact this, by rw [Int.one_mul]; exact fs.mq.mono (by omega)⟩
    have e8 := fun {ρ : En} => @c8 fu (n + 1) _ _ _ _ 130 (by omega) f7 f6 (by omega) ρ
    rw [low_end hx hlt] at e8
    have f8 : Md 70 (E' x k - siz (x.adj.pow k)) := by
      have := (fs.mq.add fs.mp.neg).mono (show 60 + 1 ≤ 70 by omega)
      rw [Int.sub_eq_add_neg]; exact this
    have n8 : E' x k - siz (x.adj.pow k) ≠ 0 := by omega
    have hd := divOk_md (f8.low2 (p := Wd x k * lng S) n8) (by have := low_pos (p := Wd x k * lng S) n8; omega) (by omega)
    have hr : rch x k (lng S) = -((-(low (Wd x k * lng S) (E' x k - siz (x.adj.pow k))).1).fdiv (low (Wd x k * lng S) (E' x k - siz (x.adj.pow k))).2) := rfl
    generalize low (Wd x k * lng S) (E' x k - siz (x.adj.pow k)) = t at *
    generalize low (Wd x k * lng S) (E' x k * 1) = t1 at *
    generalize low (1 * E' x k + -siz (x.adj.pow k) * 1) (1 * E' x k) = t2 at *
    simp -dsimp [evB, evS, evR, evT, evC, evO, evAs, evDs, evIt, evPs, letRs, nrm, cnts, cnt, biD, mtOk, mtD, letR, letD, letDs, sto, binD, cmpD, Vi.truthy, esc, lenOk, idxD, isiD, Ret, outs, retR, Rv.isRef, Ob.toD, subS, putD, isNon, okD_int, okD_bool, okD_none, PyData.eqv, PyData.eqvAll, L2.ixN, gls1, at25, e25, at7, e7, at6, e6, at8, e8]
    refine k1 _ (Ev_cons fun K' k1 k2 _ _ => ?_)
    simp -dsimp [evB, evS, evR, evT, evC, evO, evAs, evDs, evIt, evPs, letRs, nrm, cnts, cnt, biD, mtOk, mtD, letR, letD, letDs, sto, binD, cmpD, Vi.truthy, esc, lenOk, idxD, isiD, Ret, outs, retR, Rv.isRef, Ob.toD, subS, putD, isNon, okD_int, okD_bool, okD_none, PyData.eqv, PyData.eqvAll, L2.ixN, hd]
    exact k2 _ _ (by simp -dsimp [evB, evS, evR, evT, evC, evO, evAs, evDs, evIt, evPs, letRs, nrm, cnts, cnt, biD, mtOk, mtD, letR, letD, letDs, sto, binD, cmpD, Vi.truthy, esc, lenOk, idxD, isiD, Ret, outs, retR, Rv.isRef, Ob.toD, subS, putD, isNon, okD_int, okD_bool, okD_none, PyData.eqv, PyData.eqvAll, L2.ixN, hr])
  · have kl2 : k < K := by
      by_cases z : k < K
      · exact z
      · have : k = K := by omega
        subst this
        exact absurd hK.lt hlt
    have e23 := fun {ρ : En} => @c23 fu n _ _ _ _ 60 (bt_one hx) (bt_pow hx (k := k) (by omega)) (by omega) ρ
    have ep : x.det * x.det ^ k = x.det ^ (k + 1) := by rw [Int.pow_succ, Int.mul_comm]
    rw [ep, show x.adj.mul (x.adj.pow k) = x.adj.pow (k + 1) from rfl] at e23
    have e24' := fun {ρ : En} => @c24 fu n _ _ 60 (bt_pow hx (k := k + 1) (by omega)) (by omega) ρ
    have e4 := fun {ρ : En} => @c4 fu (n + 1) _ _ _ _ 60 (by omega) fw (fr_size hx (k := k + 1) (by omega)) ρ
    rw [low_next hx] at e4
    rw [show ((x.det ^ (k + 1)).natAbs : Int) = E' x (k + 1) from rfl] at e24'
    simp -dsimp [evB, evS, evR, evT, evC, evO, evAs, evDs, evIt, evPs, letRs, nrm, cnts, cnt, biD, mtOk, mtD, letR, letD, letDs, sto, binD, cmpD, Vi.truthy, esc, lenOk, idxD, isiD, Ret, outs, retR, Rv.isRef, Ob.toD, subS, putD, isNon, okD_int, okD_bool, okD_none, PyData.eqv, PyData.eqvAll, L2.ixN, gls1, at9, e9, hlt, at23, e23, at24, e24', at4, e4]
    exact ⟨3 - k, by omega, k + 1, by omega, by omega, by omega, ⟨⟨rfl, rfl⟩, ⟨⟨⟨rfl, rfl⟩, rfl, rfl⟩, ⟨rfl, rfl⟩, rfl, rfl⟩, rfl, rfl⟩⟩
theorem c27 {x : M2} {S : List (List Cp)} (h : K4 x S) (hS : Full S) {K : Nat} (hK : Stop x K) (hL : Md 40 (lng S)) (hf : 10 < fu) {ρ : En} : doCall ⟨1, [], pg.sem fu (n + 7) 27⟩ [.dat (gear x S)] ρ = .ok (.dat (I (rch x K (lng S)))) ρ := by
  refine doCall_data (ds := [gear x S]) rfl rfl (Ev.sem_eq (ev27 ?_)) rfl
  have e20 := fun {ρ : En} => @c20 fu n x S h.k ρ
  have e26 := fun {ρ : En} => @c26 fu (n + 2) x S h.k.gs.gx hS K hK hL hf ρ
  unfold d27
  refine Ev_cons fun K' k1 k2 _ _ => ?_
  simp -dsimp [evB, evS, evR, evT, evC, evO, evAs, evDs, evIt, evPs, letRs, nrm, cnts, cnt, biD, mtOk, mtD, letR, letD, letDs, sto, binD, cmpD, Vi.truthy, esc, lenOk, idxD, isiD, Ret, outs, retR, Rv.isRef, Ob.toD, subS, putD, isNon, okD_int, okD_bool, okD_none, PyData.eqv, PyData.eqvAll, L2.ixN, at20, e20]
  refine k1 _ (Ev_cons fun K' k1 k2 _ _ => ?_)
  simp -dsimp [evB, evS, evR, evT, evC, evO, evAs, evDs, evIt, evPs, letRs, nrm, cnts, cnt, biD, mtOk, mtD, letR, letD, letDs, sto, binD, cmpD, Vi.truthy, esc, lenOk, idxD, isiD, Ret, outs, retR, Rv.isRef, Ob.toD, subS, putD, isNon, okD_int, okD_bool, okD_none, PyData.eqv, PyData.eqvAll, L2.ixN, at26, e26]
  exact k2 _ _ (by simp -dsimp [evB, evS, evR, evT, evC, evO, evAs, evDs, evIt, evPs, letRs, nrm, cnts, cnt, biD, mtOk, mtD, letR, letD, letDs, sto, binD, cmpD, Vi.truthy, esc, lenOk, idxD, isiD, Ret, outs, retR, Rv.isRef, Ob.toD, subS, putD, isNon, okD_int, okD_bool, okD_none, PyData.eqv, PyData.eqvAll, L2.ixN])
end Lw
set_option maxHeartbeats 4000000
namespace Lw
open PySem Vi
variable {fu n : Nat}
def Mx (ns : List Int) (m : Int) : Prop := m ∈ ns ∧ ∀ y ∈ ns, y ≤ m
theorem Mx.uniq {ns : List Int} {m k : Int} (h : Mx ns m) (g : Mx ns k) : m = k := by
  have := h.2 k g.1
  have := g.2 m h.1
  omega
theorem Mx.next {ns l : List Int} {m k : Int} (h : Mx ns m) (g : Mx (m :: l) k) : Mx (ns ++ l) k := by
  refine ⟨?_, fun y hy => ?_⟩
  · rcases List.mem_cons.mp g.1 with e | e
    · rw [e]; exact List.mem_append_left _ h.1
    · exact List.mem_append_right _ e
  · rcases List.mem_append.mp hy with e | e
    · have h1 := h.2 y e
      have h2 := g.2 m (List.mem_cons_self ..)
      omega
    · exact g.2 y (List.mem_cons_of_mem _ e)
theorem lng_zero {S : List (List Cp)} (h : Full S) {m : Int} (hm : Mx (0 :: S.flatten.map lngC) m) : m = lng S := by
  obtain ⟨_, h2, h3⟩ := lng_spec h
  have pos : ∀ y ∈ S.flatten.map lngC, 0 ≤ y := fun y hy => by
    obtain ⟨p, _, rfl⟩ := List.mem_map.mp hy
    unfold lngC; omega
  refine hm.uniq ⟨List.mem_cons_of_mem _ h2, fun y hy => ?_⟩
  rcases List.mem_cons.mp hy with rfl | hy
  · exact pos _ h2
  · exact h3 y hy
theorem md_max {S : List (List Cp)} {k : Nat} (h : Full S) (hL : Md k (lng S)) : ∀ y ∈ S.flatten.map lngC, Md k y := fun y hy => by
  have h1 := (lng_spec h).2.2 y hy
  have : 0 ≤ y := by
    obtain ⟨p, _, rfl⟩ := List.mem_map.mp hy
    unfold lngC; omega
  unfold Md at *
  omega
theorem most_loop {x : M2} {S : List (List Cp)} (h : Full S) {n : Nat} {a1 a2 a6 a7 a8 a9 a10 a11 a12 : Sl} {a3 a5 : Sl} (p5 : Plain a5) {Q : Ctl → En → Prop}
    (hq : ∀ s5, Q .nx [.dat (gear x S), a1, a2, a3, .dat (I (lng S)), s5, a6, a7, a8, a9, a10, a11, a12, .non]) :
    Ev (evS ⟨Fns pg.gd fu pg.pc.ds n, pg.gd, fu⟩ (.for (.seq (.idx (.var 0) (.con (.int 1)))) (.nm 5) [.asg (.nm 4) (.bi .max [(.bin .add (.lst [.var 4]) (.lc (.seq (.var 5)) (.nm 13) [13] none (.bi .max2 [(.bi .abs [(.idx (.idx (.var 13) (.con (.int 0))) (.con (.int 0)))]), (.bi .abs [(.idx (.idx (.var 13) (.con (.int 0))) (.con (.int 1)))])])))])])
      [.dat (gear x S), a1, a2, a3, .dat (I 0), a5, a6, a7, a8, a9, a10, a11, a12, .non]) Q := by
  refine Ev_for (xs := S.map st) (fun i ρ => ∃ m s5, Mx (0 :: (S.take i).flatten.map lngC) m ∧ Plain s5 ∧ ρ = [.dat (gear x S), a1, a2, a3, .dat (I m), s5, a6, a7, a8, a9, a10, a11, a12, .non]) (by simp -dsimp [evB, evS, evR, evT, evC, evO, evAs, evDs, evIt, evPs, letRs, nrm, cnts, cnt, biD, mtOk, mtD, letR, letD, letDs, sto, binD, cmpD, Vi.truthy, esc, lenOk, idxD, isiD, Ret, outs, retR, Rv.isRef, Ob.toD, subS, putD, isNon, okD_int, okD_bool, okD_none, PyData.eqv, PyData.eqvAll, L2.ixN, seqItems]) ⟨0, a5, by simp [Mx], p5, rfl⟩ ?_ ?_
  · rintro i e ρ hi ⟨m, s5, hm, p5, rfl⟩
    obtain ⟨L, hL, rfl⟩ : ∃ L, S[i]? = some L ∧ st L = e := by
      rw [List.getElem?_map] at hi
      exact Option.map_eq_some_iff.mp hi
    have hmem : L ∈ S := List.mem_of_getElem? hL
    have h5 : L.length ≤ 1000000 := by have := (h.all L hmem).2; omega
    have h6 : 1 + L.length ≤ 1000000 := by have := (h.all L hmem).2; omega
    obtain ⟨m', hm', hx1, hx2⟩ := mostI_spec (ns := m :: L.map lngC) (by simp)
    have hint : intsD (PyData.int m :: L.map fun p => PyData.int (lngC p)) = some (m :: L.map lngC) := by unfold intsD; rw [intsD_map lngC L]; rfl
    refine Ev_letN (ρ' := [.dat (gear x S), a1, a2, a3, .dat (I m), .dat (st L), a6, a7, a8, a9, a10, a11, a12, .non]) (by simp -dsimp [evB, evS, evR, evT, evC, evO, evAs, evDs, evIt, evPs, letRs, nrm, cnts, cnt, biD, mtOk, mtD, letR, letD, letDs, sto, binD, cmpD, Vi.truthy, esc, lenOk, idxD, isiD, Ret, outs, retR, Rv.isRef, Ob.toD, subS, putD, isNon, okD_int, okD_bool, okD_none, PyData.eqv, PyData.eqvAll, L2.ixN, p5.free]) rfl ?_
    have key2 : ∀ f : PyData → En → Rs (Option PyData), (∀ p ∈ L, f (cp p) [.dat (gear x S), a1, a2, a3, .dat (I m), .dat (st L), a6, a7, a8, a9, a10, a11, a12, .non] = .ok (some (.int (lngC p))) [.dat (gear x S), a1, a2, a3, .dat (I m), .dat (st L), a6, a7, a8, a9, a10, a11, a12, .non]) → lcL none f (L.map cp) [.dat (gear x S), a1, a2, a3, .dat (I m), .dat (st L), a6, a7, a8, a9, a10, a11, a12, .non] = .ok (L.map fun p => PyData.int (lngC p)) [.dat (gear x S), a1, a2, a3, .dat (I m), .dat (st L), a6, a7, a8, a9, a10, a11, a12, .non] := fun f hf => lc_as cp (fun p => .int (lngC p)) L hf
    refine Ev_cons fun K k1 k2 _ _ => ?_
    simp -dsimp [evB, evS, evR, evT, evC, evO, evAs, evDs, evIt, evPs, letRs, nrm, cnts, cnt, biD, mtOk, mtD, letR, letD, letDs, sto, binD, cmpD, Vi.truthy, esc, lenOk, idxD, isiD, Ret, outs, retR, Rv.isRef, Ob.toD, subS, putD, isNon, okD_int, okD_bool, okD_none, PyData.eqv, PyData.eqvAll, L2.ixN, seqItems, plainAt, wipeE, h5]
    rw [key2]
    · generalize hT : (L.map fun p => PyData.int (lngC p)) = T at *
      have hl : T.length = L.length := by rw [← hT, List.length_map]
      simp -dsimp [evB, evS, evR, evT, evC, evO, evAs, evDs, evIt, evPs, letRs, nrm, cnts, cnt, biD, mtOk, mtD, letR, letD, letDs, sto, binD, cmpD, Vi.truthy, esc, lenOk, idxD, isiD, Ret, outs, retR, Rv.isRef, Ob.toD, subS, putD, isNon, okD_int, okD_bool, okD_none, PyData.eqv, PyData.eqvAll, L2.ixN, lkOk, unl, backE, hl, h5, h6, hint, hm']
      refine k1 _ (Ev_nil ⟨m', .dat (st L), ?_, by simp, rfl⟩)
      have ht : S.take (i + 1) = S.take i ++ [L] := by
        rw [List.take_succ, hL]; rfl
      rw [ht, List.flatten_append, List.map_append]
      have := hm.next (l := L.map lngC) ⟨hx1, hx2⟩
      simpa using this
    · intro p hp
      have := max2_lng p
      simp -dsimp [evB, evS, evR, evT, evC, evO, evAs, evDs, evIt, evPs, letRs, nrm, cnts, cnt, biD, mtOk, mtD, letR, letD, letDs, sto, binD, cmpD, Vi.truthy, esc, lenOk, idxD, isiD, Ret, outs, retR, Rv.isRef, Ob.toD, subS, putD, isNon, okD_int, okD_bool, okD_none, PyData.eqv, PyData.eqvAll, L2.ixN, cp, Rs.calm, wipeE, this]
  · rintro ρ ⟨m, s5, hm, _, rfl⟩
    rw [List.length_map, List.take_length] at hm
    rw [lng_zero h hm]
    exact hq _
end Lw
set_option maxHeartbeats 4000000
namespace Lw
open PySem Vi
variable {fu n : Nat}
theorem sz_one {a : Int} {k : Nat} (h : Md k a) (h0 : a ≠ 0) (hk : k ≤ 9000) : Sz a := ⟨h0, Nat.lt_of_lt_of_le h (Nat.pow_le_pow_right (by omega) hk)⟩
theorem c47 {x : M2} {S : List (List Cp)} (hx : gdB x = true) (hS : Full S) {N : Nat} (hN : Stop x N) (hL : Md 40 (lng S)) (hf : 2 ^ 4000 < fu) {ρ : En} : doCall ⟨1, [], pg.sem fu (n + 6) 47⟩ [.dat (gear x S)] ρ = .ok (.dat (I (rch x N (lng S)))) ρ := by
  refine doCall_data (ds := [gear x S]) rfl rfl (Ev.sem_eq (ev47 ?_)) rfl
  obtain ⟨ma, mb, mc, md, _⟩ := gd_sml hx
  have sm : Sml x := ⟨(Md3 ma).mono (by omega), (Md3 mb).mono (by omega), (Md3 mc).mono (by omega), (Md3 md).mono (by omega)⟩
  have e38 := fun {ρ : En} => @c38 fu (n + 4) x sm ρ
  have hdn := det_ne hx
  have hsz := sz_one (det_md hx) hdn (by omega)
  have hlt : x.det.natAbs < fu := Nat.lt_trans (Nat.lt_of_lt_of_le (det_md hx) (Nat.pow_le_pow_right (by omega) (show 4 ≤ 4000 by omega))) hf
  have q1 := fun {ρ : En} => @c33 fu (n + 3) x.d x.det hsz hlt ρ
  have q2 := fun {ρ : En} => @c33 fu (n + 3) (-x.b) x.det hsz hlt ρ
  have q3 := fun {ρ : En} => @c33 fu (n + 3) (-x.c) x.det hsz hlt ρ
  have q4 := fun {ρ : En} => @c33 fu (n + 3) x.a x.det hsz hlt ρ
  have e45 := fun {ρ : En} => @c45 fu (n + 1) x.adj x.det 60 (bt_one hx) (by omega) hf ρ
  have hp1 := pow1 x.adj
  have h1 : (x.det.natAbs : Int) = E' x 1 := by unfold E'; rw [Int.pow_succ, Int.pow_zero, Int.one_mul]
  have hw1 : siz x.adj = Wd x 1 := by unfold Wd Wd; rw [hp1]; simp
  have hd1 : x.det ^ 1 = x.det := by rw [Int.pow_succ, Int.pow_zero, Int.one_mul]
  unfold d47
  refine Ev_cons fun K k1 k2 _ _ => ?_
  simp -dsimp [evB, evS, evR, evT, evC, evO, evAs, evDs, evIt, evPs, letRs, nrm, cnts, cnt, biD, mtOk, mtD, letR, letD, letDs, sto, binD, cmpD, Vi.truthy, esc, lenOk, idxD, isiD, Ret, outs, retR, Rv.isRef, Ob.toD, subS, putD, isNon, okD_int, okD_bool, okD_none, PyData.eqv, PyData.eqvAll, L2.ixN, at38, e38]
  refine k1 _ (Ev_cons fun K k1 k2 _ _ => ?_)
  simp -dsimp [evB, evS, evR, evT, evC, evO, evAs, evDs, evIt, evPs, letRs, nrm, cnts, cnt, biD, mtOk, mtD, letR, letD, letDs, sto, binD, cmpD, Vi.truthy, esc, lenOk, idxD, isiD, Ret, outs, retR, Rv.isRef, Ob.toD, subS, putD, isNon, okD_int, okD_bool, okD_none, PyData.eqv, PyData.eqvAll, L2.ixN, at33, q1, q2, q3, q4]
  refine k1 [.dat (gear x S), .dat (TQ x.adj x.det), .non, .non, .non, .non, .non, .dat (TM x), .dat (I x.det), .non, .non, .non, .non, .non] (Ev_cons fun K k1 k2 _ _ => ?_)
  simp -dsimp [evB, evS, evR, evT, evC, evO, evAs, evDs, evIt, evPs, letRs, nrm, cnts, cnt, biD, mtOk, mtD, letR, letD, letDs, sto, binD, cmpD, Vi.truthy, esc, lenOk, idxD, isiD, Ret, outs, retR, Rv.isRef, Ob.toD, subS, putD, isNon, okD_int, okD_bool, okD_none, PyData.eqv, PyData.eqvAll, L2.ixN, at45, e45]
  refine k1 _ (Ev_cons fun K k1 k2 _ _ => ?_)
  simp -dsimp [evB, evS, evR, evT, evC, evO, evAs, evDs, evIt, evPs, letRs, nrm, cnts, cnt, biD, mtOk, mtD, letR, letD, letDs, sto, binD, cmpD, Vi.truthy, esc, lenOk, idxD, isiD, Ret, outs, retR, Rv.isRef, Ob.toD, subS, putD, isNon, okD_int, okD_bool, okD_none, PyData.eqv, PyData.eqvAll, L2.ixN]
  refine k1 _ (Ev_cons fun K k1 k2 _ _ => ?_)
  have hr : rngD 0 400 = some ((List.range 400).map fun k => PyData.int (k : Nat)) := rng_ok (N := 400) (by omega)
  refine Ev_for (xs := (List.range 400).map fun k => PyData.int (k : Nat)) (ρ1 := [.dat (gear x S), .dat (TQ x.adj x.det), .dat (P2 (low (siz x.adj) (x.det.natAbs : Int))), .non, .non, .non, .non, .dat (TM x), .dat (I x.det), .dat (TQ x.adj x.det), .dat (P2 (low (siz x.adj) (x.det.natAbs : Int))), .non, .non, .non]) (fun i ρ => ∃ k t, k = i + 1 ∧ k ≤ N ∧ Plain t ∧ ρ = [.dat (gear x S), .dat (TQ x.adj x.det), .dat (P2 (low (siz (x.adj.pow k)) (E' x k))), t, .non, .non, .non, .dat (TM x), .dat (I x.det), .dat (TQ (x.adj.pow k) (x.det ^ k)), .dat (P2 (low (Wd x k) (E' x k))), .non, .non, .non])
    (by simp -dsimp [evB, evS, evR, evT, evC, evO, evAs, evDs, evIt, evPs, letRs, nrm, cnts, cnt, biD, mtOk, mtD, letR, letD, letDs, sto, binD, cmpD, Vi.truthy, esc, lenOk, idxD, isiD, Ret, outs, retR, Rv.isRef, Ob.toD, subS, putD, isNon, okD_int, okD_bool, okD_none, PyData.eqv, PyData.eqvAll, L2.ixN, hr]) ⟨1, .non, rfl, hN.l0, by simp, by rw [hp1, ← h1, hw1, hd1]⟩ ?_ ?_
  · rintro i e ρ hi ⟨k, t, rfl, kN, pt, rfl⟩
    have kl := hN.l1
    have fs := fr_size hx (k := i + 1) (by omega)
    have fw := fr_sum hx (k := i + 1) (by omega)
    have pE := E'_pos hx (i + 1)
    have e36 := fun {ρ : En} => @c36 fu (n + 4) _ _ _ _ 60 (by omega) fs (fr_one (by omega)) pE (by omega) ρ
    rw [low_one] at e36
    refine Ev_letN (ρ' := [.dat (gear x S), .dat (TQ x.adj x.det), .dat (P2 (low (siz (x.adj.pow (i + 1))) (E' x (i + 1)))), .dat e, .non, .non, .non, .dat (TM x), .dat (I x.det), .dat (TQ (x.adj.pow (i + 1)) (x.det ^ (i + 1))), .dat (P2 (low (Wd x (i + 1)) (E' x (i + 1)))), .non, .non, .non]) (by simp -dsimp [evB, evS, evR, evT, evC, evO, evAs, evDs, evIt, evPs, letRs, nrm, cnts, cnt, biD, mtOk, mtD, letR, letD, letDs, sto, binD, cmpD, Vi.truthy, esc, lenOk, idxD, isiD, Ret, outs, retR, Rv.isRef, Ob.toD, subS, putD, isNon, okD_int, okD_bool, okD_none, PyData.eqv, PyData.eqvAll, L2.ixN, pt.free]) rfl ?_
    by_cases hlt2 : siz (x.adj.pow (i + 1)) < E' x (i + 1)
    · have ek : i + 1 = N := by
        by_cases z : i + 1 < N
        · exact absurd hlt2 (hN.ge (i + 1) (by omega) z)
        · omega
      refine Ev_cons fun K' q1 q2 q3 q4 => ?_
      simp -dsimp [evB, evS, evR, evT, evC, evO, evAs, evDs, evIt, evPs, letRs, nrm, cnts, cnt, biD, mtOk, mtD, letR, letD, letDs, sto, binD, cmpD, Vi.truthy, esc, lenOk, idxD, isiD, Ret, outs, retR, Rv.isRef, Ob.toD, subS, putD, isNon, okD_int, okD_bool, okD_none, PyData.eqv, PyData.eqvAll, L2.ixN, at36, e36, hlt2]
      refine q3 _ ?_
      rw [ek]
      rw [ek] at fs fw pE hlt2
      clear e36 e45 q1 q2
      refine k1 _ (Ev_cons fun K k1 k2 _ _ => ?_)
      simp -dsimp [evB, evS, evR, evT, evC, evO, evAs, evDs, evIt, evPs, letRs, nrm, cnts, cnt, biD, mtOk, mtD, letR, letD, letDs, sto, binD, cmpD, Vi.truthy, esc, lenOk, idxD, isiD, Ret, outs, retR, Rv.isRef, Ob.toD, subS, putD, isNon, okD_int, okD_bool, okD_none, PyData.eqv, PyData.eqvAll, L2.ixN]
      refine k1 _ (Ev_cons fun K k1 k2 _ _ => ?_)
      refine most_loop hS (by simp) fun s5 => ?_
      refine k1 _ (Ev_cons fun K k1 k2 _ _ => ?_)
      have e35 := fun {ρ : En} => @c35 fu (n + 2) _ _ _ _ 60 (by omega) fw (fr_int (hL.mono (by omega)) (by omega)) hf ρ
      rw [low_one] at e35
      have fsn : Fr2 (-siz (x.adj.pow N)) (E' x N) 60 := ⟨fs.hq, fs.mp.neg, fs.mq⟩
      have e34 := fun {ρ : En} => @c34 fu (n + 2) _ _ _ _ 60 (by omega) (fr_one (by omega)) fsn hf ρ
      rw [low_one, ← low_neg _ _ fs.hq] at e34
      have fL : Fr2 (lng S) 1 60 := fr_int (hL.mono (by omega)) (by omega)
      have f7 := (fw.mul fL).mono (show 60 + 60 ≤ 130 by omega)
      have f6 : Fr2 (1 * E' x N + -siz (x.adj.pow N) * 1) (1 * E' x N) 130 := ⟨by omega, by
        have := (fs.mq.add fs.mp.neg).mono (show 60 + 1 ≤ 130 by omega)
        rw [Int.one_mul, Int.mul_one]; exact this, by rw [Int.one_mul]; exact fs.mq.mono (by omega)⟩
      have r0 : 1 * E' x N + -siz (x.adj.pow N) * 1 ≠ 0 := by omega
      have dv := low_div (p := Wd x N * lng S) f7.hq f6.hq r0
      rw [low_end hx hlt2] at dv
      obtain ⟨a1, a2, a3⟩ := f7.lo
      obtain ⟨b1, b2, b3⟩ := f6.lo
      have nz : (low (1 * E' x N + -siz (x.adj.pow N) * 1) (1 * E' x N)).1 ≠ 0 := fun z => by
        obtain ⟨g, g0, g1, g2⟩ := low_g (p := 1 * E' x N + -siz (x.adj.pow N) * 1) f6.hq
        rw [z] at g1
        omega
      have e33 := fun {ρ : En} => @c33 fu (n + 3) ((low (Wd x N * lng S) (E' x N * 1)).1 * (low (1 * E' x N + -siz (x.adj.pow N) * 1) (1 * E' x N)).2) _ (sz_md (by omega) nz a2 b1 (by omega)) (lt_fu a2 b1 (by omega) hf) ρ
      rw [dv] at e33
      have g1 := big_md a1 b2 (by omega)
      have g2 := big_md a2 b1 (by omega)
      have f8 : Md 70 (E' x N - siz (x.adj.pow N)) := by
        have := (fs.mq.add fs.mp.neg).mono (show 60 + 1 ≤ 70 by omega)
        rw [Int.sub_eq_add_neg]; exact this
      have n8 : E' x N - siz (x.adj.pow N) ≠ 0 := by omega
      have hd := divOk_md (f8.low2 (p := Wd x N * lng S) n8) (by have := low_pos (p := Wd x N * lng S) n8; omega) (by omega)
      have hr : rch x N (lng S) = -((-(low (Wd x N * lng S) (E' x N - siz (x.adj.pow N))).1).fdiv (low (Wd x N * lng S) (E' x N - siz (x.adj.pow N))).2) := rfl
      clear dv a1 a2 a3 b1 b2 b3 nz
      generalize low (Wd x N * lng S) (E' x N - siz (x.adj.pow N)) = t0 at *
      generalize low (Wd x N * lng S) (E' x N * 1) = t1 at *
      generalize low (1 * E' x N + -siz (x.adj.pow N) * 1) (1 * E' x N) = t2 at *
      generalize low (Wd x N) (E' x N) = t3 at *
      generalize low (siz (x.adj.pow N)) (E' x N) = t4 at *
      simp -dsimp [evB, evS, evR, evT, evC, evO, evAs, evDs, evIt, evPs, letRs, nrm, cnts, cnt, biD, mtOk, mtD, letR, letD, letDs, sto, binD, cmpD, Vi.truthy, esc, lenOk, idxD, isiD, Ret, outs, retR, Rv.isRef, Ob.toD, subS, putD, isNon, okD_int, okD_bool, okD_none, PyData.eqv, PyData.eqvAll, L2.ixN, at35, e35, at34, e34]
      refine k1 _ (Ev_cons fun K k1 k2 _ _ => ?_)
      simp -dsimp [evB, evS, evR, evT, evC, evO, evAs, evDs, evIt, evPs, letRs, nrm, cnts, cnt, biD, mtOk, mtD, letR, letD, letDs, sto, binD, cmpD, Vi.truthy, esc, lenOk, idxD, isiD, Ret, outs, retR, Rv.isRef, Ob.toD, subS, putD, isNon, okD_int, okD_bool, okD_none, PyData.eqv, PyData.eqvAll, L2.ixN, g1, g2, at33, e33]
      refine k1 _ (Ev_cons fun K k1 k2 _ _ => ?_)
      simp -dsimp [evB, evS, evR, evT, evC, evO, evAs, evDs, evIt, evPs, letRs, nrm, cnts, cnt, biD, mtOk, mtD, letR, letD, letDs, sto, binD, cmpD, Vi.truthy, esc, lenOk, idxD, isiD, Ret, outs, retR, Rv.isRef, Ob.toD, subS, putD, isNon, okD_int, okD_bool, okD_none, PyData.eqv, PyData.eqvAll, L2.ixN, hd]
      exact k2 _ _ (by simp -dsimp [evB, evS, evR, evT, evC, evO, evAs, evDs, evIt, evPs, letRs, nrm, cnts, cnt, biD, mtOk, mtD, letR, letD, letDs, sto, binD, cmpD, Vi.truthy, esc, lenOk, idxD, isiD, Ret, outs, retR, Rv.isRef, Ob.toD, subS, putD, isNon, okD_int, okD_bool, okD_none, PyData.eqv, PyData.eqvAll, L2.ixN, hr])
    · have kl2 : i + 1 < N := by
        by_cases z : i + 1 < N
        · exact z
        · have : i + 1 = N := by omega
          rw [this] at hlt2
          exact absurd hN.lt hlt2
      have b1 := bt_one hx
      have bk := bt_pow hx (k := i + 1) (by omega)
      have e46 := fun {ρ : En} => @c46 fu (n + 1) _ _ _ _ _ 60 b1 bk.a bk.b (by omega) hf ρ
      have e46' := fun {ρ : En} => @c46 fu (n + 1) _ _ _ _ _ 60 b1 bk.c bk.d (by omega) hf ρ
      have pc := pow_comm x.adj (i + 1)
      have pa := congrArg M2.a pc
      have pb := congrArg M2.b pc
      have pcc := congrArg M2.c pc
      have pd := congrArg M2.d pc
      rw [show x.adj.mul (x.adj.pow (i + 1)) = x.adj.pow (i + 2) from rfl] at pa pb pcc pd
      unfold M2.mul at pa pb pcc pd
      simp only [] at pa pb pcc pd
      rw [pa, pb, ← Int.pow_succ] at e46
      rw [pcc, pd, ← Int.pow_succ] at e46'
      have e45' := fun {ρ : En} => @c45 fu (n + 1) _ _ 60 (bt_pow hx (k := i + 2) (by omega)) (by omega) hf ρ
      rw [show ((x.det ^ (i + 2)).natAbs : Int) = E' x (i + 2) from rfl] at e45'
      have e34 := fun {ρ : En} => @c34 fu (n + 2) _ _ _ _ 60 (by omega) fw (fr_size hx (k := i + 2) (by omega)) hf ρ
      rw [show i + 2 = i + 1 + 1 from rfl, low_next hx] at e34
      refine Ev_cons fun K' q1 q2 q3 q4 => ?_
      simp -dsimp [evB, evS, evR, evT, evC, evO, evAs, evDs, evIt, evPs, letRs, nrm, cnts, cnt, biD, mtOk, mtD, letR, letD, letDs, sto, binD, cmpD, Vi.truthy, esc, lenOk, idxD, isiD, Ret, outs, retR, Rv.isRef, Ob.toD, subS, putD, isNon, okD_int, okD_bool, okD_none, PyData.eqv, PyData.eqvAll, L2.ixN, at36, e36, hlt2]
      refine q1 _ (Ev_cons fun K' q1 q2 q3 q4 => ?_)
      simp -dsimp [evB, evS, evR, evT, evC, evO, evAs, evDs, evIt, evPs, letRs, nrm, cnts, cnt, biD, mtOk, mtD, letR, letD, letDs, sto, binD, cmpD, Vi.truthy, esc, lenOk, idxD, isiD, Ret, outs, retR, Rv.isRef, Ob.toD, subS, putD, isNon, okD_int, okD_bool, okD_none, PyData.eqv, PyData.eqvAll, L2.ixN, at46, e46, e46']
      refine q1 [.dat (gear x S), .dat (TQ x.adj x.det), .dat (P2 (low (siz (x.adj.pow (i + 1))) (E' x (i + 1)))), .dat e, .non, .non, .non, .dat (TM x), .dat (I x.det), .dat (TQ (x.adj.pow (i + 2)) (x.det ^ (i + 2))), .dat (P2 (low (Wd x (i + 1)) (E' x (i + 1)))), .non, .non, .non] (Ev_cons fun K' q1 q2 q3 q4 => ?_)
      simp -dsimp [evB, evS, evR, evT, evC, evO, evAs, evDs, evIt, evPs, letRs, nrm, cnts, cnt, biD, mtOk, mtD, letR, letD, letDs, sto, binD, cmpD, Vi.truthy, esc, lenOk, idxD, isiD, Ret, outs, retR, Rv.isRef, Ob.toD, subS, putD, isNon, okD_int, okD_bool, okD_none, PyData.eqv, PyData.eqvAll, L2.ixN, at45, e45']
      refine q1 _ (Ev_cons fun K' q1 q2 q3 q4 => ?_)
      simp -dsimp [evB, evS, evR, evT, evC, evO, evAs, evDs, evIt, evPs, letRs, nrm, cnts, cnt, biD, mtOk, mtD, letR, letD, letDs, sto, binD, cmpD, Vi.truthy, esc, lenOk, idxD, isiD, Ret, outs, retR, Rv.isRef, Ob.toD, subS, putD, isNon, okD_int, okD_bool, okD_none, PyData.eqv, PyData.eqvAll, L2.ixN, at34, e34]
      exact q1 _ (Ev_nil ⟨i + 2, .dat e, rfl, by omega, by simp, rfl⟩)
  · rintro ρ ⟨k, t, rfl, kN, _, rfl⟩
    have := hN.l1
    simp at kN
    omega
end Lw
set_option maxHeartbeats 4000000
namespace Lw
open PySem Vi
variable {fu n : Nat}
inductive Rh (S : List (List Cp)) (s : Int) : Int → Prop
  | me : Rh S s s
  | on {t : Int} {p : Cp} : Rh S s t → p ∈ sOf S t → Rh S s p.g
theorem Rh.st {x : M2} {S : List (List Cp)} (k : Kt x S) {s t : Int} (hs : St S s) (h : Rh S s t) : St S t := by
  induction h with
  | me => exact hs
  | on ht hp ih => exact (k.ok _ (sOf_mem ih)).2.2 _ hp
structure Led (S : List (List Cp)) (s : Int) (F : List Int) : Prop where
  nd : F.Nodup
  all : ∀ t, t ∈ F ↔ Rh S s t
theorem Led.of {S : List (List Cp)} {s : Int} {F : List Int} (nd : F.Nodup) (h1 : ∀ t ∈ F, Rh S s t) (h2 : s ∈ F) (h3 : ∀ t ∈ F, ∀ p ∈ sOf S t, p.g ∈ F) : Led S s F := ⟨nd, fun t => ⟨h1 t, fun h => by
  induction h with
  | me => exact h2
  | on _ hp ih => exact h3 _ ih _ hp⟩⟩
def sortI (L : List Int) : List Int := L.mergeSort fun a b => !decide (b < a)
theorem sortD_int (L : List Int) : sortD (L.map .int) = (sortI L).map .int := by
  unfold sortD sortI
  rw [List.map_mergeSort (s := fun a b => !PySem.W.dataLt b a) (fun a _ b _ => by rw [PySem.W.dataLt_int])]
theorem sortI_mem {L : List Int} {t : Int} : t ∈ sortI L ↔ t ∈ L := List.mem_mergeSort
theorem sortI_len (L : List Int) : (sortI L).length = L.length := List.length_mergeSort _
theorem sortI_one {L M : List Int} (p : L.Perm M) : sortI L = sortI M := by
  have p1 : (sortI L).Perm L := List.mergeSort_perm _ _
  have p2 : (sortI M).Perm M := List.mergeSort_perm _ _
  have tr : ∀ a b c : Int, (!decide (b < a)) = true → (!decide (c < b)) = true → (!decide (c < a)) = true := fun a b c h1 h2 => by simp at *; omega
  have to : ∀ a b : Int, ((!decide (b < a)) || !decide (a < b)) = true := fun a b => by simp; omega
  refine List.Perm.eq_of_pairwise (le := fun a b => (!decide (b < a)) = true) (fun a b _ _ h1 h2 => ?_) (List.pairwise_mergeSort tr to L) (List.pairwise_mergeSort tr to M) (p1.trans (p.trans p2.symm))
  simp at h1 h2
  omega
theorem Led.sort {S : List (List Cp)} {s : Int} {F G : List Int} (h : Led S s F) (g : Led S s G) : sortI F = sortI G :=
  sortI_one ((List.perm_ext_iff_of_nodup h.nd g.nd).mpr fun t => (h.all t).trans (g.all t).symm)
theorem sortOk_int {L : List Int} (hl : L.length ≤ 1000) (hw : ∀ i ∈ L, i.natAbs < 2 ^ 63) : sortOk (L.map .int) = true := by
  have h1 : (L.map PyData.int).length ≤ 1000000 := by rw [List.length_map]; omega
  unfold sortOk lenOk
  simp only [decide_eq_true h1, Bool.true_and, Bool.and_eq_true, Bool.or_eq_true]
  refine ⟨⟨?_, .inr ?_⟩, ?_⟩
  · simp [PySem.W.alike]
  · simp [ntupB]
  · simp only [List.all_map, List.all_eq_true]
    intro i hi
    exact Pl.ok (m := 1) (.int (hw i hi)) (by decide)
theorem st_small {x : M2} {S : List (List Cp)} (k : Kt x S) {t : Int} (h : St S t) : t.natAbs < 2 ^ 63 := by
  have := k.l
  obtain ⟨h0, h1⟩ := h
  omega
theorem at_int {F : List Int} {i : Nat} (h : i < F.length) : atD (F.map PyData.int) (i : Int) = some (I (F.getD i 0)) := by
  rw [atD_nat, List.getElem?_map, List.getElem?_eq_getElem h]
  simp [List.getD_eq_getElem?_getD, List.getElem?_eq_getElem h]
theorem getD_app {F G : List Int} {j : Nat} (h : j < F.length) : (F ++ G).getD j 0 = F.getD j 0 := by
  rw [List.getD_eq_getElem?_getD, List.getD_eq_getElem?_getD, List.getElem?_append_left h]
structure Fnd (S : List (List Cp)) (s : Int) (F : List Int) : Prop where
  nd : F.Nodup
  rh : ∀ t ∈ F, Rh S s t
  me : s ∈ F
theorem Fnd.st {x : M2} {S : List (List Cp)} (k : Kt x S) {s : Int} (hs : St S s) {F : List Int} (h : Fnd S s F) : ∀ t ∈ F, St S t := fun t ht => (h.rh t ht).st k hs
theorem Fnd.len {x : M2} {S : List (List Cp)} (k : Kt x S) {s : Int} (hs : St S s) {F : List Int} (h : Fnd S s F) : F.length ≤ S.length := nodup_le h.nd fun t ht => h.st k hs t ht
theorem c28 {x : M2} {S : List (List Cp)} (k : Kt x S) {s : Int} (hs : St S s) (hf : 5 ≤ fu) :
    Ev (pg.sem fu (n + 1) 28 [.dat (gear x S), .dat (I s)]) fun r os => ∃ F, r = .new (.lst (F.map .int)) ∧ os = [.dat (gear x S), .dat (I s)] ∧ Led S s F := by
  refine ev28 ?_
  unfold d28
  refine Ev_cons fun K k1 k2 _ _ => ?_
  simp -dsimp [evB, evS, evR, evT, evC, evO, evAs, evDs, evIt, evPs, letRs, nrm, cnts, cnt, biD, mtOk, mtD, letR, letD, letDs, sto, binD, cmpD, Vi.truthy, esc, lenOk, idxD, isiD, Ret, outs, retR, Rv.isRef, Ob.toD, subS, putD, isNon, okD_int, okD_bool, okD_none, PyData.eqv, PyData.eqvAll, L2.ixN]
  refine k1 _ (Ev_cons fun KW kw1 kw2 _ _ => ?_)
  refine Ev_whl (fun m ρ => ∃ F i s4 s5, ρ = [.dat (gear x S), .dat (I s), .own .loc (.lst (F.map .int)), .dat (I (i : Nat)), s4, s5] ∧ Plain s4 ∧ Plain s5 ∧ Fnd S s F ∧ i ≤ F.length ∧ (∀ j, j < i → ∀ p ∈ sOf S (F.getD j 0), p.g ∈ F) ∧ m = S.length - i) S.length
    ⟨[s], 0, .non, .non, rfl, by simp, by simp, ⟨by simp, fun t ht => by rw [List.mem_singleton.mp ht]; exact .me, by simp⟩, by simp, fun j hj => by omega, by omega⟩ (by have := k.l; show S.length < fu; omega) ?_
  rintro m ρ ⟨F, i, s4, s5, rfl, p4, p5, fnd, il, done, rfl⟩
  have fl := fnd.len k hs
  have kl := k.l
  by_cases hlt : i < F.length
  · have hc : (i : Int) < (F.length : Int) := by omega
    refine Ev.of_eq (a := true) (ρ := [.dat (gear x S), .dat (I s), .own .loc (.lst (F.map .int)), .dat (I (i : Nat)), s4, s5]) (by simp -dsimp [evB, evS, evR, evT, evC, evO, evAs, evDs, evIt, evPs, letRs, nrm, cnts, cnt, biD, mtOk, mtD, letR, letD, letDs, sto, binD, cmpD, Vi.truthy, esc, lenOk, idxD, isiD, Ret, outs, retR, Rv.isRef, Ob.toD, subS, putD, isNon, okD_int, okD_bool, okD_none, PyData.eqv, PyData.eqvAll, L2.ixN, hc, hlt]) ?_
    rw [if_pos rfl]
    have hmem : F.getD i 0 ∈ F := getD_mem' 0 hlt
    have hst := fnd.st k hs _ hmem
    have hss := at_st hst
    have hat := at_int hlt
    generalize ht : F.getD i 0 = t at *
    refine Ev_cons fun K k1 k2 _ _ => ?_
    refine Ev_for (xs := (sOf S t).map cp) (ρ1 := [.dat (gear x S), .dat (I s), .own .loc (.lst (F.map .int)), .dat (I (i : Nat)), s4, s5]) (fun j ρ => ∃ F' s4 s5, ρ = [.dat (gear x S), .dat (I s), .own .loc (.lst ((F ++ F').map .int)), .dat (I (i : Nat)), s4, s5] ∧ Plain s4 ∧ Plain s5 ∧ Fnd S s (F ++ F') ∧ ∀ p ∈ (sOf S t).take j, p.g ∈ F ++ F')
      (by simp -dsimp [evB, evS, evR, evT, evC, evO, evAs, evDs, evIt, evPs, letRs, nrm, cnts, cnt, biD, mtOk, mtD, letR, letD, letDs, sto, binD, cmpD, Vi.truthy, esc, lenOk, idxD, isiD, Ret, outs, retR, Rv.isRef, Ob.toD, subS, putD, isNon, okD_int, okD_bool, okD_none, PyData.eqv, PyData.eqvAll, L2.ixN, hat, hss, seqItems]) ⟨[], s4, s5, by rw [List.append_nil], p4, p5, by rw [List.append_nil]; exact fnd, by simp⟩ ?_ ?_
    · rintro j e ρ hj ⟨F', s4, s5, rfl, p4, p5, fn', hp⟩
      rw [List.getElem?_map] at hj
      obtain ⟨p, hp1, rfl⟩ := Option.map_eq_some_iff.mp hj
      have pm : p ∈ sOf S t := List.mem_of_getElem? hp1
      have tk : (sOf S t).take (j + 1) = (sOf S t).take j ++ [p] := by rw [List.take_succ, hp1]; rfl
      refine Ev.of_eq (a := ()) (ρ := [.dat (gear x S), .dat (I s), .own .loc (.lst ((F ++ F').map .int)), .dat (I (i : Nat)), .dat (OO (p.x, p.y)), .dat (I p.g)]) (by simp -dsimp [evB, evS, evR, evT, evC, evO, evAs, evDs, evIt, evPs, letRs, nrm, cnts, cnt, biD, mtOk, mtD, letR, letD, letDs, sto, binD, cmpD, Vi.truthy, esc, lenOk, idxD, isiD, Ret, outs, retR, Rv.isRef, Ob.toD, subS, putD, isNon, okD_int, okD_bool, okD_none, PyData.eqv, PyData.eqvAll, L2.ixN, cp, p4.free, p5.free]) ?_
      have fl2 := fn'.len k hs
      have h2 : okD (.list ((F ++ F').map .int)) = true := okD_list (by omega) fun t ht => st_small k (fn'.st k hs t ht)
      have h1 : okD (I p.g) = true := rfl
      have hany := any_int (F ++ F') p.g
      have hln : (F ++ F').length ≤ 1000000 := by omega
      generalize hM : F ++ F' = M at *
      refine Ev_cons fun K q1 q2 _ _ => ?_
      by_cases hin : p.g ∈ M
      · refine Ev_iff (k := false) (ρ1 := [.dat (gear x S), .dat (I s), .own .loc (.lst (M.map .int)), .dat (I (i : Nat)), .dat (OO (p.x, p.y)), .dat (I p.g)]) (by simp -dsimp [evB, evS, evR, evT, evC, evO, evAs, evDs, evIt, evPs, letRs, nrm, cnts, cnt, biD, mtOk, mtD, letR, letD, letDs, sto, binD, cmpD, Vi.truthy, esc, lenOk, idxD, isiD, Ret, outs, retR, Rv.isRef, Ob.toD, subS, putD, isNon, okD_int, okD_bool, okD_none, PyData.eqv, PyData.eqvAll, L2.ixN, h1, h2, hany, hin]) ?_
        rw [if_neg (by decide)]
        refine Ev_nil (q1 _ (Ev_nil ⟨F', _, _, by rw [hM], by simp, by simp, by rw [hM]; exact fn', fun q hq => ?_⟩))
        rw [hM]
        rw [tk] at hq
        rcases List.mem_append.mp hq with hq | hq
        · exact hp q hq
        · rw [List.mem_singleton.mp hq]; exact hin
      · refine Ev_iff (k := true) (ρ1 := [.dat (gear x S), .dat (I s), .own .loc (.lst (M.map .int)), .dat (I (i : Nat)), .dat (OO (p.x, p.y)), .dat (I p.g)]) (by simp -dsimp [evB, evS, evR, evT, evC, evO, evAs, evDs, evIt, evPs, letRs, nrm, cnts, cnt, biD, mtOk, mtD, letR, letD, letDs, sto, binD, cmpD, Vi.truthy, esc, lenOk, idxD, isiD, Ret, outs, retR, Rv.isRef, Ob.toD, subS, putD, isNon, okD_int, okD_bool, okD_none, PyData.eqv, PyData.eqvAll, L2.ixN, h1, h2, hany, hin]) ?_
        rw [if_pos rfl]
        refine Ev_cons fun K' r1 r2 _ _ => ?_
        simp -dsimp [evB, evS, evR, evT, evC, evO, evAs, evDs, evIt, evPs, letRs, nrm, cnts, cnt, biD, mtOk, mtD, letR, letD, letDs, sto, binD, cmpD, Vi.truthy, esc, lenOk, idxD, isiD, Ret, outs, retR, Rv.isRef, Ob.toD, subS, putD, isNon, okD_int, okD_bool, okD_none, PyData.eqv, PyData.eqvAll, L2.ixN, hln]
        have hM2 : F ++ (F' ++ [p.g]) = M ++ [p.g] := by rw [← hM, List.append_assoc]
        refine r1 _ (Ev_nil (q1 _ (Ev_nil ⟨F' ++ [p.g], .dat (OO (p.x, p.y)), .dat (I p.g), ?_, by simp, by simp, ?_, fun q hq => ?_⟩)))
        · rw [hM2, List.map_append]; rfl
        · rw [hM2]
          refine ⟨List.nodup_append.mpr ⟨fn'.nd, by simp, fun a ha b hb e => ?_⟩, fun t' ht' => ?_, List.mem_append_left _ fn'.me⟩
          · rw [List.mem_singleton.mp hb] at e
            rw [e] at ha
            exact hin ha
          · rcases List.mem_append.mp ht' with h | h
            · exact fn'.rh _ h
            · rw [List.mem_singleton.mp h]
              exact .on (fnd.rh t hmem) pm
        · rw [hM2]
          rw [tk] at hq
          rcases List.mem_append.mp hq with hq | hq
          · exact List.mem_append_left _ (hp q hq)
          · rw [List.mem_singleton.mp hq]; simp
    · rintro ρ ⟨F', s4, s5, rfl, p4, p5, fn', hp⟩
      rw [List.length_map, List.take_length] at hp
      refine k1 _ (Ev_cons fun K k1 k2 _ _ => ?_)
      simp -dsimp [evB, evS, evR, evT, evC, evO, evAs, evDs, evIt, evPs, letRs, nrm, cnts, cnt, biD, mtOk, mtD, letR, letD, letDs, sto, binD, cmpD, Vi.truthy, esc, lenOk, idxD, isiD, Ret, outs, retR, Rv.isRef, Ob.toD, subS, putD, isNon, okD_int, okD_bool, okD_none, PyData.eqv, PyData.eqvAll, L2.ixN]
      refine k1 _ (Ev_nil ⟨S.length - (i + 1), by omega, F ++ F', i + 1, s4, s5, by simp, p4, p5, fn', by rw [List.length_append]; omega, fun j hj q hq => ?_, rfl⟩)
      by_cases ej : j = i
      · subst ej
        rw [getD_app hlt, ht] at hq
        exact hp q hq
      · rw [getD_app (by omega)] at hq
        exact List.mem_append_left _ (done j (by omega) q hq)
  · have hc : ¬ (i : Int) < (F.length : Int) := by omega
    refine Ev.of_eq (a := false) (ρ := [.dat (gear x S), .dat (I s), .own .loc (.lst (F.map .int)), .dat (I (i : Nat)), s4, s5]) (by simp -dsimp [evB, evS, evR, evT, evC, evO, evAs, evDs, evIt, evPs, letRs, nrm, cnts, cnt, biD, mtOk, mtD, letR, letD, letDs, sto, binD, cmpD, Vi.truthy, esc, lenOk, idxD, isiD, Ret, outs, retR, Rv.isRef, Ob.toD, subS, putD, isNon, okD_int, okD_bool, okD_none, PyData.eqv, PyData.eqvAll, L2.ixN, hc, hlt]) ?_
    rw [if_neg (by decide)]
    refine kw1 _ (Ev_cons fun K k1 k2 _ _ => ?_)
    simp -dsimp [evB, evS, evR, evT, evC, evO, evAs, evDs, evIt, evPs, letRs, nrm, cnts, cnt, biD, mtOk, mtD, letR, letD, letDs, sto, binD, cmpD, Vi.truthy, esc, lenOk, idxD, isiD, Ret, outs, retR, Rv.isRef, Ob.toD, subS, putD, isNon, okD_int, okD_bool, okD_none, PyData.eqv, PyData.eqvAll, L2.ixN]
    refine k2 _ _ ?_
    simp -dsimp [evB, evS, evR, evT, evC, evO, evAs, evDs, evIt, evPs, letRs, nrm, cnts, cnt, biD, mtOk, mtD, letR, letD, letDs, sto, binD, cmpD, Vi.truthy, esc, lenOk, idxD, isiD, Ret, outs, retR, Rv.isRef, Ob.toD, subS, putD, isNon, okD_int, okD_bool, okD_none, PyData.eqv, PyData.eqvAll, L2.ixN]
    refine ⟨F, rfl, Led.of fnd.nd fnd.rh fnd.me fun t ht p hp => ?_⟩
    obtain ⟨j, hj, rfl⟩ := List.getElem_of_mem ht
    refine done j (by omega) p ?_
    rw [List.getD_eq_getElem?_getD, List.getElem?_eq_getElem hj]
    exact hp
theorem told28 {x : M2} {S : List (List Cp)} (k : Kt x S) {s : Int} (hs : St S s) (hf : 5 ≤ fu) : ∃ F, Led S s F ∧ ∀ {ρ : En}, doCall ⟨2, [], pg.sem fu (n + 1) 28⟩ [.dat (gear x S), .dat (I s)] ρ = .ok (.new (.lst (F.map .int))) ρ := by
  obtain ⟨r, os, e, F, rfl, rfl, h⟩ := (c28 (fu := fu) (n := n) k hs hf).eq
  exact ⟨F, h, fun {ρ} => doCall_data (ds := [gear x S, I s]) rfl rfl e rfl⟩
theorem c29 {x : M2} {S : List (List Cp)} (k : Kt x S) {s : Int} (hs : St S s) (hf : 5 ≤ fu) : ∃ F, Led S s F ∧ ∀ {ρ : En}, doCall ⟨2, [], pg.sem fu (n + 7) 29⟩ [.dat (gear x S), .dat (I s)] ρ = .ok (.dat (row (sortI F))) ρ := by
  obtain ⟨F, h, e28⟩ := told28 (fu := fu) (n := n + 5) k hs hf
  refine ⟨F, h, fun {ρ} => ?_⟩
  refine doCall_data (ds := [gear x S, I s]) rfl rfl (Ev.sem_eq (ev29 ?_)) rfl
  have e20 := fun {ρ : En} => @c20 fu n x S k ρ
  have e21 := fun {ρ : En} => @c21 fu (n + 4) x S s hs ρ
  have kl := k.l
  have fl : F.length ≤ 1000 := by
    have := nodup_le (N := S.length) h.nd fun t ht => ((h.all t).mp ht).st k hs
    omega
  have hso := sortOk_int fl fun t ht => st_small k (((h.all t).mp ht).st k hs)
  have hsd := sortD_int F
  have hl2 : (sortI F).length ≤ 1000000 := by rw [sortI_len]; omega
  unfold d29
  refine Ev_cons fun K k1 k2 _ _ => ?_
  simp -dsimp [evB, evS, evR, evT, evC, evO, evAs, evDs, evIt, evPs, letRs, nrm, cnts, cnt, biD, mtOk, mtD, letR, letD, letDs, sto, binD, cmpD, Vi.truthy, esc, lenOk, idxD, isiD, Ret, outs, retR, Rv.isRef, Ob.toD, subS, putD, isNon, okD_int, okD_bool, okD_none, PyData.eqv, PyData.eqvAll, L2.ixN, at20, e20]
  refine k1 _ (Ev_cons fun K k1 k2 _ _ => ?_)
  simp -dsimp [evB, evS, evR, evT, evC, evO, evAs, evDs, evIt, evPs, letRs, nrm, cnts, cnt, biD, mtOk, mtD, letR, letD, letDs, sto, binD, cmpD, Vi.truthy, esc, lenOk, idxD, isiD, Ret, outs, retR, Rv.isRef, Ob.toD, subS, putD, isNon, okD_int, okD_bool, okD_none, PyData.eqv, PyData.eqvAll, L2.ixN, at21, e21]
  refine k1 _ (Ev_cons fun K k1 k2 _ _ => ?_)
  generalize F.map PyData.int = T at *
  simp -dsimp [evB, evS, evR, evT, evC, evO, evAs, evDs, evIt, evPs, letRs, nrm, cnts, cnt, biD, mtOk, mtD, letR, letD, letDs, sto, binD, cmpD, Vi.truthy, esc, lenOk, idxD, isiD, Ret, outs, retR, Rv.isRef, Ob.toD, subS, putD, isNon, okD_int, okD_bool, okD_none, PyData.eqv, PyData.eqvAll, L2.ixN, at28, e28, hso, hsd]
  exact k2 _ _ (by simp -dsimp [evB, evS, evR, evT, evC, evO, evAs, evDs, evIt, evPs, letRs, nrm, cnts, cnt, biD, mtOk, mtD, letR, letD, letDs, sto, binD, cmpD, Vi.truthy, esc, lenOk, idxD, isiD, Ret, outs, retR, Rv.isRef, Ob.toD, subS, putD, isNon, okD_int, okD_bool, okD_none, PyData.eqv, PyData.eqvAll, L2.ixN])
end Lw
set_option maxHeartbeats 4000000
namespace Lw
open PySem Vi
variable {fu n : Nat}
def kvI (L : List Int) : List (PyData × PyData) := L.map fun i => (.int i, .bool true)
def putI (L : List Int) (i : Int) : List Int := if i ∈ L then L else L ++ [i]
theorem keyK_int (L : List Int) (i : Int) : keyK (kvI L) (.int i) = true := by
  unfold keyK kvI
  simp [isIntD]
theorem keys_int (L : List Int) : (kvI L).map (·.1) = L.map PyData.int := by unfold kvI; rw [List.map_map]; rfl
theorem putKV_int (L : List Int) (i : Int) : putKV (kvI L) (.int i) (.bool true) = kvI (putI L i) := by
  have e : ((kvI L).any fun p => PyData.eqv p.1 (.int i)) = decide (i ∈ L) := by
    rw [← any_int L i, ← keys_int L, List.any_map]; rfl
  unfold putKV putI
  rw [e]
  by_cases h : i ∈ L
  · rw [if_pos (decide_eq_true h), if_pos h]
    unfold kvI
    rw [List.map_map]
    refine List.map_congr_left fun a _ => ?_
    simp only [Function.comp]
    split <;> rfl
  · rw [if_neg (by simpa using h), if_neg h]
    unfold kvI
    rw [List.map_append]; rfl
theorem putI_sub {L : List Int} {i t : Int} (h : t ∈ L) : t ∈ putI L i := by
  unfold putI; split
  · exact h
  · exact List.mem_append_left _ h
theorem putI_me {L : List Int} {i : Int} : i ∈ putI L i := by
  unfold putI; split
  · assumption
  · simp
theorem putI_nd {L : List Int} {i : Int} (h : L.Nodup) : (putI L i).Nodup := by
  unfold putI; split
  · exact h
  · rename_i hi
    refine List.nodup_append.mpr ⟨h, by simp, fun a ha b hb e => ?_⟩
    rw [List.mem_singleton.mp hb] at e
    rw [e] at ha
    exact hi ha
structure More (S : List (List Cp)) (L0 L : List Int) : Prop where
  nd : L.Nodup
  ex : ∃ X, L = L0 ++ X ∧ ∀ t ∈ X, ∃ h ∈ L0, ∃ p ∈ sOf S h, p.g = t
theorem More.put {S : List (List Cp)} {L0 L : List Int} (m : More S L0 L) {h : Int} {p : Cp} (hh : h ∈ L0) (hp : p ∈ sOf S h) : More S L0 (putI L p.g) := by
  refine ⟨putI_nd m.nd, ?_⟩
  obtain ⟨X, e, hX⟩ := m.ex
  unfold putI
  split
  · exact ⟨X, e, hX⟩
  · refine ⟨X ++ [p.g], by rw [e, List.append_assoc], fun t ht => ?_⟩
    rcases List.mem_append.mp ht with ht | ht
    · exact hX t ht
    · rw [List.mem_singleton.mp ht]
      exact ⟨h, hh, p, hp, rfl⟩
theorem More.sub {S : List (List Cp)} {L0 L : List Int} (m : More S L0 L) {t : Int} (h : t ∈ L0) : t ∈ L := by
  obtain ⟨X, e, _⟩ := m.ex
  rw [e]; exact List.mem_append_left _ h
def Shut (S : List (List Cp)) (L : List Int) : Prop := ∀ t ∈ L, ∀ p ∈ sOf S t, p.g ∈ L
theorem More.shut {S : List (List Cp)} {L0 L : List Int} (m : More S L0 L) (h : Shut S L0) : L = L0 := by
  obtain ⟨X, e, hX⟩ := m.ex
  cases X with
  | nil => rw [e, List.append_nil]
  | cons t X =>
    obtain ⟨s, hs, p, hp, rfl⟩ := hX t (List.mem_cons_self ..)
    have nd := m.nd
    rw [e] at nd
    exact absurd rfl ((List.nodup_append.mp nd).2.2 _ (h s hs p hp) _ (List.mem_cons_self ..))
theorem More.same {S : List (List Cp)} {L0 L : List Int} (m : More S L0 L) (all : ∀ t ∈ L0, ∀ p ∈ sOf S t, p.g ∈ L) (hl : L.length ≤ L0.length) : Shut S L := by
  obtain ⟨X, e, hX⟩ := m.ex
  cases X with
  | nil =>
    rw [List.append_nil] at e
    subst e
    exact all
  | cons t X => rw [e] at hl; simp at hl; omega
theorem More.fnd {S : List (List Cp)} {s : Int} {L0 L : List Int} (m : More S L0 L) (f : Fnd S s L0) : Fnd S s L := ⟨m.nd, fun t ht => by
  obtain ⟨X, e, hX⟩ := m.ex
  rw [e] at ht
  rcases List.mem_append.mp ht with ht | ht
  · exact f.rh t ht
  · obtain ⟨h, hh, p, hp, rfl⟩ := hX t ht
    exact .on (f.rh h hh) hp, m.sub f.me⟩
theorem more_one {S : List (List Cp)} {L : List Int} (h : L.Nodup) : More S L L := ⟨h, [], by rw [List.append_nil], by simp⟩
theorem c48 {x : M2} {S : List (List Cp)} (k : Kt x S) {s : Int} (hs : St S s) : ∃ F, Led S s F ∧ ∀ {ρ : En}, doCall ⟨2, [], pg.sem fu (n + 1) 48⟩ [.dat (gear x S), .dat (I s)] ρ = .ok (.dat (row (sortI F))) ρ := by
  have key : Ev (pg.sem fu (n + 1) 48 [.dat (gear x S), .dat (I s)]) fun r os => ∃ F, r = .dat (row (sortI F)) ∧ os = [.dat (gear x S), .dat (I s)] ∧ Led S s F := by
    refine ev48 ?_
    unfold d48
    have kl := k.l
    have hl := k.gs.l0
    refine Ev_cons fun K k1 k2 _ _ => ?_
    have hk0 : keyK [] (I s) = true := rfl
    simp -dsimp [evB, evS, evR, evT, evC, evO, evAs, evDs, evIt, evPs, letRs, nrm, cnts, cnt, biD, mtOk, mtD, letR, letD, letDs, sto, binD, cmpD, Vi.truthy, esc, lenOk, idxD, isiD, Ret, outs, retR, Rv.isRef, Ob.toD, subS, putD, isNon, okD_int, okD_bool, okD_none, PyData.eqv, PyData.eqvAll, L2.ixN, hk0, Rs.calm]
    refine k1 [.dat (gear x S), .dat (I s), .own .loc (.dic (kvI [s])), .non, .non, .non] (Ev_cons fun K k1 k2 _ _ => ?_)
    have hr := rng_ok (N := S.length) (by omega)
    refine Ev_for (xs := (List.range S.length).map fun k => PyData.int (k : Nat)) (ρ1 := [.dat (gear x S), .dat (I s), .own .loc (.dic (kvI [s])), .non, .non, .non]) (fun i ρ => ∃ L s3 s4 s5, ρ = [.dat (gear x S), .dat (I s), .own .loc (.dic (kvI L)), s3, s4, s5] ∧ Plain s3 ∧ Plain s4 ∧ Plain s5 ∧ Fnd S s L ∧ (Shut S L ∨ i + 1 ≤ L.length))
      (by simp -dsimp [evB, evS, evR, evT, evC, evO, evAs, evDs, evIt, evPs, letRs, nrm, cnts, cnt, biD, mtOk, mtD, letR, letD, letDs, sto, binD, cmpD, Vi.truthy, esc, lenOk, idxD, isiD, Ret, outs, retR, Rv.isRef, Ob.toD, subS, putD, isNon, okD_int, okD_bool, okD_none, PyData.eqv, PyData.eqvAll, L2.ixN, hr]) ⟨[s], .non, .non, .non, rfl, by simp, by simp, by simp, ⟨by simp, fun t ht => by rw [List.mem_singleton.mp ht]; exact .me, by simp⟩, .inr (by simp)⟩ ?_ ?_
    · rintro i e ρ hi ⟨L0, s3, s4, s5, rfl, p3, p4, p5, fnd, hsh⟩
      have fl := fnd.len k hs
      have hso := sortOk_int (L := L0) (by omega) fun t ht => st_small k (fnd.st k hs t ht)
      have hsd := sortD_int L0
      have hkk := keys_int L0
      refine Ev_letN (ρ' := [.dat (gear x S), .dat (I s), .own .loc (.dic (kvI L0)), .dat e, s4, s5]) (by simp -dsimp [evB, evS, evR, evT, evC, evO, evAs, evDs, evIt, evPs, letRs, nrm, cnts, cnt, biD, mtOk, mtD, letR, letD, letDs, sto, binD, cmpD, Vi.truthy, esc, lenOk, idxD, isiD, Ret, outs, retR, Rv.isRef, Ob.toD, subS, putD, isNon, okD_int, okD_bool, okD_none, PyData.eqv, PyData.eqvAll, L2.ixN, p3.free]) rfl ?_
      refine Ev_cons fun K k1 k2 _ _ => ?_
      refine Ev_for (xs := (sortI L0).map PyData.int) (ρ1 := [.dat (gear x S), .dat (I s), .own .loc (.dic (kvI L0)), .dat e, s4, s5]) (fun j ρ => ∃ L s4 s5, ρ = [.dat (gear x S), .dat (I s), .own .loc (.dic (kvI L)), .dat e, s4, s5] ∧ Plain s4 ∧ Plain s5 ∧ More S L0 L ∧ ∀ t ∈ (sortI L0).take j, ∀ p ∈ sOf S t, p.g ∈ L)
        (by simp -dsimp [evB, evS, evR, evT, evC, evO, evAs, evDs, evIt, evPs, letRs, nrm, cnts, cnt, biD, mtOk, mtD, letR, letD, letDs, sto, binD, cmpD, Vi.truthy, esc, lenOk, idxD, isiD, Ret, outs, retR, Rv.isRef, Ob.toD, subS, putD, isNon, okD_int, okD_bool, okD_none, PyData.eqv, PyData.eqvAll, L2.ixN, hkk, hso, hsd, seqItems]) ⟨L0, s4, s5, rfl, p4, p5, more_one fnd.nd, by simp⟩ ?_ ?_
      · rintro j e2 ρ hj ⟨L, s4, s5, rfl, p4, p5, mo, hp⟩
        rw [List.getElem?_map] at hj
        obtain ⟨t, ht1, rfl⟩ := Option.map_eq_some_iff.mp hj
        have tm : t ∈ L0 := sortI_mem.mp (List.mem_of_getElem? ht1)
        have hst := fnd.st k hs t tm
        have hss := at_st hst
        refine Ev_letN (ρ' := [.dat (gear x S), .dat (I s), .own .loc (.dic (kvI L)), .dat e, .dat (I t), s5]) (by simp -dsimp [evB, evS, evR, evT, evC, evO, evAs, evDs, evIt, evPs, letRs, nrm, cnts, cnt, biD, mtOk, mtD, letR, letD, letDs, sto, binD, cmpD, Vi.truthy, esc, lenOk, idxD, isiD, Ret, outs, retR, Rv.isRef, Ob.toD, subS, putD, isNon, okD_int, okD_bool, okD_none, PyData.eqv, PyData.eqvAll, L2.ixN, p4.free]) rfl ?_
        refine Ev_cons fun K q1 q2 _ _ => ?_
        refine Ev_for (xs := (sOf S t).map cp) (ρ1 := [.dat (gear x S), .dat (I s), .own .loc (.dic (kvI L)), .dat e, .dat (I t), s5]) (fun i ρ => ∃ L' s5, ρ = [.dat (gear x S), .dat (I s), .own .loc (.dic (kvI L')), .dat e, .dat (I t), s5] ∧ Plain s5 ∧ More S L0 L' ∧ (∀ t ∈ L, t ∈ L') ∧ ∀ p ∈ (sOf S t).take i, p.g ∈ L')
          (by simp -dsimp [evB, evS, evR, evT, evC, evO, evAs, evDs, evIt, evPs, letRs, nrm, cnts, cnt, biD, mtOk, mtD, letR, letD, letDs, sto, binD, cmpD, Vi.truthy, esc, lenOk, idxD, isiD, Ret, outs, retR, Rv.isRef, Ob.toD, subS, putD, isNon, okD_int, okD_bool, okD_none, PyData.eqv, PyData.eqvAll, L2.ixN, hss, seqItems]) ⟨L, s5, rfl, p5, mo, fun t h => h, by simp⟩ ?_ ?_
        · rintro i2 e3 ρ hi2 ⟨L', s5, rfl, p5, mo', sub, hp'⟩
          rw [List.getElem?_map] at hi2
          obtain ⟨p, hp1, rfl⟩ := Option.map_eq_some_iff.mp hi2
          have pm : p ∈ sOf S t := List.mem_of_getElem? hp1
          have tk : (sOf S t).take (i2 + 1) = (sOf S t).take i2 ++ [p] := by rw [List.take_succ, hp1]; rfl
          have hk := keyK_int L' p.g
          have hput := putKV_int L' p.g
          have hlen : (kvI L').length ≤ 1000000 := by
            have := (mo'.fnd fnd).len k hs
            unfold kvI; rw [List.length_map]; omega
          refine Ev_letN (ρ' := [.dat (gear x S), .dat (I s), .own .loc (.dic (kvI L')), .dat e, .dat (I t), .dat (cp p)]) (by simp -dsimp [evB, evS, evR, evT, evC, evO, evAs, evDs, evIt, evPs, letRs, nrm, cnts, cnt, biD, mtOk, mtD, letR, letD, letDs, sto, binD, cmpD, Vi.truthy, esc, lenOk, idxD, isiD, Ret, outs, retR, Rv.isRef, Ob.toD, subS, putD, isNon, okD_int, okD_bool, okD_none, PyData.eqv, PyData.eqvAll, L2.ixN, p5.free]) rfl ?_
          refine Ev_cons fun K r1 r2 _ _ => ?_
          simp -dsimp [evB, evS, evR, evT, evC, evO, evAs, evDs, evIt, evPs, letRs, nrm, cnts, cnt, biD, mtOk, mtD, letR, letD, letDs, sto, binD, cmpD, Vi.truthy, esc, lenOk, idxD, isiD, Ret, outs, retR, Rv.isRef, Ob.toD, subS, putD, isNon, okD_int, okD_bool, okD_none, PyData.eqv, PyData.eqvAll, L2.ixN, cp, hk, hput, hlen]
          refine r1 _ (Ev_nil ⟨putI L' p.g, _, rfl, by simp, mo'.put tm pm, fun t h => putI_sub (sub t h), fun q hq => ?_⟩)
          rw [tk] at hq
          rcases List.mem_append.mp hq with hq | hq
          · exact putI_sub (hp' q hq)
          · rw [List.mem_singleton.mp hq]; exact putI_me
        · rintro ρ ⟨L', s5, rfl, p5, mo', sub, hp'⟩
          rw [List.length_map, List.take_length] at hp'
          refine q1 _ (Ev_nil ⟨L', _, _, rfl, by simp, p5, mo', fun t' ht' p hp2 => ?_⟩)
          have tk : (sortI L0).take (j + 1) = (sortI L0).take j ++ [t] := by rw [List.take_succ, ht1]; rfl
          rw [tk] at ht'
          rcases List.mem_append.mp ht' with h | h
          · exact sub _ (hp t' h p hp2)
          · rw [List.mem_singleton.mp h] at hp2; exact hp' p hp2
      · rintro ρ ⟨L, s4, s5, rfl, p4, p5, mo, hp⟩
        rw [List.length_map, List.take_length] at hp
        have hp : ∀ t ∈ L0, ∀ p ∈ sOf S t, p.g ∈ L := fun t ht => hp t (sortI_mem.mpr ht)
        refine k1 _ (Ev_nil ⟨L, _, _, _, rfl, by simp, p4, p5, mo.fnd fnd, ?_⟩)
        rcases hsh with h | h
        · rw [mo.shut h]; exact .inl h
        · by_cases hlen : L.length ≤ L0.length
          · exact .inl (mo.same hp hlen)
          · exact .inr (by omega)
    · rintro ρ ⟨L, s3, s4, s5, rfl, p3, p4, p5, fnd, hsh⟩
      rw [List.length_map, List.length_range] at hsh
      have fl := fnd.len k hs
      have sh : Shut S L := hsh.resolve_right (by omega)
      have hso := sortOk_int (L := L) (by omega) fun t ht => st_small k (fnd.st k hs t ht)
      have hsd := sortD_int L
      have hkk := keys_int L
      refine k1 _ (Ev_cons fun K k1 k2 _ _ => ?_)
      simp -dsimp [evB, evS, evR, evT, evC, evO, evAs, evDs, evIt, evPs, letRs, nrm, cnts, cnt, biD, mtOk, mtD, letR, letD, letDs, sto, binD, cmpD, Vi.truthy, esc, lenOk, idxD, isiD, Ret, outs, retR, Rv.isRef, Ob.toD, subS, putD, isNon, okD_int, okD_bool, okD_none, PyData.eqv, PyData.eqvAll, L2.ixN, hkk, hso, hsd]
      refine k2 _ _ ?_
      simp -dsimp [evB, evS, evR, evT, evC, evO, evAs, evDs, evIt, evPs, letRs, nrm, cnts, cnt, biD, mtOk, mtD, letR, letD, letDs, sto, binD, cmpD, Vi.truthy, esc, lenOk, idxD, isiD, Ret, outs, retR, Rv.isRef, Ob.toD, subS, putD, isNon, okD_int, okD_bool, okD_none, PyData.eqv, PyData.eqvAll, L2.ixN]
      exact ⟨L, rfl, Led.of fnd.nd fnd.rh fnd.me sh⟩
  obtain ⟨r, os, e, F, rfl, rfl, h⟩ := key.eq
  exact ⟨F, h, fun {ρ} => doCall_data (ds := [gear x S, I s]) rfl rfl e rfl⟩
end Lw
set_option maxHeartbeats 4000000
namespace Lw
open PySem Vi
variable {fu n : Nat}
theorem c38e (x : M2) (h : Ent x 200) {ρ : En} : doCall ⟨1, [], pg.sem fu (n + 1) 38⟩ [.dat (TM x)] ρ = .ok (.dat (I x.det)) ρ := by
  refine doCall_data (ds := [TM x]) rfl rfl (Ev.sem_eq (ev38 ?_)) rfl
  unfold d38
  simp -dsimp [evB, evS, evR, evT, evC, evO, evAs, evDs, evIt, evPs, letRs, nrm, cnts, cnt, biD, mtOk, mtD, letR, letD, letDs, sto, binD, cmpD, Vi.truthy, esc, lenOk, idxD, isiD, Ret, outs, retR, Rv.isRef, Ob.toD, subS, putD, isNon, okD_int, okD_bool, okD_none, PyData.eqv, PyData.eqvAll, L2.ixN, big_md h.ha h.hd (by omega), big_md h.hb h.hc (by omega), M2.det]
theorem low_low2 {p q s : Int} (hq : q ≠ 0) (hs : s ≠ 0) : low (low p q).1 ((low p q).2 * s) = low p (q * s) := by
  obtain ⟨g, g0, g1, g2⟩ := low_g (p := p) hq
  have a := low_pos (p := p) hq
  generalize low p q = u at *
  refine low_eq (Int.mul_ne_zero (by omega) hs) (Int.mul_ne_zero hq hs) ?_
  rw [g1, g2]; grind
theorem c44 {x : M2} {X Y q : Int} (h : Ent x 200) (hs : x.det ≠ 0) (q0 : q ≠ 0) (mX : Md 600 X) (mY : Md 600 Y) (mq : Md 600 q) (hf : 2 ^ 4000 < fu) {ρ : En} : doCall ⟨2, [], pg.sem fu (n + 4) 44⟩ [.dat (TM x), .dat (Pt X Y q)] ρ = .ok (.dat (Pt (x.d * X - x.b * Y) (x.a * Y - x.c * X) (q * x.det))) ρ := by
  refine doCall_data (ds := [TM x, Pt X Y q]) rfl rfl (Ev.sem_eq (ev44 ?_)) rfl
  have hdet := fun {ρ : En} => @c38e fu (n + 2) x h ρ
  have md : Md 401 x.det := h.det
  have fX : Fr2 X q 600 := ⟨q0, mX, mq⟩
  have fY : Fr2 Y q 600 := ⟨q0, mY, mq⟩
  have fa : Fr2 x.a 1 600 := fr_int (h.ha.mono (by omega)) (by omega)
  have fb : Fr2 (-x.b) 1 600 := fr_int (h.hb.neg.mono (by omega)) (by omega)
  have fc : Fr2 (-x.c) 1 600 := fr_int (h.hc.neg.mono (by omega)) (by omega)
  have fd : Fr2 x.d 1 600 := fr_int (h.hd.mono (by omega)) (by omega)
  have t1 := fun {ρ : En} => @c35 fu n _ _ _ _ 600 (by omega) fd fX hf ρ
  have t2 := fun {ρ : En} => @c35 fu n _ _ _ _ 600 (by omega) fb fY hf ρ
  have t3 := fun {ρ : En} => @c35 fu n _ _ _ _ 600 (by omega) fa fY hf ρ
  have t4 := fun {ρ : En} => @c35 fu n _ _ _ _ 600 (by omega) fc fX hf ρ
  have s1 := fun {ρ : En} => @c34 fu n _ _ _ _ 1200 (by omega) (fd.mul fX) (fb.mul fY) hf ρ
  have s2 := fun {ρ : En} => @c34 fu n _ _ _ _ 1200 (by omega) (fa.mul fY) (fc.mul fX) hf ρ
  rw [low_sum (Int.mul_ne_zero (by omega) q0)] at s1 s2
  rw [low_one] at t1 t2 t3 t4
  rw [Int.one_mul] at t1 t2 t3 t4 s1 s2
  have e1 : x.d * X + -x.b * Y = x.d * X - x.b * Y := by rw [Int.neg_mul, Int.sub_eq_add_neg]
  have e2 : x.a * Y + -x.c * X = x.a * Y - x.c * X := by rw [Int.neg_mul, Int.sub_eq_add_neg]
  rw [e1] at s1
  rw [e2] at s2
  have f1 : Fr2 (x.d * X - x.b * Y) q 1300 := ⟨q0, by rw [← e1]; exact ((fd.mp.mul mX).add (fb.mp.mul mY)).mono (by omega), mq.mono (by omega)⟩
  have f2 : Fr2 (x.a * Y - x.c * X) q 1300 := ⟨q0, by rw [← e2]; exact ((fa.mp.mul mY).add (fc.mp.mul mX)).mono (by omega), mq.mono (by omega)⟩
  obtain ⟨a1, a2, a3⟩ := f1.lo
  obtain ⟨b1, b2, b3⟩ := f2.lo
  have p1 := fun {ρ : En} => @c33 fu (n + 1) (low (x.d * X - x.b * Y) q).1 ((low (x.d * X - x.b * Y) q).2 * x.det) (sz_md (by omega) hs a2 md (by omega)) (lt_fu a2 md (by omega) hf) ρ
  have p2 := fun {ρ : En} => @c33 fu (n + 1) (low (x.a * Y - x.c * X) q).1 ((low (x.a * Y - x.c * X) q).2 * x.det) (sz_md (by omega) hs b2 md (by omega)) (lt_fu b2 md (by omega) hf) ρ
  rw [low_low2 q0 hs] at p1 p2
  have g1 := big_md a2 md (by omega)
  have g2 := big_md b2 md (by omega)
  unfold d44 Pt
  generalize low (x.d * X - x.b * Y) (q * x.det) = y1 at *
  generalize low (x.a * Y - x.c * X) (q * x.det) = y2 at *
  generalize low (x.d * X - x.b * Y) q = z1 at *
  generalize low (x.a * Y - x.c * X) q = z2 at *
  generalize low (x.d * X) q = w1 at *
  generalize low (-x.b * Y) q = w2 at *
  generalize low (x.a * Y) q = w3 at *
  generalize low (-x.c * X) q = w4 at *
  generalize low X q = X' at *
  generalize low Y q = Y' at *
  generalize x.det = D at *
  refine Ev_cons fun K k1 k2 _ _ => ?_
  simp -dsimp [evB, evS, evR, evT, evC, evO, evAs, evDs, evIt, evPs, letRs, nrm, cnts, cnt, biD, mtOk, mtD, letR, letD, letDs, sto, binD, cmpD, Vi.truthy, esc, lenOk, idxD, isiD, Ret, outs, retR, Rv.isRef, Ob.toD, subS, putD, isNon, okD_int, okD_bool, okD_none, PyData.eqv, PyData.eqvAll, L2.ixN, at38, hdet]
  refine k1 _ (Ev_cons fun K k1 k2 _ _ => ?_)
  simp -dsimp [evB, evS, evR, evT, evC, evO, evAs, evDs, evIt, evPs, letRs, nrm, cnts, cnt, biD, mtOk, mtD, letR, letD, letDs, sto, binD, cmpD, Vi.truthy, esc, lenOk, idxD, isiD, Ret, outs, retR, Rv.isRef, Ob.toD, subS, putD, isNon, okD_int, okD_bool, okD_none, PyData.eqv, PyData.eqvAll, L2.ixN, at35, t1, t2, at34, s1]
  refine k1 _ (Ev_cons fun K k1 k2 _ _ => ?_)
  simp -dsimp [evB, evS, evR, evT, evC, evO, evAs, evDs, evIt, evPs, letRs, nrm, cnts, cnt, biD, mtOk, mtD, letR, letD, letDs, sto, binD, cmpD, Vi.truthy, esc, lenOk, idxD, isiD, Ret, outs, retR, Rv.isRef, Ob.toD, subS, putD, isNon, okD_int, okD_bool, okD_none, PyData.eqv, PyData.eqvAll, L2.ixN, at35, t3, t4, at34, s2]
  refine k1 _ (Ev_cons fun K k1 k2 _ _ => ?_)
  simp -dsimp [evB, evS, evR, evT, evC, evO, evAs, evDs, evIt, evPs, letRs, nrm, cnts, cnt, biD, mtOk, mtD, letR, letD, letDs, sto, binD, cmpD, Vi.truthy, esc, lenOk, idxD, isiD, Ret, outs, retR, Rv.isRef, Ob.toD, subS, putD, isNon, okD_int, okD_bool, okD_none, PyData.eqv, PyData.eqvAll, L2.ixN, g1, g2, at33, p1, p2]
  exact k2 _ _ (by simp -dsimp [evB, evS, evR, evT, evC, evO, evAs, evDs, evIt, evPs, letRs, nrm, cnts, cnt, biD, mtOk, mtD, letR, letD, letDs, sto, binD, cmpD, Vi.truthy, esc, lenOk, idxD, isiD, Ret, outs, retR, Rv.isRef, Ob.toD, subS, putD, isNon, okD_int, okD_bool, okD_none, PyData.eqv, PyData.eqvAll, L2.ixN])
theorem c41 {x : M2} (h : E3 x) (o : Vc) {ρ : En} : doCall ⟨2, [], pg.sem fu (n + 1) 41⟩ [.dat (TM x), .dat (OO o)] ρ = .ok (.dat (OO (mv x o))) ρ := by
  refine doCall_data (ds := [TM x, OO o]) rfl rfl (Ev.sem_eq (ev41 ?_)) rfl
  unfold d41 mv
  simp -dsimp [evB, evS, evR, evT, evC, evO, evAs, evDs, evIt, evPs, letRs, nrm, cnts, cnt, biD, mtOk, mtD, letR, letD, letDs, sto, binD, cmpD, Vi.truthy, esc, lenOk, idxD, isiD, Ret, outs, retR, Rv.isRef, Ob.toD, subS, putD, isNon, okD_int, okD_bool, okD_none, PyData.eqv, PyData.eqvAll, L2.ixN, big3 h.ha, big3 h.hb, big3 h.hc, big3 h.hd]
theorem c42 (o p : Vc) {ρ : En} : doCall ⟨2, [], pg.sem fu (n + 1) 42⟩ [.dat (OO o), .dat (OO p)] ρ = .ok (.dat (OO (o.1 + p.1, o.2 + p.2))) ρ := by
  refine doCall_data (ds := [OO o, OO p]) rfl rfl (Ev.sem_eq (ev42 ?_)) rfl
  unfold d42
  simp -dsimp [evB, evS, evR, evT, evC, evO, evAs, evDs, evIt, evPs, letRs, nrm, cnts, cnt, biD, mtOk, mtD, letR, letD, letDs, sto, binD, cmpD, Vi.truthy, esc, lenOk, idxD, isiD, Ret, outs, retR, Rv.isRef, Ob.toD, subS, putD, isNon, okD_int, okD_bool, okD_none, PyData.eqv, PyData.eqvAll, L2.ixN]
theorem isPt_cons {x : M2} {U W : List Cp} {v : Vc} {q : Int} (h : IsPt x U W v q) (hd : x.det ≠ 0) (p : Cp) : IsPt x (p :: U) W (adjv x (v.1 + p.x * q, v.2 + p.y * q)) (q * x.det) := by
  have e : on1 x (q * x.det) (adjv x (v.1 + p.x * q, v.2 + p.y * q)) p = (v.1 * x.det, v.2 * x.det) := by
    have m := mv_adjv x (v.1 + p.x * q, v.2 + p.y * q)
    unfold mv at m
    have m1 := congrArg Prod.fst m
    have m2 := congrArg Prod.snd m
    simp only [] at m1 m2
    unfold on1
    rw [m1, m2]
    refine Prod.ext ?_ ?_ <;> simp only [] <;> grind
  refine ⟨Int.mul_ne_zero h.hq hd, ?_⟩
  show act x (q * x.det) (act x (q * x.det) (on1 x (q * x.det) (adjv x (v.1 + p.x * q, v.2 + p.y * q)) p) U) W = act x (q * x.det) (on1 x (q * x.det) (adjv x (v.1 + p.x * q, v.2 + p.y * q)) p) U
  rw [e, act_scale, act_scale, h.eq]
end Lw
set_option maxHeartbeats 4000000
namespace Lw
open PySem Vi
variable {fu n : Nat}
abbrev stepD (p : Cp) : PyData := OO (p.x, p.y)
theorem cps_snoc (S : List (List Cp)) (s : Int) (w : List Int) (i : Int) : cps S s (w ++ [i]) = cps S s w ++ [cOf (sOf S (rn S s w)) i] := by
  rw [cps_app]; rfl
theorem off_snoc (x : M2) (o : Vc) (L : List Cp) (p : Cp) : off x o (L ++ [p]) = stp x (off x o L) p := by
  unfold off; rw [List.foldl_append]; rfl
def PtB (k : Nat) (v : Vc) (q : Int) : Prop := VMd k v ∧ Md k q ∧ q ≠ 0
theorem c49 {A B : Int} (hw : DOk A B) {x : M2} {S : List (List Cp)} (h : K4 x S) {s : Int} (hs : St S s) (hf : 2 ^ 4000 < fu) :
    Ev (pg.sem fu (n + 5) 49 [.own .par (Dk A B), .dat (gear x S), .dat (I s)]) fun r os => ∃ U W v q A' B', r = .dat (PV v q) ∧ os = [.own .par (Dk A' B'), .dat (gear x S), .dat (I s)] ∧ DOk A' B' ∧ IsPt x U W v q ∧ W ≠ [] ∧ (∀ p ∈ U ++ W, ∃ L ∈ S, p ∈ L) ∧ PtB 200 v q := by
  have k := h.k
  have gx := k.gs.gx
  have e3 := h.e3
  have hfu : 5 ≤ fu := by
    have : 2 ^ 3 ≤ 2 ^ 4000 := Nat.pow_le_pow_right (by omega) (by omega)
    omega
  refine ev49 ?_
  unfold d49
  refine Ev_cons fun K k1 k2 _ _ => ?_
  simp -dsimp [evB, evS, evR, evT, evC, evO, evAs, evDs, evIt, evPs, letRs, nrm, cnts, cnt, biD, mtOk, mtD, letR, letD, letDs, sto, binD, cmpD, Vi.truthy, esc, lenOk, idxD, isiD, Ret, outs, retR, Rv.isRef, Ob.toD, subS, putD, isNon, okD_int, okD_bool, okD_none, PyData.eqv, PyData.eqvAll, L2.ixN]
  refine k1 _ (Ev_cons fun KW kw1 kw2 _ _ => ?_)
  refine Ev_whl (fun m ρ => ∃ w A' B' s9, ρ = [.own .par (Dk A' B'), .dat (gear x S), .dat (I s), .non, .non, .non, .own .loc (.lst ((seenOf S s w).map .int)), .own .loc (.lst ((cps S s w).map stepD)), .dat (I (rn S s w)), s9, .non, .non, .non, .non] ∧ Plain s9 ∧ DOk A' B' ∧ Trk S s w ∧ m = 4 - w.length) 4 ⟨[], A, B, .non, rfl, by simp, hw, ⟨trivial, by simp [seenOf]⟩, rfl⟩ (by show 4 < fu; omega) ?_
  rintro m ρ ⟨w, A1, B1, s9, rfl, p9, w1, tr, rfl⟩
  have hlen := tr.len k hs
  have hst := run_st k hs tr.ok
  have h2 : okD (.list ((seenOf S s w).map .int)) = true := okD_list (by rw [seen_len]; omega) fun t ht => by
    obtain ⟨q0, q1⟩ := seen_st k hs tr.ok t ht
    have := k.l
    omega
  have h1 : okD (I (rn S s w)) = true := rfl
  have hany := any_int (seenOf S s w) (rn S s w)
  have hsl : (seenOf S s w).length ≤ 1000000 := by rw [seen_len]; omega
  have hcl := cps_len S w s
  have hwl : (cps S s w).length ≤ 1000000 := by omega
  have hss := at_st hst
  by_cases hin : rn S s w ∈ seenOf S s w
  · refine Ev.of_eq (a := false) (ρ := [.own .par (Dk A1 B1), .dat (gear x S), .dat (I s), .non, .non, .non, .own .loc (.lst ((seenOf S s w).map .int)), .own .loc (.lst ((cps S s w).map stepD)), .dat (I (rn S s w)), s9, .non, .non, .non, .non]) (by simp -dsimp [evB, evS, evR, evT, evC, evO, evAs, evDs, evIt, evPs, letRs, nrm, cnts, cnt, biD, mtOk, mtD, letR, letD, letDs, sto, binD, cmpD, Vi.truthy, esc, lenOk, idxD, isiD, Ret, outs, retR, Rv.isRef, Ob.toD, subS, putD, isNon, okD_int, okD_bool, okD_none, PyData.eqv, PyData.eqvAll, L2.ixN, h1, h2, hany, hin]) ?_
    rw [if_neg (by decide)]
    refine kw1 _ (Ev_cons fun K k1 k2 _ _ => ?_)
    obtain ⟨j, hj1, hj2⟩ := idx_int hin
    obtain ⟨hjl, _⟩ := tr.adr hj2 1 (by omega)
    have mem : ∀ p ∈ cps S s w, ∃ L ∈ S, p ∈ L := cps_mem k hs tr.ok
    have memB : ∀ p ∈ cps S s w, CpB p := h.cps hs tr.ok
    generalize hC : cps S s w = C at *
    generalize hV : seenOf S s w = V at *
    generalize rn S s w = t at *
    simp -dsimp [evB, evS, evR, evT, evC, evO, evAs, evDs, evIt, evPs, letRs, nrm, cnts, cnt, biD, mtOk, mtD, letR, letD, letDs, sto, binD, cmpD, Vi.truthy, esc, lenOk, idxD, isiD, Ret, outs, retR, Rv.isRef, Ob.toD, subS, putD, isNon, okD_int, okD_bool, okD_none, PyData.eqv, PyData.eqvAll, L2.ixN, h1, h2, hj1]
    refine k1 _ (Ev_cons fun K k1 k2 _ _ => ?_)
    simp -dsimp [evB, evS, evR, evT, evC, evO, evAs, evDs, evIt, evPs, letRs, nrm, cnts, cnt, biD, mtOk, mtD, letR, letD, letDs, sto, binD, cmpD, Vi.truthy, esc, lenOk, idxD, isiD, Ret, outs, retR, Rv.isRef, Ob.toD, subS, putD, isNon, okD_int, okD_bool, okD_none, PyData.eqv, PyData.eqvAll, L2.ixN]
    refine k1 _ (Ev_cons fun K k1 k2 _ _ => ?_)
    have hc1 := cut_to (xs := C.map stepD) (k := j) (by simp; omega)
    have hc2 := cut_from (xs := C.map stepD) (k := j) (by simp; omega)
    have hWl : (C.drop j).length ≤ 4 := by rw [List.length_drop]; omega
    have hW0 : C.drop j ≠ [] := fun z => by
      have := congrArg List.length z
      rw [List.length_drop] at this
      simp at this
      omega
    have hUl : (C.take j).length ≤ 4 := by rw [List.length_take]; omega
    have hUW : C.take j ++ C.drop j = C := List.take_append_drop j C
    rw [← List.map_take] at hc1
    rw [← List.map_drop] at hc2
    generalize hU : C.take j = U at *
    generalize hW : C.drop j = W at *
    have memW : ∀ p ∈ W, CpB p := fun p hp => memB p (by rw [← hUW]; exact List.mem_append_right _ hp)
    have memU : ∀ p ∈ U, CpB p := fun p hp => memB p (by rw [← hUW]; exact List.mem_append_left _ hp)
    refine Ev_for (xs := W.map stepD) (ρ1 := [.own .par (Dk A1 B1), .dat (gear x S), .dat (I s), .dat (I (j : Nat)), .non, .non, .own .loc (.lst (V.map .int)), .own .loc (.lst (C.map stepD)), .dat (I t), s9, .dat (OO (0, 0)), .dat (TM M2.one), .non, .non])
      (fun i ρ => ∃ s4 s12 s13, ρ = [.own .par (Dk A1 B1), .dat (gear x S), .dat (I s), .dat (I (j : Nat)), s4, .non, .own .loc (.lst (V.map .int)), .own .loc (.lst (C.map stepD)), .dat (I t), s9, .dat (OO (off x (0, 0) (W.take i))), .dat (TM (x.pow i)), s12, s13] ∧ Plain s4 ∧ Plain s12 ∧ Plain s13)
      (by simp -dsimp [evB, evS, evR, evT, evC, evO, evAs, evDs, evIt, evPs, letRs, nrm, cnts, cnt, biD, mtOk, mtD, letR, letD, letDs, sto, binD, cmpD, Vi.truthy, esc, lenOk, idxD, isiD, Ret, outs, retR, Rv.isRef, Ob.toD, subS, putD, isNon, okD_int, okD_bool, okD_none, PyData.eqv, PyData.eqvAll, L2.ixN, hc2, slcD, seqItems, M2.one]) ⟨.non, .non, .non, rfl, by simp, by simp, by simp⟩ ?_ ?_
    · rintro i e ρ hi ⟨s4, s12, s13, rfl, p4, p12, p13⟩
      rw [List.getElem?_map] at hi
      obtain ⟨p, hp1, rfl⟩ := Option.map_eq_some_iff.mp hi
      have tk : W.take (i + 1) = W.take i ++ [p] := by rw [List.take_succ, hp1]; rfl
      have o1 := fun {ρ : En} => @c41 fu (n + 3) x e3 (off x (0, 0) (W.take i)) ρ
      have o2 := fun {ρ : En} => @c42 fu (n + 3) (mv x (off x (0, 0) (W.take i))) (p.x, p.y) ρ
      have l1 := fun {ρ : En} => @c41 fu (n + 3) x e3 ((x.pow i).a, (x.pow i).c) ρ
      have l2 := fun {ρ : En} => @c41 fu (n + 3) x e3 ((x.pow i).b, (x.pow i).d) ρ
      refine Ev_letN (ρ' := [.own .par (Dk A1 B1), .dat (gear x S), .dat (I s), .dat (I (j : Nat)), .dat (stepD p), .non, .own .loc (.lst (V.map .int)), .own .loc (.lst (C.map stepD)), .dat (I t), s9, .dat (OO (off x (0, 0) (W.take i))), .dat (TM (x.pow i)), s12, s13]) (by simp -dsimp [evB, evS, evR, evT, evC, evO, evAs, evDs, evIt, evPs, letRs, nrm, cnts, cnt, biD, mtOk, mtD, letR, letD, letDs, sto, binD, cmpD, Vi.truthy, esc, lenOk, idxD, isiD, Ret, outs, retR, Rv.isRef, Ob.toD, subS, putD, isNon, okD_int, okD_bool, okD_none, PyData.eqv, PyData.eqvAll, L2.ixN, p4.free]) rfl ?_
      have en : off x (0, 0) (W.take (i + 1)) = ((mv x (off x (0, 0) (W.take i))).1 + p.x, (mv x (off x (0, 0) (W.take i))).2 + p.y) := by rw [tk, off_snoc]; rfl
      have eg : x.pow (i + 1) = ⟨(mv x ((x.pow i).a, (x.pow i).c)).1, (mv x ((x.pow i).b, (x.pow i).d)).1, (mv x ((x.pow i).a, (x.pow i).c)).2, (mv x ((x.pow i).b, (x.pow i).d)).2⟩ := rfl
      refine Ev_cons fun K q1 q2 _ _ => ?_
      simp -dsimp [evB, evS, evR, evT, evC, evO, evAs, evDs, evIt, evPs, letRs, nrm, cnts, cnt, biD, mtOk, mtD, letR, letD, letDs, sto, binD, cmpD, Vi.truthy, esc, lenOk, idxD, isiD, Ret, outs, retR, Rv.isRef, Ob.toD, subS, putD, isNon, okD_int, okD_bool, okD_none, PyData.eqv, PyData.eqvAll, L2.ixN, at41, o1, at42, o2]
      refine q1 _ (Ev_cons fun K q1 q2 _ _ => ?_)
      simp -dsimp [evB, evS, evR, evT, evC, evO, evAs, evDs, evIt, evPs, letRs, nrm, cnts, cnt, biD, mtOk, mtD, letR, letD, letDs, sto, binD, cmpD, Vi.truthy, esc, lenOk, idxD, isiD, Ret, outs, retR, Rv.isRef, Ob.toD, subS, putD, isNon, okD_int, okD_bool, okD_none, PyData.eqv, PyData.eqvAll, L2.ixN, at41, l1, l2, p12.free, p13.free]
      refine q1 _ (Ev_cons fun K q1 q2 _ _ => ?_)
      simp -dsimp [evB, evS, evR, evT, evC, evO, evAs, evDs, evIt, evPs, letRs, nrm, cnts, cnt, biD, mtOk, mtD, letR, letD, letDs, sto, binD, cmpD, Vi.truthy, esc, lenOk, idxD, isiD, Ret, outs, retR, Rv.isRef, Ob.toD, subS, putD, isNon, okD_int, okD_bool, okD_none, PyData.eqv, PyData.eqvAll, L2.ixN]
      exact q1 _ (Ev_nil ⟨.dat (stepD p), _, _, by rw [en, eg], by simp, by simp, by simp⟩)
    · rintro ρ ⟨s4, s12, s13, rfl, p4, p12, p13⟩
      rw [List.length_map, List.take_length]
      have hk1 : W.length ≤ 50 := by omega
      have hk0 : 0 < W.length := List.length_pos_iff.mpr hW0
      obtain ⟨hdn, hrn⟩ := gd_ring gx hk0 hk1
      have er : Ent (ringM x W.length) 20 := (ring_ent e3 W.length).mono (by omega)
      have eo : VMd 20 (off x (0, 0) W) := (off_md e3 (k := 3) (o := (0, 0)) memW (by omega) ⟨by unfold Md; simp, by unfold Md; simp⟩).mono (by omega)
      have e44 := fun {ρ : En} => @c44 fu n (ringM x W.length) (off x (0, 0) W).1 (off x (0, 0) W).2 1 (er.mono (by omega)) hrn (by omega) (eo.1.mono (by omega)) (eo.2.mono (by omega)) (by unfold Md; exact Nat.one_lt_two_pow (by omega)) hf ρ
      rw [Int.one_mul] at e44
      unfold Pt at e44
      rw [low_one, low_one] at e44
      refine k1 _ (Ev_cons fun K k1 k2 _ _ => ?_)
      have rg : TM (ringM x W.length) = T2 (T2 (I ((x.pow W.length).a - 1)) (I (x.pow W.length).b)) (T2 (I (x.pow W.length).c) (I ((x.pow W.length).d - 1))) := rfl
      rw [rg] at e44
      simp -dsimp [evB, evS, evR, evT, evC, evO, evAs, evDs, evIt, evPs, letRs, nrm, cnts, cnt, biD, mtOk, mtD, letR, letD, letDs, sto, binD, cmpD, Vi.truthy, esc, lenOk, idxD, isiD, Ret, outs, retR, Rv.isRef, Ob.toD, subS, putD, isNon, okD_int, okD_bool, okD_none, PyData.eqv, PyData.eqvAll, L2.ixN, at44, e44]
      refine k1 [.own .par (Dk A1 B1), .dat (gear x S), .dat (I s), .dat (I (j : Nat)), s4, .dat (PV (fixV x W) (ringM x W.length).det), .own .loc (.lst (V.map .int)), .own .loc (.lst (C.map stepD)), .dat (I t), s9, .dat (OO (off x (0, 0) W)), .dat (TM (x.pow W.length)), s12, s13] (Ev_cons fun K k1 k2 _ _ => ?_)
      have hrv : (U.map stepD).reverse = U.reverse.map stepD := by rw [List.map_reverse]
      have ul : U.reverse.length ≤ 4 := by rw [List.length_reverse]; exact hUl
      refine Ev_for (xs := (U.map stepD).reverse) (ρ1 := [.own .par (Dk A1 B1), .dat (gear x S), .dat (I s), .dat (I (j : Nat)), s4, .dat (PV (fixV x W) (ringM x W.length).det), .own .loc (.lst (V.map .int)), .own .loc (.lst (C.map stepD)), .dat (I t), s9, .dat (OO (off x (0, 0) W)), .dat (TM (x.pow W.length)), s12, s13])
        (fun i ρ => ∃ v q s4, ρ = [.own .par (Dk A1 B1), .dat (gear x S), .dat (I s), .dat (I (j : Nat)), s4, .dat (PV v q), .own .loc (.lst (V.map .int)), .own .loc (.lst (C.map stepD)), .dat (I t), s9, .dat (OO (off x (0, 0) W)), .dat (TM (x.pow W.length)), s12, s13] ∧ Plain s4 ∧ i ≤ 4 ∧ IsPt x (U.reverse.take i).reverse W v q ∧ PtB (60 + 12 * i) v q)
        (by simp -dsimp [evB, evS, evR, evT, evC, evO, evAs, evDs, evIt, evPs, letRs, nrm, cnts, cnt, biD, mtOk, mtD, letR, letD, letDs, sto, binD, cmpD, Vi.truthy, esc, lenOk, idxD, isiD, Ret, outs, retR, Rv.isRef, Ob.toD, subS, putD, isNon, okD_int, okD_bool, okD_none, PyData.eqv, PyData.eqvAll, L2.ixN, hc1, slcD, revD, seqItems]) ⟨_, _, s4, rfl, p4, by omega, fix_pt hrn, (adj_md er eo).mono (by omega), er.det.mono (by omega), hrn⟩ ?_ ?_
      · rintro i e ρ hi ⟨v, q, s4, rfl, p4, i4, ip, pb1, pb2, pb3⟩
        rw [hrv, List.getElem?_map] at hi
        obtain ⟨p, hp1, rfl⟩ := Option.map_eq_some_iff.mp hi
        have il : i < U.reverse.length := (List.getElem?_eq_some_iff.mp hp1).1
        have tk : (U.reverse.take (i + 1)).reverse = p :: (U.reverse.take i).reverse := by rw [List.take_succ, hp1, List.reverse_append]; rfl
        have pB : CpB p := memU p (List.mem_reverse.mp (List.mem_of_getElem? hp1))
        have mpx : Md 3 p.x := by unfold Md; have := pB.1; omega
        have mpy : Md 3 p.y := by unfold Md; have := pB.2; omega
        have f1 : Fr2 v.1 q 200 := ⟨pb3, pb1.1.mono (by omega), pb2.mono (by omega)⟩
        have f2 : Fr2 v.2 q 200 := ⟨pb3, pb1.2.mono (by omega), pb2.mono (by omega)⟩
        have a1 := fun {ρ : En} => @c34 fu (n + 1) _ _ _ _ 200 (by omega) f1 (fr_int (mpx.mono (by omega)) (by omega)) hf ρ
        have a2 := fun {ρ : En} => @c34 fu (n + 1) _ _ _ _ 200 (by omega) f2 (fr_int (mpy.mono (by omega)) (by omega)) hf ρ
        rw [low_one, Int.mul_one, Int.mul_one] at a1 a2
        have w1 : Md (64 + 12 * i) (v.1 + p.x * q) := ((pb1.1.mono (show 60 + 12 * i ≤ 63 + 12 * i by omega)).add ((mpx.mul pb2).mono (by omega))).mono (by omega)
        have w2 : Md (64 + 12 * i) (v.2 + p.y * q) := ((pb1.2.mono (show 60 + 12 * i ≤ 63 + 12 * i by omega)).add ((mpy.mul pb2).mono (by omega))).mono (by omega)
        have ex2 : Ent x 2 := ⟨Md3 e3.ha, Md3 e3.hb, Md3 e3.hc, Md3 e3.hd⟩
        have b1 := fun {ρ : En} => @c44 fu n x _ _ _ (ex2.mono (by omega)) hdn pb3 (w1.mono (by omega)) (w2.mono (by omega)) (pb2.mono (by omega)) hf ρ
        have nx := isPt_cons ip hdn p
        rw [← tk] at nx
        have pbn : PtB (60 + 12 * (i + 1)) (adjv x (v.1 + p.x * q, v.2 + p.y * q)) (q * x.det) := ⟨(adj_md ex2 (w := (v.1 + p.x * q, v.2 + p.y * q)) ⟨w1, w2⟩).mono (by omega), (pb2.mul (det_md gx)).mono (by omega), Int.mul_ne_zero pb3 hdn⟩
        refine Ev_letN (ρ' := [.own .par (Dk A1 B1), .dat (gear x S), .dat (I s), .dat (I (j : Nat)), .dat (stepD p), .dat (PV v q), .own .loc (.lst (V.map .int)), .own .loc (.lst (C.map stepD)), .dat (I t), s9, .dat (OO (off x (0, 0) W)), .dat (TM (x.pow W.length)), s12, s13]) (by simp -dsimp [evB, evS, evR, evT, evC, evO, evAs, evDs, evIt, evPs, letRs, nrm, cnts, cnt, biD, mtOk, mtD, letR, letD, letDs, sto, binD, cmpD, Vi.truthy, esc, lenOk, idxD, isiD, Ret, outs, retR, Rv.isRef, Ob.toD, subS, putD, isNon, okD_int, okD_bool, okD_none, PyData.eqv, PyData.eqvAll, L2.ixN, p4.free]) rfl ?_
        refine Ev_cons fun K q1 q2 _ _ => ?_
        simp -dsimp [evB, evS, evR, evT, evC, evO, evAs, evDs, evIt, evPs, letRs, nrm, cnts, cnt, biD, mtOk, mtD, letR, letD, letDs, sto, binD, cmpD, Vi.truthy, esc, lenOk, idxD, isiD, Ret, outs, retR, Rv.isRef, Ob.toD, subS, putD, isNon, okD_int, okD_bool, okD_none, PyData.eqv, PyData.eqvAll, L2.ixN, at34, a1, a2, at44, b1]
        exact q1 _ (Ev_nil ⟨_, _, .dat (stepD p), rfl, by simp, by omega, nx, pbn⟩)
      · rintro ρ ⟨v, q, s4, rfl, p4, i4, ip, pb1, pb2, pb3⟩
        rw [hrv, List.length_map] at ip pb1 pb2
        rw [List.take_length, List.reverse_reverse] at ip
        refine k1 _ (Ev_cons fun K k1 k2 _ _ => ?_)
        simp -dsimp [evB, evS, evR, evT, evC, evO, evAs, evDs, evIt, evPs, letRs, nrm, cnts, cnt, biD, mtOk, mtD, letR, letD, letDs, sto, binD, cmpD, Vi.truthy, esc, lenOk, idxD, isiD, Ret, outs, retR, Rv.isRef, Ob.toD, subS, putD, isNon, okD_int, okD_bool, okD_none, PyData.eqv, PyData.eqvAll, L2.ixN]
        refine k2 _ _ ?_
        exact ⟨rfl, _, rfl, U, W, v, q, A1, B1, rfl, rfl, w1, ip, hW0, fun p hp => mem p (by rw [← hUW]; exact hp), pb1.mono (by omega), pb2.mono (by omega), pb3⟩
  · refine Ev.of_eq (a := true) (ρ := [.own .par (Dk A1 B1), .dat (gear x S), .dat (I s), .non, .non, .non, .own .loc (.lst ((seenOf S s w).map .int)), .own .loc (.lst ((cps S s w).map stepD)), .dat (I (rn S s w)), s9, .non, .non, .non, .non]) (by simp -dsimp [evB, evS, evR, evT, evC, evO, evAs, evDs, evIt, evPs, letRs, nrm, cnts, cnt, biD, mtOk, mtD, letR, letD, letDs, sto, binD, cmpD, Vi.truthy, esc, lenOk, idxD, isiD, Ret, outs, retR, Rv.isRef, Ob.toD, subS, putD, isNon, okD_int, okD_bool, okD_none, PyData.eqv, PyData.eqvAll, L2.ixN, h1, h2, hany, hin]) ?_
    rw [if_pos rfl]
    refine Ev_cons fun K k1 k2 _ _ => ?_
    simp -dsimp [evB, evS, evR, evT, evC, evO, evAs, evDs, evIt, evPs, letRs, nrm, cnts, cnt, biD, mtOk, mtD, letR, letD, letDs, sto, binD, cmpD, Vi.truthy, esc, lenOk, idxD, isiD, Ret, outs, retR, Rv.isRef, Ob.toD, subS, putD, isNon, okD_int, okD_bool, okD_none, PyData.eqv, PyData.eqvAll, L2.ixN, hsl]
    refine k1 _ (Ev_cons fun K k1 k2 _ _ => ?_)
    obtain ⟨l0, l6, _⟩ := k.ok _ (sOf_mem hst)
    obtain ⟨v0, A2, B2, v00, v01, w2, e0⟩ := draw (fu := fu) (n := n + 3) w1 ((sOf S (rn S s w)).length : Nat) (by omega) (by omega)
    have ha := at_cp (L := sOf S (rn S s w)) v00 v01
    simp -dsimp [evB, evS, evR, evT, evC, evO, evAs, evDs, evIt, evPs, letRs, nrm, cnts, cnt, biD, mtOk, mtD, letR, letD, letDs, sto, binD, cmpD, Vi.truthy, esc, lenOk, idxD, isiD, Ret, outs, retR, Rv.isRef, Ob.toD, subS, putD, isNon, okD_int, okD_bool, okD_none, PyData.eqv, PyData.eqvAll, L2.ixN, hss, at31, e0, ha, p9.free]
    refine k1 _ (Ev_cons fun K k1 k2 _ _ => ?_)
    simp -dsimp [evB, evS, evR, evT, evC, evO, evAs, evDs, evIt, evPs, letRs, nrm, cnts, cnt, biD, mtOk, mtD, letR, letD, letDs, sto, binD, cmpD, Vi.truthy, esc, lenOk, idxD, isiD, Ret, outs, retR, Rv.isRef, Ob.toD, subS, putD, isNon, okD_int, okD_bool, okD_none, PyData.eqv, PyData.eqvAll, L2.ixN, cp, hwl]
    refine k1 _ (Ev_cons fun K k1 k2 _ _ => ?_)
    simp -dsimp [evB, evS, evR, evT, evC, evO, evAs, evDs, evIt, evPs, letRs, nrm, cnts, cnt, biD, mtOk, mtD, letR, letD, letDs, sto, binD, cmpD, Vi.truthy, esc, lenOk, idxD, isiD, Ret, outs, retR, Rv.isRef, Ob.toD, subS, putD, isNon, okD_int, okD_bool, okD_none, PyData.eqv, PyData.eqvAll, L2.ixN, cp]
    refine k1 _ (Ev_nil ⟨4 - (w ++ [v0]).length, ?_, w ++ [v0], A2, B2, .dat (cp (cOf (sOf S (rn S s w)) v0)), ?_, by simp, w2, tr.snoc hin v00 v01, rfl⟩)
    · have := (tr.snoc hin v00 v01).len k hs
      simp at this ⊢
      omega
    · rw [seen_snoc, run_app, cps_snoc]
      simp [rn, cp]
end Lw
set_option maxHeartbeats 4000000
namespace Lw
open PySem Vi
variable {fu n : Nat}
theorem rch_md {x : M2} (h : gdB x = true) {K : Nat} (hK : Stop x K) {L : Int} (hL : Md 40 L) : Md 200 (rch x K L) := by
  have kl := hK.l1
  have fs := fr_size h (k := K) (by omega)
  have fw := fr_sum h (k := K) (by omega)
  have hlt := hK.lt
  have n8 : E' x K - siz (x.adj.pow K) ≠ 0 := by omega
  have a := (fw.mp.mul hL).low1 n8
  have b := low_pos (p := Wd x K * L) n8
  unfold rch ceilQ
  generalize low (Wd x K * L) (E' x K - siz (x.adj.pow K)) = t at *
  have c : ((-t.1).fdiv t.2).natAbs ≤ (-t.1).natAbs := by
    rw [Int.fdiv_eq_ediv_of_nonneg _ (by omega)]
    exact Int.natAbs_ediv_le_natAbs _ _
  have d : Md 100 (-t.1) := a.neg
  exact ((d.le c).neg).mono (by omega)
theorem smp_row (w : List Int) (hl : w.length ≤ 100) {m : Nat} : Smp (m + 1) (row w) := .tup (by simpa using by omega) fun e he => by
  obtain ⟨i, _, rfl⟩ := List.mem_map.mp he
  exact smp_int _
theorem told49 {A B : Int} (hw : DOk A B) {x : M2} {S : List (List Cp)} (h : K4 x S) {s : Int} (hs : St S s) (hf : 2 ^ 4000 < fu) :
    ∃ U W v q A' B', DOk A' B' ∧ IsPt x U W v q ∧ W ≠ [] ∧ (∀ p ∈ U ++ W, ∃ L ∈ S, p ∈ L) ∧ PtB 200 v q ∧ ∀ ρ : En, doCall ⟨3, [0], pg.sem fu (n + 5) 49⟩ [.ref 0, .dat (gear x S), .dat (I s)] (.own .par (Dk A B) :: ρ) = .ok (.dat (PV v q)) (.own .par (Dk A' B') :: ρ) := by
  obtain ⟨r, os, e, U, W, v, q, A', B', rfl, rfl, h1, h2, h3, h4, h5⟩ := (c49 (fu := fu) (n := n) hw h hs hf).eq
  exact ⟨U, W, v, q, A', B', h1, h2, h3, h4, h5, fun ρ => doCall_par (i := 0) (fl := .par) (ds := [gear x S, I s]) rfl (.inr rfl) rfl rfl e⟩
theorem full_of {x : M2} {S : List (List Cp)} (k : Kt x S) : Full S := ⟨k.gs.l0, by have := k.l; omega, fun L hL => ⟨(k.ok L hL).1, by have := (k.ok L hL).2.1; omega⟩⟩
theorem lng_md {x : M2} {S : List (List Cp)} (h : K4 x S) : Md 40 (lng S) := by
  obtain ⟨_, h2, _⟩ := lng_spec (full_of h.k)
  obtain ⟨p, hp, e⟩ := List.mem_map.mp h2
  obtain ⟨L, hL, hpL⟩ := List.mem_flatten.mp hp
  obtain ⟨b1, b2⟩ := h.st L hL p hpL
  rw [← e]
  unfold Md lngC
  omega
theorem c50 {A B : Int} (hw : DOk A B) (hf : 2 ^ 4000 < fu) : Ev (pg.sem fu (n + 9) 50 [.own .par (Dk A B)]) fun r os => ∃ A' B', r = .dat (.bool true) ∧ os = [.own .par (Dk A' B')] := by
  have hf5 : 10 < fu := Nat.lt_trans (Nat.lt_of_lt_of_le (by decide) (Nat.pow_le_pow_right (by omega) (show 4 ≤ 4000 by omega))) hf
  refine ev50 ?_
  unfold d50
  refine Ev_cons fun K k1 k2 _ _ => ?_
  obtain ⟨x, A1, B1, gx, w1, e15⟩ := told36 (fu := fu) (n := n + 5) hw
  rw [show n + 5 + 3 = n + 8 from rfl] at e15
  have e15 := fun ρ => e15 0 .par (.own .par (Dk A B) :: ρ) rfl (.inr rfl)
  obtain ⟨v1, A2, B2, v10, v11, w2, e11⟩ := draw (fu := fu) (n := n + 7) w1 3 (by decide) (by decide)
  obtain ⟨far, hfa, hfar⟩ : ∃ far : Nat, far ≤ 4 ∧ atD [I 0, I 1, I 4] v1 = some (I far) := by
    have : v1 = 0 ∨ v1 = 1 ∨ v1 = 2 := by omega
    rcases this with rfl | rfl | rfl
    · exact ⟨0, by omega, rfl⟩
    · exact ⟨1, by omega, rfl⟩
    · exact ⟨4, by omega, rfl⟩
  obtain ⟨S, A3, B3, w3, gok, e18⟩ := told18 (fu := fu) (n := n + 6) w2 x 4 6 far (by omega) (by omega) (by omega)
  rw [show n + 6 + 2 = n + 8 from rfl, show ((4 : Nat) : Int) = 4 from rfl, show ((6 : Nat) : Int) = 6 from rfl] at e18
  have e18 := fun ρ => e18 0 .par (.own .par (Dk A2 B2) :: ρ) rfl (.inr rfl)
  have h := kt_of gx gok hfa (by omega)
  simp only [List.set_cons_zero] at e15 e18
  simp -dsimp [evB, evS, evR, evT, evC, evO, evAs, evDs, evIt, evPs, letRs, nrm, cnts, cnt, biD, mtOk, mtD, letR, letD, letDs, sto, binD, cmpD, Vi.truthy, esc, lenOk, idxD, isiD, Ret, outs, retR, Rv.isRef, Ob.toD, subS, putD, isNon, okD_int, okD_bool, okD_none, PyData.eqv, PyData.eqvAll, L2.ixN, at40, e15, at31, e11, hfar, at43, e18]
  refine k1 _ (Ev_cons fun K k1 k2 _ _ => ?_)
  clear e15 e11 e18 hfar
  obtain ⟨N, hN⟩ := stop_of gx
  have fS := full_of h.k
  have hL := lng_md h
  have e47 := fun {ρ : En} => @c47 fu (n + 2) x S gx fS N hN hL hf ρ
  have e27 := fun {ρ : En} => @c27 fu (n + 1) x S h fS N hN hL hf5 ρ
  have rmd := rch_md gx hN hL
  have hpt : ∀ {U W : List Cp} {v : Vc} {q : Int}, IsPt x U W v q → W ≠ [] → (∀ p ∈ U ++ W, ∃ L ∈ S, p ∈ L) → nv v ≤ rch x N (lng S) * (q.natAbs : Int) := fun {U W v q} ip w0 hm => pt_in hN.lt ip w0 fun p hp => by
    obtain ⟨L, h1, h2⟩ := hm p hp
    exact (lng_spec fS).2.2 _ (List.mem_map_of_mem (List.mem_flatten.mpr ⟨L, h1, h2⟩))
  generalize rch x N (lng S) = R at *
  simp -dsimp [evB, evS, evR, evT, evC, evO, evAs, evDs, evIt, evPs, letRs, nrm, cnts, cnt, biD, mtOk, mtD, letR, letD, letDs, sto, binD, cmpD, Vi.truthy, esc, lenOk, idxD, isiD, Ret, outs, retR, Rv.isRef, Ob.toD, subS, putD, isNon, okD_int, okD_bool, okD_none, PyData.eqv, PyData.eqvAll, L2.ixN, at47, e47]
  refine k1 _ (Ev_cons fun K k1 k2 _ _ => ?_)
  have sm1 : ∀ {ρ : En}, doCall ⟨2, [], Lw.pg.sem fu (n + 8) 37⟩ [.new (.lst [I R, I R]), .new (.lst [I R, I R])] ρ = .ok (.dat (.bool true)) ρ := fun {ρ} => same_new (fu := fu) (n := n + 2) (fun e he => by
    simp at he
    rw [he]
    exact smp_int _) (by simp)
  simp -dsimp [evB, evS, evR, evT, evC, evO, evAs, evDs, evIt, evPs, letRs, nrm, cnts, cnt, biD, mtOk, mtD, letR, letD, letDs, sto, binD, cmpD, Vi.truthy, esc, lenOk, idxD, isiD, Ret, outs, retR, Rv.isRef, Ob.toD, subS, putD, isNon, okD_int, okD_bool, okD_none, PyData.eqv, PyData.eqvAll, L2.ixN, at27, e27, perm1, at37, sm1]
  refine k1 _ (Ev_cons fun K k1 k2 _ _ => ?_)
  clear e47 e27 sm1
  obtain ⟨s, A4, B4, s0, s1, w4, e4⟩ := draw (fu := fu) (n := n + 7) w3 (S.length : Nat) (by have := h.k.gs.l0; omega) (by have := h.k.l; omega)
  have hs : St S s := ⟨s0, s1⟩
  simp -dsimp [evB, evS, evR, evT, evC, evO, evAs, evDs, evIt, evPs, letRs, nrm, cnts, cnt, biD, mtOk, mtD, letR, letD, letDs, sto, binD, cmpD, Vi.truthy, esc, lenOk, idxD, isiD, Ret, outs, retR, Rv.isRef, Ob.toD, subS, putD, isNon, okD_int, okD_bool, okD_none, PyData.eqv, PyData.eqvAll, L2.ixN, at31, e4]
  refine k1 _ (Ev_cons fun K k1 k2 _ _ => ?_)
  clear e4
  obtain ⟨F, hF, e48⟩ := c48 (fu := fu) (n := n + 7) h.k hs
  obtain ⟨G, hG, e29⟩ := c29 (fu := fu) (n := n + 1) h.k hs (by omega)
  rw [show n + 7 + 1 = n + 8 from rfl] at e48
  rw [show n + 1 + 7 = n + 8 from rfl, ← hF.sort hG] at e29
  have hl : (sortI F).length ≤ 100 := by
    rw [sortI_len]
    have := nodup_le (N := S.length) hF.nd fun t ht => ((hF.all t).mp ht).st h.k hs
    have := h.k.l
    omega
  have srow := smp_row (sortI F) hl (m := 1)
  generalize row (sortI F) = T at *
  simp -dsimp [evB, evS, evR, evT, evC, evO, evAs, evDs, evIt, evPs, letRs, nrm, cnts, cnt, biD, mtOk, mtD, letR, letD, letDs, sto, binD, cmpD, Vi.truthy, esc, lenOk, idxD, isiD, Ret, outs, retR, Rv.isRef, Ob.toD, subS, putD, isNon, okD_int, okD_bool, okD_none, PyData.eqv, PyData.eqvAll, L2.ixN, at48, e48]
  refine k1 _ (Ev_cons fun K k1 k2 _ _ => ?_)
  have perm2 : ∀ a b : Rv, permute 2 [1, 0] [a, b] = some [b, a] := fun a b => rfl
  have sm2 : ∀ {ρ : En}, doCall ⟨2, [], Lw.pg.sem fu (n + 8) 37⟩ [.new (.lst [T, T]), .new (.lst [T, T])] ρ = .ok (.dat (.bool true)) ρ := fun {ρ} => same_new (fu := fu) (n := n + 2) (fun e he => by
    simp at he
    rw [he]
    exact srow) (by simp)
  simp -dsimp [evB, evS, evR, evT, evC, evO, evAs, evDs, evIt, evPs, letRs, nrm, cnts, cnt, biD, mtOk, mtD, letR, letD, letDs, sto, binD, cmpD, Vi.truthy, esc, lenOk, idxD, isiD, Ret, outs, retR, Rv.isRef, Ob.toD, subS, putD, isNon, okD_int, okD_bool, okD_none, PyData.eqv, PyData.eqvAll, L2.ixN, at29, e29, perm2, at37, sm2]
  refine k1 _ (Ev_cons fun K k1 k2 _ _ => ?_)
  clear e48 e29 sm2 perm2
  refine Ev_for (xs := [I 0, I 1, I 2, I 3]) (ρ1 := [.own .par (Dk A4 B4), .dat (gear x S), .dat (I R), .dat (I s), .dat T, .non, .non]) (fun i ρ => ∃ A B s5 s6, ρ = [.own .par (Dk A B), .dat (gear x S), .dat (I R), .dat (I s), .dat T, s5, s6] ∧ Plain s5 ∧ Plain s6 ∧ DOk A B)
    (by simp -dsimp [evB, evS, evR, evT, evC, evO, evAs, evDs, evIt, evPs, letRs, nrm, cnts, cnt, biD, mtOk, mtD, letR, letD, letDs, sto, binD, cmpD, Vi.truthy, esc, lenOk, idxD, isiD, Ret, outs, retR, Rv.isRef, Ob.toD, subS, putD, isNon, okD_int, okD_bool, okD_none, PyData.eqv, PyData.eqvAll, L2.ixN, rng4]) ⟨A4, B4, .non, .non, rfl, by simp, by simp, w4⟩ ?_ ?_
  · rintro i e ρ hi ⟨A5, B5, s5, s6, rfl, p5, p6, w5⟩
    refine Ev_letN (ρ' := [.own .par (Dk A5 B5), .dat (gear x S), .dat (I R), .dat (I s), .dat T, .dat e, s6]) (by simp -dsimp [evB, evS, evR, evT, evC, evO, evAs, evDs, evIt, evPs, letRs, nrm, cnts, cnt, biD, mtOk, mtD, letR, letD, letDs, sto, binD, cmpD, Vi.truthy, esc, lenOk, idxD, isiD, Ret, outs, retR, Rv.isRef, Ob.toD, subS, putD, isNon, okD_int, okD_bool, okD_none, PyData.eqv, PyData.eqvAll, L2.ixN, p5.free]) rfl ?_
    obtain ⟨z, A6, B6, z0, z1, w6, e6⟩ := draw (fu := fu) (n := n + 7) w5 (S.length : Nat) (by have := h.k.gs.l0; omega) (by have := h.k.l; omega)
    obtain ⟨U, W, v, q, A7, B7, w7, ip, hW0, hm, ⟨pb1, pb2, pb3⟩, e49⟩ := told49 (fu := fu) (n := n + 3) w6 h (s := z) ⟨z0, z1⟩ hf
    rw [show n + 3 + 5 = n + 8 from rfl] at e49
    have hle := hpt ip hW0 hm
    refine Ev_cons fun K q1 q2 _ _ => ?_
    simp -dsimp [evB, evS, evR, evT, evC, evO, evAs, evDs, evIt, evPs, letRs, nrm, cnts, cnt, biD, mtOk, mtD, letR, letD, letDs, sto, binD, cmpD, Vi.truthy, esc, lenOk, idxD, isiD, Ret, outs, retR, Rv.isRef, Ob.toD, subS, putD, isNon, okD_int, okD_bool, okD_none, PyData.eqv, PyData.eqvAll, L2.ixN, at31, e6, at49, e49, p6.free]
    refine q1 _ (Ev_cons fun K q1 q2 _ _ => ?_)
    have qp : 0 < (q.natAbs : Int) := by omega
    have fR : Fr2 R 1 200 := fr_int rmd (by omega)
    have f1 : Fr2 (v.1.natAbs : Int) (q.natAbs : Int) 200 := Fr2.abs ⟨pb3, pb1.1, pb2⟩
    have f2 : Fr2 (v.2.natAbs : Int) (q.natAbs : Int) 200 := Fr2.abs ⟨pb3, pb1.2, pb2⟩
    have l1 := fun {ρ : En} => @c36 fu (n + 7) _ _ _ _ 200 (by omega) fR f1 (by omega) qp ρ
    have l2 := fun {ρ : En} => @c36 fu (n + 7) _ _ _ _ 200 (by omega) fR f2 (by omega) qp ρ
    have d1 : decide (R * (q.natAbs : Int) < (v.1.natAbs : Int) * 1) = false := decide_eq_false (by unfold nv at hle; omega)
    have d2 : decide (R * (q.natAbs : Int) < (v.2.natAbs : Int) * 1) = false := decide_eq_false (by unfold nv at hle; omega)
    rw [d1, low_one, ← low_abs _ _ pb3] at l1
    rw [d2, low_one, ← low_abs _ _ pb3] at l2
    unfold PV Pt
    generalize low v.1 q = X at *
    generalize low v.2 q = Y at *
    simp -dsimp [evB, evS, evR, evT, evC, evO, evAs, evDs, evIt, evPs, letRs, nrm, cnts, cnt, biD, mtOk, mtD, letR, letD, letDs, sto, binD, cmpD, Vi.truthy, esc, lenOk, idxD, isiD, Ret, outs, retR, Rv.isRef, Ob.toD, subS, putD, isNon, okD_int, okD_bool, okD_none, PyData.eqv, PyData.eqvAll, L2.ixN, abs_if, at36, l1, l2]
    exact q1 _ (Ev_nil ⟨A7, B7, .dat e, _, rfl, by simp, by simp, w7⟩)
  · rintro ρ ⟨A5, B5, s5, s6, rfl, p5, p6, w5⟩
    refine k1 _ (Ev_cons fun K k1 k2 _ _ => ?_)
    simp -dsimp [evB, evS, evR, evT, evC, evO, evAs, evDs, evIt, evPs, letRs, nrm, cnts, cnt, biD, mtOk, mtD, letR, letD, letDs, sto, binD, cmpD, Vi.truthy, esc, lenOk, idxD, isiD, Ret, outs, retR, Rv.isRef, Ob.toD, subS, putD, isNon, okD_int, okD_bool, okD_none, PyData.eqv, PyData.eqvAll, L2.ixN]
    refine k2 _ _ ?_
    exact ⟨rfl, _, rfl, A5, B5, rfl, rfl⟩
theorem law_ok (ns : List Int) (hl : ns.length ≤ 63) (hf : 2 ^ 4000 < fu) : ∃ os, pg.sem fu (n + 10) 51 [.dat (.list (ns.map .int))] = .ok (.dat (.bool true)) os := by
  have key : Ev (pg.sem fu (n + 9 + 1) 51 [.dat (.list (ns.map .int))]) fun r os => r = .dat (.bool true) := by
    refine ev51 ?_
    unfold d51
    refine Ev_cons fun KF kf1 kf2 _ _ => ?_
    obtain ⟨N, hN1, hN⟩ : ∃ N : Nat, N ≤ 20 ∧ evIt ⟨Fns pg.gd fu pg.pc.ds (n + 9), pg.gd, fu⟩ (.rng1 (.bi .max2 [(.con (.int 2)), (.bi .min2 [(.bi .len [(.var 0)]), (.con (.int 12))])])) [.dat (.list (ns.map .int)), .non] = .ok ((List.range N).map fun k => PyData.int (k : Nat), none) [.dat (.list (ns.map .int)), .non] := by
      have hm : (if (12 : Int) < (ns.length : Int) then 12 else (ns.length : Int)) = ((min 12 ns.length : Nat) : Int) := by split <;> omega
      have hM : (if (2 : Int) < ((min 12 ns.length : Nat) : Int) then ((min 12 ns.length : Nat) : Int) else 2) = ((max 2 (min 12 ns.length) : Nat) : Int) := by split <;> omega
      refine ⟨max 2 (min 12 ns.length), by omega, ?_⟩
      have hr := rng_ok (N := max 2 (min 12 ns.length)) (by omega)
      generalize max 2 (min 12 ns.length) = N at *
      generalize ((min 12 ns.length : Nat) : Int) = M at *
      simp -dsimp [evB, evS, evR, evT, evC, evO, evAs, evDs, evIt, evPs, letRs, nrm, cnts, cnt, biD, mtOk, mtD, letR, letD, letDs, sto, binD, cmpD, Vi.truthy, esc, lenOk, idxD, isiD, Ret, outs, retR, Rv.isRef, Ob.toD, subS, putD, isNon, okD_int, okD_bool, okD_none, PyData.eqv, PyData.eqvAll, L2.ixN, hm, hM, hr]
    refine Ev_for (xs := (List.range N).map fun k => PyData.int (k : Nat)) (fun i ρ => ∃ s1, ρ = [.dat (.list (ns.map .int)), s1] ∧ free (some s1) = true) hN ⟨.non, rfl, rfl⟩ ?_ ?_
    · rintro i v ρ hv ⟨s1, rfl, f1⟩
      have hi : i < N := by have := get_lt hv; simpa using this
      have hv' : v = .int (i : Nat) := by simp [hi] at hv; exact hv.symm
      subst hv'
      refine Ev_letN (by simp [f1]) rfl (Ev_cons fun K k1 k2 _ _ => ?_)
      obtain ⟨A, B, hw, e10⟩ := c30 (fu := fu) (n := n + 8) ns hl i (by omega)
      rw [show n + 8 + 1 = n + 9 from rfl] at e10
      clear hN hv
      obtain ⟨r, os, e, A', B', rfl, rfl⟩ := (c50 (fu := fu) (n := n) hw hf).eq
      have e38 : ∀ {ρ : En}, call1 ⟨1, [0], pg.sem fu (n + 9) 50⟩ (Dk A B) ρ = .ok (.dat (.bool true)) ρ := call1_par rfl rfl e
      simp -dsimp [evB, evS, evR, evT, evC, evO, evAs, evDs, evIt, evPs, letRs, nrm, cnts, cnt, biD, mtOk, mtD, letR, letD, letDs, sto, binD, cmpD, Vi.truthy, esc, lenOk, idxD, isiD, Ret, outs, retR, Rv.isRef, Ob.toD, subS, putD, isNon, okD_int, okD_bool, okD_none, PyData.eqv, PyData.eqvAll, L2.ixN, at30, e10, at50, e38]
      exact k1 _ (Ev_nil ⟨_, rfl, rfl⟩)
    · rintro ρ ⟨s1, rfl, f1⟩
      refine kf1 _ (Ev_cons fun K k1 k2 _ _ => ?_)
      simp -dsimp [evB, evS, evR, evT, evC, evO, evAs, evDs, evIt, evPs, letRs, nrm, cnts, cnt, biD, mtOk, mtD, letR, letD, letDs, sto, binD, cmpD, Vi.truthy, esc, lenOk, idxD, isiD, Ret, outs, retR, Rv.isRef, Ob.toD, subS, putD, isNon, okD_int, okD_bool, okD_none, PyData.eqv, PyData.eqvAll, L2.ixN]
      exact k2 _ _ (by simp -dsimp [evB, evS, evR, evT, evC, evO, evAs, evDs, evIt, evPs, letRs, nrm, cnts, cnt, biD, mtOk, mtD, letR, letD, letDs, sto, binD, cmpD, Vi.truthy, esc, lenOk, idxD, isiD, Ret, outs, retR, Rv.isRef, Ob.toD, subS, putD, isNon, okD_int, okD_bool, okD_none, PyData.eqv, PyData.eqvAll, L2.ixN])
  obtain ⟨r, os, e, rfl⟩ := key.eq
  exact ⟨os, e⟩
end Lw
set_option maxHeartbeats 4000000
open PySem Vi in
theorem Lw.ans (ns : List Int) (hl : ns.length ≤ 63) : ∃ os, Vi.lawAns Lw.pg (2 ^ 4000 + 1) 20 Lw.lawIx ns = some (.ok (.dat (.bool true)) os) := by
  obtain ⟨os, h⟩ := Lw.law_ok (fu := 2 ^ 4000 + 1) (n := 10) ns hl (Nat.lt_succ_self _)
  refine ⟨os, ?_⟩
  unfold lawAns
  rw [show Lw.lawIx = 51 from rfl, Lw.at51, Option.map_some]
  exact congrArg some h
set_option maxRecDepth 100000 in
set_option maxHeartbeats 8000000 in
theorem PySem.Challenge.cw_selfkits_k03_whole_reaches_holds : PySem.Challenge.rw_selfkits_k03_whole_reaches.Holds := by
  exact Lw.holds_of 20 (2 ^ 4000 + 1) ⟨by decide, by decide, by decide⟩ Lw.ans
