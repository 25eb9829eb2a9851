import PyProof.Rows.All
import Wide.All
import OpenK.AllK
import Wide.FinOn
import HandS.ForMost
import KE.DataEq
import KE.SortData
import HandS.Text
import HandS.ExcCtx
import HandS.TupAny
import HandS.IsInst
import HandS.Style
import HandS.TupLen
import HandS.DictEq
import HandS.Conv
import HandS.More
import HandS.CallLocal
import HandS.SortRule
import KE.DataMinMax
import KE.KDictDisplayH
import KE.KRevSl
import KE.KDictPairs
import HandS.RevTup
import KE.GoesEnum
import KE.GoesNew
import KE.GoesZip
import KE.DataMinKey
import HandS.SortKw
import KE.DataFind
import HandS.Zip
import HandS.Strs
import HandS.TupSets
import HandS.ExcIs
import HandS.ExcField
import HandS.HotCalls
import HandS.Defaults
import HandS.ExcInit
import HandS.ExcInitHot
import KE.KExcIs
import HandS.HeadHook1
import HandS.Head2
import HandS.HeadEnd
import HandS.HeadHook2
import KE.KStateDown
import HandS.Ends
import HandS.Words
import HandS.WordsExc
import HandS.Head0
import HandS.Head1
import PySem.Challenge.RW_errands_k39_refused
set_option Elab.async false
set_option linter.all false
section
set_option maxRecDepth 100000
namespace Pu
open PySem L2
inductive D where
  | non | bl (b : Bool) | int (i : Int) | str (x : Str) | fn (i : Nat) | scr (ns : List Int)
  | tup (xs : List D) | lst (xs : List D) | dct (t : Bool) (kvs : List (List Key × D))
  deriving Inhabited
inductive R (α : Type) where
  | ok (a : α) | exc (c : Nat) (p : D) | bad
def R.bind {α β : Type} : R α → (α → R β) → R β
  | .ok a, f => f a
  | .exc c p, _ => .exc c p
  | .bad, _ => .bad
@[simp] theorem R.bind_ok {α β : Type} (a : α) (f : α → R β) : (R.ok a).bind f = f a := rfl
@[simp] theorem R.bind_exc {α β : Type} (c : Nat) (p : D) (f : α → R β) : (R.exc c p : R α).bind f = .exc c p := rfl
@[simp] theorem R.bind_bad {α β : Type} (f : α → R β) : (R.bad : R α).bind f = .bad := rfl
def R.ofO {α : Type} : Option α → R α
  | some a => .ok a
  | none => .bad
@[simp] theorem R.ofO_some {α : Type} (a : α) : R.ofO (some a) = .ok a := rfl
@[simp] theorem R.ofO_none {α : Type} : (R.ofO none : R α) = .bad := rfl
inductive CO where | eq | ne | lt | le | gt | ge | isin | nin | isn | nisn | nisT | eqe
  deriving DecidableEq
inductive BO where | add | sub | mul | mod | fdiv | pow
  deriving DecidableEq
inductive B1 where | len | all | any | sorted | list | tuple | sum | max | min | int | str | dK | dT | sset | lset | minlen | mint | tups | intd | sorts | ssett
  deriving DecidableEq
inductive B2 where | max | min
  deriving DecidableEq
inductive Ty where | str | int | bool | tuple | list
  deriving DecidableEq
inductive M1 where | count | index | join | split | part
  deriving DecidableEq
inductive Tg where | one (i : Nat) | many (is : List Nat)
  deriving DecidableEq
mutual
inductive E where
  | var (i : Nat)
  | non | bl (b : Bool) | int (i : Int) | str (x : Str)
  | gl (j : Nat)
  | fn (f : Nat)
  | tup (es : EL) | lst (es : EL) | dct0 (t : Bool) | dct1 (t : Bool) (k v : E)
  | and (es : EL) | or (es : EL) | not (a : E)
  | cmp (o : CO) (a b : E) | chain (o o2 : CO) (a b c : E)
  | bin (o : BO) (a b : E) | neg (a : E)
  | ix (a b : E) | sl (a : E) (lo hi : OE) | rev (a : E)
  | call (f : Nat) (es : EL) | callv (f : E) (es : EL)
  | b1 (o : B1) (a : E) | b2 (o : B2) (a b : E) | isi (t : Ty) (a : E)
  | m1 (o : M1) (a b : E) | dget (d k x : E)
  | comp (elt : E) (tg : Tg) (it : It) (c : OE)
  | bor (e : E)
inductive EL where | nil | cons (e : E) (es : EL)
inductive OE where | none | some (e : E)
inductive It where
  | seq (e : E) | keys (i : Nat) | rng1 (a : E) | rng2 (a b : E) | rngd (a b : E) | enm (a : E) | zip (a b : E) | gseq (j : Nat) | gzip (j : Nat) (b : E)
end
mutual
inductive S where
  | set (i : Nat) (e : E) | own (i : Nat) (e : E) | own2 (i : Nat) (n : Nat) | unp (is : List Nat) (e : E)
  | app (i : Nat) (e : E) | ext (i : Nat) (e : E) | put (i : Nat) (k v : E) | rem (i : Nat) (e : E) | popto (j i : Nat) | app2 (i : Nat) (k e : E) | apop (i j : Nat) (k : E)
  | ex (e : E) | iff (c : E) (a b : SL) | whl (n : Nat) (c : E) (b : SL) | frr (tg : Tg) (it : It) (b : SL)
  | ret (e : E) | retn | rais (c : Nat) | raisn (c : Nat) (e : E) | brk | pass
  | tri (b : SL) (hs : List (Nat × Nat)) | exall (t i j : Nat)
inductive SL where | nil | cons (s : S) (r : SL) | fz (i : Nat) (r : SL)
end
mutual
def D.py : D → PyData
  | .non => .none
  | .bl b => .bool b
  | .int i => .int i
  | .str x => .str x
  | .fn _ => .dict []
  | .scr ns => .list (ns.map .int)
  | .tup xs => .tuple (D.pys xs)
  | .lst xs => .list (D.pys xs)
  | .dct _ _ => .dict []
def D.pys : List D → List PyData
  | [] => []
  | x :: xs => x.py :: D.pys xs
end
@[simp] theorem D.pys_eq (xs : List D) : D.pys xs = xs.map D.py := by
  induction xs with
  | nil => simp [D.pys]
  | cons x xs ih => simp [D.pys, ih]
def ck : Nat → PyData → Bool
  | _, .none => true
  | _, .bool _ => true
  | _, .int _ => true
  | _, .str _ => true
  | _, .dict _ => false
  | 0, .list _ => false
  | 0, .tuple _ => false
  | n + 1, .list xs => xs.all (ck n)
  | n + 1, .tuple xs => xs.all (ck n)
mutual
def D.imm : D → Bool
  | .lst _ => false
  | .dct _ _ => false
  | .scr _ => false
  | .tup xs => D.imms xs
  | _ => true
def D.imms : List D → Bool
  | [] => true
  | x :: xs => x.imm && D.imms xs
end
@[simp] theorem D.imms_eq (xs : List D) : D.imms xs = xs.all D.imm := by
  induction xs with
  | nil => simp [D.imms]
  | cons x xs ih => simp [D.imms, ih]
def eqD (a b : D) : R Bool := if ck 8 a.py && ck 8 b.py then .ok (PyData.eqv a.py b.py) else .bad
def key1 : D → Option Key
  | .int i => some (.inl i)
  | .str x => some (.inr x)
  | _ => none
def keyOf (t : Bool) (d : D) : Option (List Key) := match t, d with
  | false, d => (key1 d).map fun k => [k]
  | true, .tup xs => xs.mapM key1
  | true, _ => none
def keyD1 : Key → D
  | .inl i => .int i
  | .inr x => .str x
def keyD (t : Bool) (k : List Key) : D := match t with
  | true => .tup (k.map keyD1)
  | false => match k with
    | [a] => keyD1 a
    | _ => .non
def dfind {α : Type} (kvs : List (List Key × α)) (k : List Key) : Option α := (kvs.find? fun kv => decide (kv.1 = k)).map (·.2)
def dput {α : Type} (kvs : List (List Key × α)) (k : List Key) (v : α) : List (List Key × α) :=
  if kvs.any (fun kv => decide (kv.1 = k)) then kvs.map (fun kv => if kv.1 = k then (kv.1, v) else kv) else kvs ++ [(k, v)]
def inD (x c : D) : R Bool := match c with
  | .tup xs => if ck 8 x.py && xs.all (fun y => ck 8 y.py) then .ok (xs.any fun y => PyData.eqv y.py x.py) else .bad
  | .lst xs => if ck 8 x.py && xs.all (fun y => ck 8 y.py) then .ok (xs.any fun y => PyData.eqv y.py x.py) else .bad
  | .str z => match x with
    | .str y => match y.cps.toList with
      | [c] => .ok (decide (c ∈ z.cps.toList))
      | _ => .bad
    | _ => .bad
  | .dct t kvs => (R.ofO (keyOf t x)).bind fun k => .ok (dfind kvs k).isSome
  | _ => .bad
def cmpI (f : Int → Int → Bool) (a b : D) : R Bool := match a, b with
  | .int i, .int j => .ok (f i j)
  | _, _ => .bad
def cmpD (o : CO) (a b : D) : R Bool := match o with
  | .eq => eqD a b
  | .ne => (eqD a b).bind fun r => .ok (!r)
  | .lt => cmpI (fun i j => decide (i < j)) a b
  | .le => cmpI (fun i j => decide (i ≤ j)) a b
  | .gt => cmpI (fun i j => decide (j < i)) a b
  | .ge => cmpI (fun i j => decide (j ≤ i)) a b
  | .isin => inD a b
  | .nin => (inD a b).bind fun r => .ok (!r)
  | .isn => match b with
    | .non => .ok (match a with | .non => true | _ => false)
    | _ => .bad
  | .nisn => match b with
    | .non => .ok (match a with | .non => false | _ => true)
    | _ => .bad
  | .nisT => match a, b with
    | .bl x, .bl true => .ok (!x)
    | _, _ => .bad
  | .eqe => match a, b with
    | .dct false kvs, .dct false [] => .ok kvs.isEmpty
    | _, _ => .bad
def big : Int := 18446744073709551616
def smallI (i : Int) : Bool := decide (-big < i ∧ i < big)
def binD (o : BO) (a b : D) : R D := match o, a, b with
  | .add, .int i, .int j => .ok (.int (i + j))
  | .add, .str x, .str y => if x.length + y.length ≤ sizeLine then .ok (.str (x ++ y)) else .bad
  | .add, .lst xs, .lst ys => if xs.length + ys.length ≤ sizeLine then .ok (.lst (xs ++ ys)) else .bad
  | .add, .tup xs, .tup ys => if xs.length + ys.length ≤ sizeLine then .ok (.tup (xs ++ ys)) else .bad
  | .sub, .int i, .int j => .ok (.int (i - j))
  | .mul, .int i, .int j => if smallI i || smallI j then .ok (.int (i * j)) else .bad
  | .mul, .lst xs, .int j => if 0 ≤ j ∧ j ≤ 1000 ∧ xs.length ≤ 1000 then .ok (.lst (List.replicate j.toNat xs).flatten) else .bad
  | .mod, .int i, .int j => if 0 < j then .ok (.int (i % j)) else .bad
  | .fdiv, .int i, .int j => if 0 < j ∧ j < 1073741824 then .ok (.int (i / j)) else .bad
  | .pow, .int i, .int j => if 0 ≤ j ∧ j ≤ 1000 ∧ smallI i = true then .ok (.int (i ^ j.toNat)) else .bad
  | _, _, _ => .bad
def ixD (a b : D) : R D := match a, b with
  | .tup xs, .int i => R.ofO (atI xs i)
  | .lst xs, .int i => R.ofO (atI xs i)
  | .scr xs, .int i => (R.ofO (atI xs i)).bind fun n => .ok (.int n)
  | .str z, .int i => if z.length ≤ sizeLine then (R.ofO (atI z.cps.toList i)).bind fun c => .ok (.str ⟨#[c]⟩) else .bad
  | .dct t kvs, k => (R.ofO (keyOf t k)).bind fun k => R.ofO (dfind kvs k)
  | _, _ => .bad
def cutD {α : Type} (xs : List α) (lo hi : Option Int) : List α := (xs.drop (HT.sIx xs.length 0 lo)).take (HT.sIx xs.length xs.length hi - HT.sIx xs.length 0 lo)
def slD (a : D) (lo hi : Option Int) : R D := match a with
  | .tup xs => .ok (.tup (cutD xs lo hi))
  | .lst xs => .ok (.lst (cutD xs lo hi))
  | .str z => if z.length ≤ sizeLine then .ok (.str ⟨(cutD z.cps.toList lo hi).toArray⟩) else .bad
  | _ => .bad
def revD (a : D) : R D := match a with
  | .tup xs => .ok (.tup xs.reverse)
  | .lst xs => .ok (.lst xs.reverse)
  | _ => .bad
def optI : Option D → R (Option Int)
  | none => .ok none
  | some (.int i) => .ok (some i)
  | some _ => .bad
def asB : D → R Bool
  | .bl b => .ok b
  | _ => .bad
def blsD : List D → Option (List Bool)
  | [] => some []
  | .bl b :: r => (blsD r).map (b :: ·)
  | _ :: _ => none
def intsD : List D → Option (List Int)
  | [] => some []
  | .int i :: r => (intsD r).map (i :: ·)
  | _ :: _ => none
def strsD : List D → Option (List Str)
  | [] => some []
  | .str i :: r => (strsD r).map (i :: ·)
  | _ :: _ => none
def sLt (x y : Str) : Bool := decide (x.cps.toList < y.cps.toList)
def insU (x : Str) : List Str → List Str
  | [] => [x]
  | y :: r => if sLt x y then x :: y :: r else if x = y then y :: r else y :: insU x r
def usort (xs : List Str) : List Str := xs.foldr insU []
def sortU (xs : List Str) : List Str := if xs.Nodup then usort xs else xs.mergeSort fun a b => !sLt b a
def dLe (a b : D) : Bool := !PySem.W.dataLt b.py a.py
def alikes (xs : List D) : Bool := xs.all fun a => xs.all fun b => PySem.W.alike a.py b.py
def tupB : D → Bool
  | .tup _ => true
  | _ => false
def tupsOk (xs : List D) : Bool := alikes xs && xs.all (fun d => tupB d && d.imm && ck 8 d.py)
def sortD (xs : List D) : R (List D) := if tupsOk xs then .ok (xs.mergeSort dLe) else .bad
def tstrsD : List D → Option (List (List Str))
  | [] => some []
  | .tup xs :: r => (strsD xs).bind fun ys => (tstrsD r).map (ys :: ·)
  | _ => none
def dedT : List (List Str) → List (List Str)
  | [] => []
  | x :: r => if x ∈ dedT r then dedT r else x :: dedT r
def lenL : D → Option Nat
  | .lst xs => some xs.length
  | _ => none
def minLen : List D → R D
  | [] => .bad
  | x :: r => if (x :: r).all (fun d => (lenL d).isSome) then .ok (r.foldl (fun m y => if (lenL y).getD 0 < (lenL m).getD 0 then y else m) x) else .bad
def items : D → R (List D)
  | .tup xs => .ok xs
  | .lst xs => .ok xs
  | .str z => if z.length ≤ sizeLine then .ok (z.cps.toList.map fun c => .str ⟨#[c]⟩) else .bad
  | .dct t kvs => .ok (kvs.map fun kv => keyD t kv.1)
  | _ => .bad
def seqD : D → R (List D)
  | .tup xs => .ok xs
  | .lst xs => .ok xs
  | .str z => if z.length ≤ sizeLine then .ok (z.cps.toList.map fun c => .str ⟨#[c]⟩) else .bad
  | _ => .bad
def keysD : D → R (List D)
  | .dct t kvs => .ok (kvs.map fun kv => keyD t kv.1)
  | _ => .bad
def maxI : List Int → R Int
  | [] => .bad
  | x :: r => .ok (r.foldl (fun m y => if m < y then y else m) x)
def minI : List Int → R Int
  | [] => .bad
  | x :: r => .ok (r.foldl (fun m y => if y < m then y else m) x)
def minBy (lt : D → D → Bool) : List D → R D
  | [] => .bad
  | x :: r => .ok (r.foldl (fun m y => if lt y m then y else m) x)
def lenD : D → R Int
  | .tup xs => .ok xs.length
  | .lst xs => .ok xs.length
  | .scr xs => .ok xs.length
  | .str z => if z.length ≤ sizeLine then .ok z.length else .bad
  | .dct _ kvs => .ok kvs.length
  | _ => .bad
def pairsD (t : Bool) : List D → R (List (List Key × D))
  | [] => .ok []
  | .tup [k, v] :: r => (R.ofO (keyOf t k)).bind fun k => (pairsD t r).bind fun r => .ok ((k, v) :: r)
  | _ :: _ => .bad
def b1D (o : B1) (a : D) : R D := match o, a with
  | .len, a => (lenD a).bind fun n => .ok (.int n)
  | .all, .lst xs => (R.ofO (blsD xs)).bind fun bs => .ok (.bl (bs.all id))
  | .any, .lst xs => (R.ofO (blsD xs)).bind fun bs => .ok (.bl (bs.any id))
  | .sorted, .lst xs => (sortD xs).bind fun ys => .ok (.lst ys)
  | .list, .str _ => .bad
  | .list, a => (items a).bind fun xs => .ok (.lst xs)
  | .tuple, .lst xs => .ok (.tup xs)
  | .tuple, .tup xs => .ok (.tup xs)
  | .tups, .str z => if z.length ≤ 1000 then .ok (.tup (z.cps.toList.map fun c => .str ⟨#[c]⟩)) else .bad
  | .sum, .lst xs => (R.ofO (intsD xs)).bind fun ns => .ok (.int ns.sum)
  | .max, .lst xs => (R.ofO (intsD xs)).bind fun ns => (maxI ns).bind fun m => .ok (.int m)
  | .min, .lst xs => (R.ofO (intsD xs)).bind fun ns => (minI ns).bind fun m => .ok (.int m)
  | .mint, .lst xs => if tupsOk xs then minBy (fun a b => PySem.W.dataLt a.py b.py) xs else .bad
  | .minlen, .lst xs => minLen xs
  | .ssett, .lst xs => (R.ofO (tstrsD xs)).bind fun ys => if (dedT ys).length ≤ 63 then .ok (.lst (((dedT ys).map fun k => D.tup (k.map .str)).mergeSort dLe)) else .bad
  | .int, .bl b => .ok (.int (if b then 1 else 0))
  | .int, .int i => .ok (.int i)
  | .intd, .str x => match x.cps.toList with
    | [c] => if 48 ≤ c ∧ c ≤ 57 then .ok (.int ((c : Int) - 48)) else .bad
    | _ => .bad
  | .str, .int i => if 0 ≤ i ∧ i ≤ 9 then .ok (.str ⟨#[48 + i.toNat]⟩) else .bad
  | .dK, .lst xs => (pairsD false xs).bind fun ps => .ok (.dct false (ps.foldl (fun acc p => dput acc p.1 p.2) []))
  | .dT, .lst xs => (pairsD true xs).bind fun ps => .ok (.dct true (ps.foldl (fun acc p => dput acc p.1 p.2) []))
  | .sorts, .lst xs => (R.ofO (strsD xs)).bind fun ys => if ys.length ≤ 63 then .ok (.lst ((sortU ys).map .str)) else .bad
  | .sset, .tup xs => (R.ofO (strsD xs)).bind fun ys => if ys.length ≤ 63 then .ok (.lst ((usort ys).map .str)) else if (usort ys).length ≤ 63 then .ok (.lst ((usort ys).map .str)) else .bad
  | .sset, .lst xs => (R.ofO (strsD xs)).bind fun ys => if ys.length ≤ 63 then .ok (.lst ((usort ys).map .str)) else if (usort ys).length ≤ 63 then .ok (.lst ((usort ys).map .str)) else .bad
  | .lset, .lst xs => (R.ofO (strsD xs)).bind fun ys => if ys.length ≤ 63 then .ok (.int (usort ys).length) else .bad
  | _, _ => .bad
def b2D (o : B2) (a b : D) : R D := match o, a, b with
  | .max, .int i, .int j => .ok (.int (if j > i then j else i))
  | .min, .int i, .int j => .ok (.int (if j < i then j else i))
  | _, _, _ => .bad
def isiD (t : Ty) (a : D) : R Bool := match t, a with
  | .str, .str _ => .ok true
  | .int, .int _ => .ok true
  | .int, .bl _ => .ok true
  | .bool, .bl _ => .ok true
  | .tuple, .tup _ => .ok true
  | .list, .lst _ => .ok true
  | _, .fn _ => .bad
  | _, .scr _ => .bad
  | _, .dct _ _ => .bad
  | _, _ => .ok false
inductive Sl where | em | sh (d : D) | ow (d : D) | o2 (xs : List (List D))
abbrev Env := List Sl
def Sl.un : Sl → Sl
  | .em => .em
  | .sh d => .sh d
  | .ow d => .sh d
  | .o2 xs => .sh (.lst (xs.map .lst))
def unown (env : Env) : Env := env.map Sl.un
def getE (env : Env) (i : Nat) : R D := match env[i]? with
  | some (.sh d) => .ok d
  | _ => .bad
def setE (env : Env) (i : Nat) (s : Sl) : R Env := if i < env.length then .ok (env.set i s) else .bad
def isOwn : Option Sl → Bool
  | some (.ow _) => true
  | some (.o2 _) => true
  | _ => false
def bindOne (env : Env) (i : Nat) (d : D) : R Env := if i < env.length && !isOwn env[i]? then .ok (env.set i (.sh d)) else .bad
def bindMany : Env → List Nat → List D → R Env
  | env, [], [] => .ok env
  | env, i :: is, d :: ds => (bindOne env i d).bind fun env => bindMany env is ds
  | _, _, _ => .bad
def bindT (env : Env) (tg : Tg) (d : D) : R Env := match tg with
  | .one i => bindOne env i d
  | .many is => match d with
    | .tup ds => bindMany env is ds
    | _ => .bad
def compL (f : D → R (Option D)) : List D → R (List D)
  | [] => .ok []
  | d :: ds => match f d with
    | .ok none => compL f ds
    | .ok (some x) => match compL f ds with
      | .ok xs => .ok (x :: xs)
      | _ => .bad
    | _ => .bad
def rng (a b : Int) : List D := (List.range (b - a).toNat).map fun (i : Nat) => .int (a + (i : Int))
def rngD (a b : Int) : List D := (List.range (a - b).toNat).map fun (i : Nat) => .int (a + (i : Int) * (-1))
def okR (i j : Int) : Bool := decide (-1000000 ≤ i ∧ i ≤ 1000000 ∧ -1000000 ≤ j ∧ j ≤ 1000000)
def zipD (a b : D) : R (List D) := match a, b with
  | .lst xs, .lst ys => .ok ((xs.zip ys).map fun p => .tup [p.1, p.2])
  | .lst xs, .tup ys => .ok ((xs.zip ys).map fun p => .tup [p.1, p.2])
  | .tup xs, .lst ys => .ok ((xs.zip ys).map fun p => .tup [p.1, p.2])
  | .tup xs, .tup ys => .ok ((xs.zip ys).map fun p => .tup [p.1, p.2])
  | _, _ => .bad
def m1A (o : M1) (a : D) : Bool := match o, a with
  | .count, .lst _ => true
  | .join, .str _ => true
  | .split, .str _ => true
  | .part, .str _ => true
  | _, _ => false
def m1D (o : M1) (a b : D) : R D := match o, a, b with
  | .count, .lst xs, b => if ck 8 b.py && xs.all (fun y => ck 8 y.py) then .ok (.int (xs.countP fun y => PyData.eqv y.py b.py : Nat)) else .bad
  | .join, .str a, .lst xs => (R.ofO (strsD xs)).bind fun ys => if (ys.map (·.length)).sum + ys.length * a.length ≤ 1000000 then .ok (.str (Txt.join a ys)) else .bad
  | .split, .str a, .str b => if (b.length == 0) = false ∧ a.length ≤ 1000000 then .ok (.lst ((Txt.split a b).map .str)) else .bad
  | .part, .str a, .str b => if (b.length == 0) = false ∧ a.length ≤ 1000000 then .ok (.tup [.str (Txt.partition a b).1, .str (Txt.partition a b).2.1, .str (Txt.partition a b).2.2]) else .bad
  | _, _, _ => .bad
def frB : B1 → Bool
  | .list => true
  | .dK => true
  | .dT => true
  | _ => false
def frE : E → Bool
  | .lst _ => true
  | .dct0 _ => true
  | .dct1 _ _ _ => true
  | .b1 o _ => frB o
  | .comp _ _ _ _ => true
  | .bor e => frE e
  | _ => false
def immL : D → Bool
  | .lst xs => xs.all D.imm
  | _ => false
structure Pr where
  call : Nat → List D → R D
  gl : Nat → D
section
variable (P : Pr)
mutual
def evE : Env → E → R D
  | env, .var i => getE env i
  | _, .non => .ok .non
  | _, .bl b => .ok (.bl b)
  | _, .int i => .ok (.int i)
  | _, .str x => .ok (.str x)
  | _, .gl j => .ok (P.gl j)
  | _, .fn f => .ok (.fn f)
  | env, .tup es => (evL env es).bind fun ds => .ok (.tup ds)
  | env, .lst es => (evL env es).bind fun ds => .ok (.lst ds)
  | _, .dct0 t => .ok (.dct t [])
  | env, .dct1 t k v => (evE env k).bind fun k => (evE env v).bind fun v => (R.ofO (keyOf t k)).bind fun k => .ok (.dct t [(k, v)])
  | env, .and es => evAnd env es
  | env, .or es => evOr env es
  | env, .not a => (evE env a).bind fun d => (asB d).bind fun b => .ok (.bl (!b))
  | env, .cmp o a b => (evE env a).bind fun x => (evE env b).bind fun y => (cmpD o x y).bind fun r => .ok (.bl r)
  | env, .chain o o2 a b c => (evE env a).bind fun x => (evE env b).bind fun y => (cmpD o x y).bind fun r =>
      if r then (evE env c).bind fun z => (cmpD o2 y z).bind fun r => .ok (.bl r) else .ok (.bl false)
  | env, .bin o a b => (evE env a).bind fun x => (evE env b).bind fun y => binD o x y
  | env, .neg a => (evE env a).bind fun x => match x with
    | .int i => .ok (.int (-i))
    | _ => .bad
  | env, .ix a b => (evE env a).bind fun x => (evE env b).bind fun y => ixD x y
  | env, .sl a lo hi => (evE env a).bind fun x => ((evO env lo).bind optI).bind fun l => ((evO env hi).bind optI).bind fun h => slD x l h
  | env, .rev a => (evE env a).bind fun x => revD x
  | env, .call f es => (evL env es).bind fun ds => P.call f ds
  | env, .callv e es => (evE env e).bind fun x => match x with
    | .fn f => (evL env es).bind fun ds => P.call f ds
    | _ => .bad
  | env, .b1 o a => (evE env a).bind fun x => b1D o x
  | env, .b2 o a b => (evE env a).bind fun x => (evE env b).bind fun y => b2D o x y
  | env, .isi t a => (evE env a).bind fun x => (isiD t x).bind fun b => .ok (.bl b)
  | env, .m1 o a b => (evE env a).bind fun x => if m1A o x then (evE env b).bind fun y => m1D o x y else .bad
  | env, .dget d k x => (evE env d).bind fun d => match d with
    | .dct t kvs => (evE env k).bind fun k => (evE env x).bind fun x => (R.ofO (keyOf t k)).bind fun k => .ok ((dfind kvs k).getD x)
    | _ => .bad
  | env, .comp elt tg it c => (evI env it).bind fun ds => (compL (fun d => (bindT env tg d).bind fun env' => (evC env' c).bind fun b =>
      if b then (evE env' elt).bind fun x => .ok (some x) else .ok none) ds).bind fun xs => .ok (.lst xs)
  | env, .bor e => (evE (unown env) e).bind fun d => if d.imm || (frE e && immL d) then .ok d else .bad
def evL : Env → EL → R (List D)
  | _, .nil => .ok []
  | env, .cons e es => (evE env e).bind fun d => (evL env es).bind fun ds => .ok (d :: ds)
def evAnd : Env → EL → R D
  | _, .nil => .bad
  | env, .cons e es => match es with
    | .nil => evE env e
    | es => (evE env e).bind fun d => (asB d).bind fun b => if b then evAnd env es else .ok (.bl false)
def evOr : Env → EL → R D
  | _, .nil => .bad
  | env, .cons e es => match es with
    | .nil => evE env e
    | es => (evE env e).bind fun d => (asB d).bind fun b => if b then .ok (.bl true) else evOr env es
def evO : Env → OE → R (Option D)
  | _, .none => .ok none
  | env, .some e => (evE env e).bind fun d => .ok (some d)
def evC : Env → OE → R Bool
  | _, .none => .ok true
  | env, .some e => (evE env e).bind fun d => asB d
def evI : Env → It → R (List D)
  | env, .seq e => (evE env e).bind fun d => seqD d
  | env, .keys i => (getE env i).bind fun d => keysD d
  | env, .rng1 a => (evE env a).bind fun x => match x with
    | .int i => if okR i 0 then .ok (rng 0 i) else .bad
    | _ => .bad
  | env, .rng2 a b => (evE env a).bind fun x => (evE env b).bind fun y => match x, y with
    | .int i, .int j => if okR i j then .ok (rng i j) else .bad
    | _, _ => .bad
  | env, .rngd a b => (evE env a).bind fun x => (evE env b).bind fun y => match x, y with
    | .int i, .int j => if okR i j then .ok (rngD i j) else .bad
    | _, _ => .bad
  | env, .enm a => (evE env a).bind fun x => match x with
    | .tup xs => .ok (xs.mapIdx fun i d => .tup [.int i, d])
    | .lst xs => .ok (xs.mapIdx fun i d => .tup [.int i, d])
    | _ => .bad
  | env, .zip a b => (evE env a).bind fun x => (evE env b).bind fun y => zipD x y
  | _, .gseq j => seqD (P.gl j)
  | env, .gzip j b => (evE env b).bind fun y => zipD (P.gl j) y
end
inductive Fl where | nx (env : Env) | ret (d : D) | exc (c : Nat) (p : D) | brk (env : Env) | bad
def Fl.of {α : Type} (r : R α) (f : α → Fl) : Fl := match r with
  | .ok a => f a
  | .exc c p => .exc c p
  | .bad => .bad
@[simp] theorem Fl.of_ok {α : Type} (a : α) (f : α → Fl) : Fl.of (.ok a) f = f a := rfl
@[simp] theorem Fl.of_exc {α : Type} (c : Nat) (p : D) (f : α → Fl) : Fl.of (.exc c p) f = .exc c p := rfl
@[simp] theorem Fl.of_bad {α : Type} (f : α → Fl) : Fl.of .bad f = .bad := rfl
def freeze (env : Env) (i : Nat) : Env := match env[i]? with
  | some s => env.set i s.un
  | none => env
def whileL (t : Env → R Bool) (b : Env → Fl) : Nat → Env → Fl
  | 0, _ => .bad
  | n + 1, env => Fl.of (t env) fun r => if r then (match b env with
      | .nx env' => whileL t b n env'
      | .brk env' => .nx env'
      | f => f) else .nx env
def forL (bind : Env → D → R Env) (b : Env → Fl) : List D → Env → Fl
  | [], env => .nx env
  | d :: ds, env => match bind env d with
    | .ok env1 => (match b env1 with
      | .nx env' => forL bind b ds env'
      | .brk env' => .nx env'
      | f => f)
    | _ => .bad
def subC (c cc : Nat) : Bool := decide (c = cc) || decide (cc = 11)
def sRefused : Str := "refused"
def sRow : Str := "row"
def hdl (k c : Nat) (p : D) : D := match k with
  | 0 => .tup [.str sRefused, .int c]
  | _ => .tup [.str sRow, p, .tup [.str sRefused, .int c]]
def ownOf (d : D) : Fl → Fl := fun f => match d with
  | .lst _ => f
  | .dct _ _ => f
  | _ => .bad
def exStep (t j : Nat) (env : Env) (d : D) : R Env := if t < env.length && !isOwn env[t]? then (match d, env[j]? with
  | .lst es, some (.ow (.lst xs)) => if xs.length + es.length ≤ sizeLine then .ok ((env.set t (.sh d)).set j (.ow (.lst (xs ++ es)))) else .bad
  | _, _ => .bad) else .bad
def exAll (t j : Nat) : List D → Env → R Env
  | [], env => .ok env
  | d :: ds, env => (exStep t j env d).bind (exAll t j ds)
mutual
def evS : Env → S → Fl
  | env, .set i e => Fl.of (evE P env e) fun d => Fl.of (setE env i (.sh d)) .nx
  | env, .own i e => Fl.of (evE P env e) fun d => ownOf d (Fl.of (setE env i (.ow d)) .nx)
  | env, .own2 i n => Fl.of (setE env i (.o2 (List.replicate n []))) .nx
  | env, .unp is e => Fl.of (evE P env e) fun d => Fl.of (bindT env (.many is) d) .nx
  | env, .app i e => match env[i]? with
    | some (.ow (.lst ds)) => Fl.of (evE P env e) fun d => if ds.length < sizeLine then .nx (env.set i (.ow (.lst (ds ++ [d])))) else .bad
    | _ => .bad
  | env, .ext i e => match env[i]? with
    | some (.ow (.lst ds)) => Fl.of (evE P env e) fun d => match d with
      | .lst es => if ds.length + es.length ≤ sizeLine then .nx (env.set i (.ow (.lst (ds ++ es)))) else .bad
      | _ => .bad
    | _ => .bad
  | env, .put i k v => match env[i]? with
    | some (.ow (.dct t kvs)) => Fl.of (evE P env v) fun v => Fl.of (evE P env k) fun k => Fl.of (R.ofO (keyOf t k)) fun k =>
        if kvs.length < sizeLine then .nx (env.set i (.ow (.dct t (dput kvs k v)))) else .bad
    | _ => .bad
  | env, .rem i e => match env[i]? with
    | some (.ow (.lst ds)) => Fl.of (evE P env e) fun d => if ck 8 d.py && ds.all (fun y => ck 8 y.py) then
        (match ds.findIdx? (fun y => PyData.eqv y.py d.py) with
        | some j => .nx (env.set i (.ow (.lst (ds.eraseIdx j))))
        | none => .bad) else .bad
    | _ => .bad
  | env, .apop i j k => match env[i]?, env[j]? with
    | some (.ow (.lst ds)), some (.ow (.lst es)) => Fl.of (evE P env k) fun k => (match k with
      | .int k => (match ixN es.length k with
        | some m => (match es[m]? with
          | some d => if i ≠ j ∧ ds.length < sizeLine then .nx ((env.set i (.ow (.lst (ds ++ [d])))).set j (.ow (.lst (es.eraseIdx m)))) else .bad
          | none => .bad)
        | none => .bad)
      | _ => .bad)
    | _, _ => .bad
  | env, .popto j i => match env[i]? with
    | some (.ow (.lst ds)) => (match ds.getLast? with
      | some d => if i ≠ j then Fl.of (setE (env.set i (.ow (.lst ds.dropLast))) j (.sh d)) .nx else .bad
      | none => .bad)
    | _ => .bad
  | env, .app2 i k e => match env[i]? with
    | some (.o2 xs) => Fl.of (evE P env k) fun k => match k with
      | .int k => (match ixN xs.length k with
        | some j => Fl.of (evE P env e) fun d => (match d with
          | .str x => if (xs.getD j []).length < 1000 then .nx (env.set i (.o2 (xs.set j (xs.getD j [] ++ [.str x])))) else .bad
          | _ => .bad)
        | none => .bad)
      | _ => .bad
    | _ => .bad
  | env, .ex e => Fl.of (evE P env e) fun _ => .nx env
  | env, .iff c a b => Fl.of (evE P env c) fun d => Fl.of (asB d) fun r => if r then evSL env a else evSL env b
  | env, .whl n c b => whileL (fun env => (evE P env c).bind asB) (fun env => evSL env b) n env
  | env, .frr tg it b => Fl.of (evI P env it) fun ds => forL (fun env d => bindT env tg d) (fun env => evSL env b) ds env
  | env, .ret e => Fl.of (evE P env e) .ret
  | _, .retn => .ret .non
  | _, .rais c => .exc c .non
  | env, .raisn c e => Fl.of (evE P env e) fun d => match d with
    | .non => .exc c .non
    | .int i => .exc c (.int i)
    | _ => .bad
  | env, .brk => .brk env
  | env, .pass => .nx env
  | env, .tri b hs => match evSL env b with
    | .exc c p => if c < 11 then (match hs.find? (fun h => subC c h.1) with
      | some h => .ret (hdl h.2 c p)
      | none => .exc c p) else .bad
    | f => f
  | env, .exall t i j => match env[i]? with
    | some (.ow (.lst ds)) => if t ≠ i ∧ t ≠ j ∧ i ≠ j then Fl.of (exAll t j ds env) .nx else .bad
    | _ => .bad
def evSL : Env → SL → Fl
  | env, .nil => .nx env
  | env, .cons s r => match evS env s with
    | .nx env' => evSL env' r
    | f => f
  | env, .fz i r => evSL (freeze env i) r
end
end
structure Fn where
  np : Nat
  nn : Nat
  body : SL
def startE (F : Fn) (ds : List D) : Env := ds.map .sh ++ List.replicate (F.nn - ds.length) .em
def runFn (P : Pr) (F : Fn) (ds : List D) : R D := if ds.length = F.np then (match evSL P (startE F ds) F.body with
  | .ret d => .ok d
  | .nx _ => .ok .non
  | .exc c p => .exc c p
  | _ => .bad) else .bad
def callN (T : Nat → Option Fn) (gl : Nat → D) : Nat → Nat → List D → R D
  | 0, _, _ => .bad
  | n + 1, f, ds => match T f with
    | some F => runFn ⟨callN T gl n, gl⟩ F ds
    | none => .bad
end Pu
end
section
set_option maxRecDepth 100000
namespace Pu
open PySem PySem.Spec L2
def cont : HO → HO
  | .frz _ u => u
  | o => o
def isDct : HO → Bool
  | .dK _ => true
  | .dT _ => true
  | _ => false
def Le (H H' : Hp) : Prop := ∀ a o, H a = some o → H' a = some o ∨ (isDct (cont o) = true ∧ ∃ o', H' a = some o' ∧ cont o' = cont o)
theorem Le.of {H H' : Hp} (s : Same H H') : Le H H' := fun a o e => .inl (s a o e)
theorem Same.upd {H : Hp} {p : Addr} {o : HO} (h : H p = none) : Same H (upd H p o) := fun b u e => by
  rw [upd_ne (ne_of_none e h)]; exact e
open Classical in
noncomputable def hid (S : Addr → Prop) (H : Hp) : Hp := fun a => if S a then none else H a
theorem hid_iff {S : Addr → Prop} {H : Hp} {a : Addr} {o : HO} : hid S H a = some o ↔ ¬ S a ∧ H a = some o := by
  unfold hid
  by_cases h : S a
  · simp [h]
  · simp [h]
theorem hid_same {S : Addr → Prop} {H : Hp} : Same (hid S H) H := fun a o e => (hid_iff.mp e).2
theorem hid_mono {S S' : Addr → Prop} {H H' : Hp} (s : Same H H') (h : ∀ a o, H a = some o → S' a → S a) : Same (hid S H) (hid S' H') := fun a o e => by
  obtain ⟨n, e⟩ := hid_iff.mp e
  exact hid_iff.mpr ⟨fun z => n (h a o e z), s a o e⟩
theorem hid_upd {S : Addr → Prop} {H : Hp} {p : Addr} {o : HO} (h : S p) : hid S (upd H p o) = hid S H := by
  funext a
  unfold hid
  by_cases ha : S a
  · simp [ha]
  · have ne : a ≠ p := fun e => ha (e ▸ h)
    simp [ha, upd_ne ne]
abbrev wrap {α : Type} (kvs : List (Key × α)) : List (List Key × α) := kvs.map fun p => ([p.1], p.2)
mutual
inductive Rep (fa : Nat → Option Addr) (K : PySem.W.Frag) (H : Hp) : V → D → Prop
  | non : Rep fa K H .non .non
  | bl (b : Bool) : Rep fa K H (.bl b) (.bl b)
  | int (i : Int) : Rep fa K H (.int i) (.int i)
  | str (x : Str) : Rep fa K H (.str x) (.str x)
  | fn (i : Nat) {a : Addr} : fa i = some a → Rep fa K H (.ref a) (.fn i)
  | scr {a : Addr} {ns : List Int} : SqL K H a (ns.map V.int) → ns.length ≤ 63 → Rep fa K H (.ref a) (.scr ns)
  | tup {a : Addr} {vs : List V} {ds : List D} : H a = some (.tup vs) → vs.length ≤ sizeLine → RepL fa K H vs ds → Rep fa K H (.ref a) (.tup ds)
  | lst {a : Addr} {vs : List V} {ds : List D} : H a = some (.lst vs) → vs.length ≤ sizeLine → RepL fa K H vs ds → Rep fa K H (.ref a) (.lst ds)
  | dK {a : Addr} {kvs : List (Key × V)} {kds : List (List Key × D)} : Rd H a (.dK kvs) → kvs.length ≤ sizeLine → RepKV fa K H (wrap kvs) kds → Rep fa K H (.ref a) (.dct false kds)
  | dT {a : Addr} {kvs : List (List Key × V)} {kds : List (List Key × D)} : Rd H a (.dT kvs) → kvs.length ≤ sizeLine → RepKV fa K H kvs kds → (∀ p ∈ kvs, p.1.length ≤ sizeLine) → Rep fa K H (.ref a) (.dct true kds)
inductive RepL (fa : Nat → Option Addr) (K : PySem.W.Frag) (H : Hp) : List V → List D → Prop
  | nil : RepL fa K H [] []
  | cons {v : V} {vs : List V} {d : D} {ds : List D} : Rep fa K H v d → RepL fa K H vs ds → RepL fa K H (v :: vs) (d :: ds)
inductive RepKV (fa : Nat → Option Addr) (K : PySem.W.Frag) (H : Hp) : List (List Key × V) → List (List Key × D) → Prop
  | nil : RepKV fa K H [] []
  | cons {k : List Key} {v : V} {vs : List (List Key × V)} {d : D} {ds : List (List Key × D)} : Rep fa K H v d → RepKV fa K H vs ds → RepKV fa K H ((k, v) :: vs) ((k, d) :: ds)
end
section
variable {fa : Nat → Option Addr} {K : PySem.W.Frag} {H H' : Hp}
theorem Le.rd {a : Addr} {u : HO} (l : Le H H') (hu : isDct u = true) (r : Rd H a u) : Rd H' a u := by
  have key : ∀ o, H a = some o → cont o = u → Rd H' a u := fun o e c => by
    rcases l a o e with e' | ⟨_, o', e', c'⟩
    · cases o with
      | frz ob w => have : w = u := c; subst this; exact .inr ⟨ob, e'⟩
      | _ => exact .inl (by rw [e']; exact congrArg some c)
    · rw [c] at c'
      cases o' with
      | frz ob w => have : w = u := c'; subst this; exact .inr ⟨ob, e'⟩
      | _ => exact .inl (by rw [e']; exact congrArg some c')
  rcases r with r | ⟨ob, r⟩
  · refine key u r ?_
    cases u with
    | frz _ _ => cases hu
    | _ => rfl
  · exact key _ r rfl
theorem Le.plain {a : Addr} {o : HO} (l : Le H H') (h : isDct (cont o) = false) (e : H a = some o) : H' a = some o := by
  rcases l a o e with e' | ⟨c, _⟩
  · exact e'
  · rw [h] at c; cases c
theorem Le.sq {a : Addr} {xs : List V} (l : Le H H') (h : SqL K H a xs) : SqL K H' a xs := by
  rcases h with ((h | ⟨o, h⟩) | h)
  · exact .inl (.inl (l.plain rfl h))
  · exact .inl (.inr ⟨o, l.plain rfl h⟩)
  · exact .inr h
mutual
theorem Rep.mono (l : Le H H') : ∀ {v : V} {d : D}, Rep fa K H v d → Rep fa K H' v d
  | _, _, .non => .non
  | _, _, .bl b => .bl b
  | _, _, .int i => .int i
  | _, _, .str x => .str x
  | _, _, .fn i h => .fn i h
  | _, _, .scr h n => .scr (l.sq h) n
  | _, _, .tup h n r => .tup (l.plain rfl h) n (RepL.mono l r)
  | _, _, .lst h n r => .lst (l.plain rfl h) n (RepL.mono l r)
  | _, _, .dK h n r => .dK (l.rd rfl h) n (RepKV.mono l r)
  | _, _, .dT h n r z => .dT (l.rd rfl h) n (RepKV.mono l r) z
theorem RepL.mono (l : Le H H') : ∀ {v : List V} {d : List D}, RepL fa K H v d → RepL fa K H' v d
  | _, _, .nil => .nil
  | _, _, .cons h t => .cons (Rep.mono l h) (RepL.mono l t)
theorem RepKV.mono (l : Le H H') : ∀ {v : List (List Key × V)} {d : List (List Key × D)}, RepKV fa K H v d → RepKV fa K H' v d
  | _, _, .nil => .nil
  | _, _, .cons h t => .cons (Rep.mono l h) (RepKV.mono l t)
end
theorem RepL.length {vs : List V} {ds : List D} (h : RepL fa K H vs ds) : vs.length = ds.length := by
  induction vs
    generalizing ds with
  | nil => cases h; rfl
  | cons v vs ih => cases h with | cons h t => simp [ih t]
theorem RepL.get {vs : List V} {ds : List D} (h : RepL fa K H vs ds) {i : Nat} {d : D} (e : ds[i]? = some d) : ∃ v, vs[i]? = some v ∧ Rep fa K H v d := by
  induction vs generalizing ds i with
  | nil => cases h; simp at e
  | cons v vs ih =>
    cases h with
    | cons h t =>
      cases i with
      | zero => simp at e; subst e; exact ⟨v, rfl, h⟩
      | succ i => simp at e; obtain ⟨u, h1, h2⟩ := ih t e; exact ⟨u, by simpa using h1, h2⟩
theorem RepL.get' {vs : List V} {ds : List D} (h : RepL fa K H vs ds) {i : Nat} {v : V} (e : vs[i]? = some v) : ∃ d, ds[i]? = some d ∧ Rep fa K H v d := by
  induction vs generalizing ds i with
  | nil => simp at e
  | cons v vs ih =>
    cases h with
    | cons h t =>
      cases i with
      | zero => simp at e; subst e; exact ⟨_, rfl, h⟩
      | succ i => simp at e; obtain ⟨u, h1, h2⟩ := ih t e; exact ⟨u, by simpa using h1, h2⟩
theorem RepL.append {vs ws : List V} {ds es : List D} (h : RepL fa K H vs ds) (h' : RepL fa K H ws es) : RepL fa K H (vs ++ ws) (ds ++ es) := by
  induction vs
    generalizing ds with
  | nil => cases h; exact h'
  | cons v vs ih => cases h with | cons h t => exact .cons h (ih t)
theorem RepL.drop {vs : List V} {ds : List D} (h : RepL fa K H vs ds) (n : Nat) : RepL fa K H (vs.drop n) (ds.drop n) := by
  induction n generalizing vs ds with
  | zero => exact h
  | succ n ih => cases h with
    | nil => exact .nil
    | cons h t => exact ih t
theorem RepL.take {vs : List V} {ds : List D} (h : RepL fa K H vs ds) (n : Nat) : RepL fa K H (vs.take n) (ds.take n) := by
  induction n generalizing vs ds with
  | zero => exact .nil
  | succ n ih => cases h with
    | nil => exact .nil
    | cons h t => exact .cons h (ih t)
theorem RepL.reverse {vs : List V} {ds : List D} (h : RepL fa K H vs ds) : RepL fa K H vs.reverse ds.reverse := by
  induction vs
    generalizing ds with
  | nil => cases h; exact .nil
  | cons v vs ih => cases h with
    | cons h t => rw [List.reverse_cons, List.reverse_cons]; exact (ih t).append (.cons h .nil)
theorem RepL.eraseIdx {vs : List V} {ds : List D} (h : RepL fa K H vs ds) (n : Nat) : RepL fa K H (vs.eraseIdx n) (ds.eraseIdx n) := by
  induction n generalizing vs ds with
  | zero => cases h with
    | nil => exact .nil
    | cons h t => exact t
  | succ n ih => cases h with
    | nil => exact .nil
    | cons h t => exact .cons h (ih t)
theorem RepL.dropLast {vs : List V} {ds : List D} (h : RepL fa K H vs ds) : RepL fa K H vs.dropLast ds.dropLast := by
  rw [List.dropLast_eq_take, List.dropLast_eq_take, h.length]
  exact h.take _
theorem RepL.set {vs : List V} {ds : List D} (h : RepL fa K H vs ds) {v : V} {d : D} (r : Rep fa K H v d) (n : Nat) : RepL fa K H (vs.set n v) (ds.set n d) := by
  induction n generalizing vs ds with
  | zero => cases h with
    | nil => exact .nil
    | cons h t => exact .cons r t
  | succ n ih => cases h with
    | nil => exact .nil
    | cons h t => exact .cons h (ih t)
theorem RepKV.length {vs : List (List Key × V)} {ds : List (List Key × D)} (h : RepKV fa K H vs ds) : vs.length = ds.length := by
  induction vs
    generalizing ds with
  | nil => cases h; rfl
  | cons v vs ih => cases h with | cons h t => simp [ih t]
theorem RepKV.keys {vs : List (List Key × V)} {ds : List (List Key × D)} (h : RepKV fa K H vs ds) : vs.map (·.1) = ds.map (·.1) := by
  induction vs
    generalizing ds with
  | nil => cases h; rfl
  | cons v vs ih => cases h with | cons h t => simp [ih t]
theorem RepKV.find {vs : List (List Key × V)} {ds : List (List Key × D)} (h : RepKV fa K H vs ds) (k : List Key) : (valV vs k = none ∧ dfind ds k = none) ∨ ∃ v d, valV vs k = some v ∧ dfind ds k = some d ∧ Rep fa K H v d := by
  induction vs
    generalizing ds with
  | nil => cases h; exact .inl ⟨rfl, rfl⟩
  | cons p vs ih =>
    cases h with
    | @cons k' v _ d _ h t =>
      by_cases e : k' = k
      · subst e
        exact .inr ⟨v, d, valV_pos rfl, by simp [dfind], h⟩
      · rcases ih t with ⟨h1, h2⟩ | ⟨v', d', h1, h2, h3⟩
        · exact .inl ⟨by rw [valV_neg e]; exact h1, by simp only [dfind, List.find?_cons, decide_eq_false e] at h2 ⊢; exact h2⟩
        · exact .inr ⟨v', d', by rw [valV_neg e]; exact h1, by simp only [dfind, List.find?_cons, decide_eq_false e] at h2 ⊢; exact h2, h3⟩
theorem RepKV.append {vs ws : List (List Key × V)} {ds es : List (List Key × D)} (h : RepKV fa K H vs ds) (h' : RepKV fa K H ws es) : RepKV fa K H (vs ++ ws) (ds ++ es) := by
  induction vs
    generalizing ds with
  | nil => cases h; exact h'
  | cons v vs ih => cases h with | cons h t => exact .cons h (ih t)
theorem RepKV.put {vs : List (List Key × V)} {ds : List (List Key × D)} (h : RepKV fa K H vs ds) (k : List Key) {v : V} {d : D} (r : Rep fa K H v d) : RepKV fa K H (putK vs k v) (dput ds k d) := by
  have any : ∀ {vs : List (List Key × V)} {ds : List (List Key × D)}, RepKV fa K H vs ds → (vs.any fun kv => decide (kv.1 = k)) = ds.any fun kv => decide (kv.1 = k) := fun {vs ds} h => by
    have e := h.keys
    have e1 : (vs.any fun kv => decide (kv.1 = k)) = (vs.map (·.1)).any fun x => decide (x = k) := by rw [List.any_map]; rfl
    have e2 : (ds.any fun kv => decide (kv.1 = k)) = (ds.map (·.1)).any fun x => decide (x = k) := by rw [List.any_map]; rfl
    rw [e1, e2, e]
  have repl : ∀ {vs : List (List Key × V)} {ds : List (List Key × D)}, RepKV fa K H vs ds → RepKV fa K H (vs.map fun kv => if kv.1 = k then (kv.1, v) else kv) (ds.map fun kv => if kv.1 = k then (kv.1, d) else kv) := fun {vs ds} h => by
    induction vs
      generalizing ds with
    | nil => cases h; exact .nil
    | cons p vs ih =>
      cases h with
      | @cons k' _ _ _ _ h t =>
        simp only [List.map_cons]
        by_cases e : k' = k
        · simp only [e, if_true]; exact .cons r (ih t)
        · simp only [e, if_false]; exact .cons h (ih t)
  unfold putK dput
  rw [any h]
  split
  · exact repl h
  · exact h.append (.cons r .nil)
theorem wrap_val {α : Type} (kvs : List (Key × V)) (k : Key) : valV (wrap kvs) [k] = valV kvs k := by
  induction kvs with
  | nil => rfl
  | cons p r ih =>
    by_cases e : p.1 = k
    · rw [valV_pos e]; exact valV_pos (by simp [e])
    · rw [valV_neg e, ← ih]; exact valV_neg (by simp [e])
theorem wrap_put (kvs : List (Key × V)) (k : Key) (v : V) : putK (wrap kvs) [k] v = wrap (putK kvs k v) := by
  unfold putK
  have e : ((wrap kvs).any fun kv => decide (kv.1 = [k])) = kvs.any fun kv => decide (kv.1 = k) := by
    rw [List.any_map]
    congr 1
    funext p
    simp
  rw [e]
  split
  · simp only [wrap, List.map_map]
    congr 1
    funext p
    by_cases h : p.1 = k
    · simp [h]
    · simp [h]
  · simp [wrap]
mutual
theorem imm_hid {S : Addr → Prop} (hS : ∀ a, S a → ∃ o, H a = some o ∧ ∀ xs, o ≠ .tup xs) : ∀ {v : V} {d : D}, d.imm = true → Rep fa K H v d → Rep fa K (hid S H) v d
  | _, _, _, .non => .non
  | _, _, _, .bl b => .bl b
  | _, _, _, .int i => .int i
  | _, _, _, .str x => .str x
  | _, _, _, .fn i h => .fn i h
  | _, _, i, .scr _ _ => nomatch i
  | _, _, i, .tup h n r => .tup (hid_iff.mpr ⟨fun z => (by
      obtain ⟨o, e, nt⟩ := hS _ z
      rw [h] at e
      exact nt _ (Option.some.inj e).symm), h⟩) n (imm_hidL hS i r)
  | _, _, i, .lst _ _ _ => nomatch i
  | _, _, i, .dK _ _ _ => nomatch i
  | _, _, i, .dT _ _ _ _ => nomatch i
theorem imm_hidL {S : Addr → Prop} (hS : ∀ a, S a → ∃ o, H a = some o ∧ ∀ xs, o ≠ .tup xs) : ∀ {v : List V} {d : List D}, D.imms d = true → RepL fa K H v d → RepL fa K (hid S H) v d
  | _, _, _, .nil => .nil
  | _, _, i, .cons h t => .cons (imm_hid hS (by simp only [D.imms, Bool.and_eq_true] at i; exact i.1) h) (imm_hidL hS (by simp only [D.imms, Bool.and_eq_true] at i; exact i.2) t)
end
end
end Pu
end
section
set_option maxRecDepth 100000
namespace Pu
open PySem PySem.Spec L2
structure Gc where
  fa : Nat → Option Addr
  cl : Nat → Addr
abbrev NT (H : Hp) (a : Addr) : Prop := ∃ o, H a = some o ∧ ∀ xs, o ≠ .tup xs
abbrev SS (S0 : Addr → Prop) (own : Nat → List Addr) (a : Addr) : Prop := S0 a ∨ ∃ i, a ∈ own i
def OwnAt (fa : Nat → Option Addr) (K : PySem.W.Frag) (Hs H : Hp) (a : Addr) (d : D) : Prop :=
  (∃ vs ds, d = .lst ds ∧ H a = some (.lst vs) ∧ vs.length ≤ sizeLine ∧ RepL fa K Hs vs ds) ∨
  (∃ kvs kds, d = .dct false kds ∧ H a = some (.dK kvs) ∧ kvs.length ≤ sizeLine ∧ RepKV fa K Hs (wrap kvs) kds) ∨
  (∃ kvs kds, d = .dct true kds ∧ H a = some (.dT kvs) ∧ kvs.length ≤ sizeLine ∧ RepKV fa K Hs kvs kds ∧ ∀ p ∈ kvs, p.1.length ≤ sizeLine)
section
variable {fa : Nat → Option Addr} {K : PySem.W.Frag} {H H' Hs Hs' : Hp} {a : Addr} {d : D}
theorem OwnAt.rep (h : OwnAt fa K Hs H a d) (e : ∀ o, H a = some o → Hs' a = some o) (l : Same Hs Hs') : Rep fa K Hs' (.ref a) d := by
  rcases h with ⟨vs, ds, rfl, h, n, r⟩ | ⟨kvs, kds, rfl, h, n, r⟩ | ⟨kvs, kds, rfl, h, n, r, z⟩
  · exact .lst (e _ h) n (r.mono (Le.of l))
  · exact .dK (.inl (e _ h)) n (r.mono (Le.of l))
  · exact .dT (.inl (e _ h)) n (r.mono (Le.of l)) z
theorem OwnAt.nt (h : OwnAt fa K Hs H a d) : NT H a := by
  rcases h with ⟨vs, ds, rfl, h, n, r⟩ | ⟨kvs, kds, rfl, h, n, r⟩ | ⟨kvs, kds, rfl, h, n, r, z⟩
  · exact ⟨_, h, fun _ z => nomatch z⟩
  · exact ⟨_, h, fun _ z => nomatch z⟩
  · exact ⟨_, h, fun _ z => nomatch z⟩
theorem OwnAt.mono (h : OwnAt fa K Hs H a d) (e : ∀ o, H a = some o → H' a = some o) (l : Le Hs Hs') : OwnAt fa K Hs' H' a d := by
  rcases h with ⟨vs, ds, rfl, h, n, r⟩ | ⟨kvs, kds, rfl, h, n, r⟩ | ⟨kvs, kds, rfl, h, n, r, z⟩
  · exact .inl ⟨vs, ds, rfl, e _ h, n, r.mono l⟩
  · exact .inr (.inl ⟨kvs, kds, rfl, e _ h, n, r.mono l⟩)
  · exact .inr (.inr ⟨kvs, kds, rfl, e _ h, n, r.mono l, z⟩)
end
structure ER (G : Gc) (K : PySem.W.Frag) (S0 : Addr → Prop) (HF : Hp) (own : Nat → List Addr) (σ : St) (H : Hp) (env : Env) : Prop where
  len : σ.length = env.length
  sh : ∀ (i : Nat) (d : D), env[i]? = some (.sh d) → ∃ v, σ[i]? = some (some v) ∧ Rep G.fa K (hid (SS S0 own) H) v d
  ow : ∀ (i : Nat) (d : D), env[i]? = some (.ow d) → ∃ a, own i = [a] ∧ σ[i]? = some (some (.ref a)) ∧ OwnAt G.fa K (hid (SS S0 own) H) H a d
  o2 : ∀ (i : Nat) (xs : List (List D)), env[i]? = some (.o2 xs) → ∃ a as, own i = a :: as ∧ σ[i]? = some (some (.ref a)) ∧ H a = some (.lst (as.map .ref)) ∧ as.length = xs.length ∧ xs.length ≤ 1000 ∧
    ∀ (j : Nat) (b : Addr) (ds : List D), as[j]? = some b → xs[j]? = some ds → ∃ vs, H b = some (.lst vs) ∧ vs.length ≤ sizeLine ∧ RepL G.fa K (hid (SS S0 own) H) vs ds
  no : ∀ (i : Nat) (a : Addr), a ∈ own i → isOwn env[i]? = true
  nd : ∀ i, (own i).Nodup
  inj : ∀ i j a, a ∈ own i → a ∈ own j → i = j
  hf : Same HF H
  fr : ∀ i a, a ∈ own i → HF a = none
  tr : ∀ i a, a ∈ own i → NT H a
  s0 : ∀ a, S0 a → NT HF a
section
variable {G : Gc} {K : PySem.W.Frag} {S0 : Addr → Prop} {HF HF' : Hp} {own : Nat → List Addr} {σ : St} {H H' : Hp} {env : Env}
theorem ER.nt (h : ER G K S0 HF own σ H env) : ∀ a, SS S0 own a → NT H a := fun a z => by
  rcases z with z | ⟨i, z⟩
  · obtain ⟨o, e, n⟩ := h.s0 a z
    exact ⟨o, h.hf a o e, n⟩
  · exact h.tr i a z
theorem ER.same (h : ER G K S0 HF own σ H env) (s : Same H H') : ER G K S0 HF own σ H' env where
  len := h.len
  sh := fun i d e => by
    obtain ⟨v, h1, h2⟩ := h.sh i d e
    exact ⟨v, h1, h2.mono (Le.of (hid_mono s fun _ _ _ z => z))⟩
  ow := fun i d e => by
    obtain ⟨a, h1, h2, h3⟩ := h.ow i d e
    exact ⟨a, h1, h2, h3.mono (s a) (Le.of (hid_mono s fun _ _ _ z => z))⟩
  o2 := fun i xs e => by
    obtain ⟨a, as, h1, h2, h3, h4, h5, h6⟩ := h.o2 i xs e
    refine ⟨a, as, h1, h2, s _ _ h3, h4, h5, fun j b ds e1 e2 => ?_⟩
    obtain ⟨vs, g1, g2, g3⟩ := h6 j b ds e1 e2
    exact ⟨vs, s _ _ g1, g2, g3.mono (Le.of (hid_mono s fun _ _ _ z => z))⟩
  no := h.no
  nd := h.nd
  inj := h.inj
  hf := h.hf.trans s
  fr := h.fr
  tr := fun i a z => let ⟨o, e, n⟩ := h.tr i a z; ⟨o, s a o e, n⟩
  s0 := h.s0
theorem ER.un (h : ER G K S0 HF own σ H env) : ER G K S0 HF (fun _ => []) σ H (unown env) where
  len := by rw [h.len]; simp [unown]
  sh := fun i d e => by
    have key : Same (hid (SS S0 own) H) (hid (SS S0 (fun _ => [])) H) := hid_mono (fun _ _ z => z) fun a o _ z => z.imp id fun ⟨_, w⟩ => nomatch w
    unfold unown at e
    rw [List.getElem?_map] at e
    cases q : env[i]? with
    | none => simp only [q] at e; cases e
    | some s =>
      rw [q] at e
      have hn : ∀ a, a ∈ own i → ¬ S0 a := fun a ha hs => by
        obtain ⟨o, e1, _⟩ := h.s0 a hs
        rw [h.fr i a ha] at e1; cases e1
      have vis : ∀ a, a ∈ own i → ∀ o, H a = some o → hid (SS S0 (fun _ => [])) H a = some o := fun a ha o e1 => hid_iff.mpr ⟨fun z => z.elim (hn a ha) (fun ⟨_, w⟩ => nomatch w), e1⟩
      cases s with
      | em => cases e
      | sh d' =>
        cases e
        obtain ⟨v, h1, h2⟩ := h.sh i _ q
        exact ⟨v, h1, h2.mono (Le.of key)⟩
      | ow d' =>
        cases e
        obtain ⟨a, h1, h2, h3⟩ := h.ow i _ q
        exact ⟨.ref a, h2, h3.rep (fun o e1 => vis a (by rw [h1]; exact List.mem_cons_self) o e1) key⟩
      | o2 xs =>
        cases e
        obtain ⟨a, as, h1, h2, h3, h4, h5, h6⟩ := h.o2 i _ q
        refine ⟨.ref a, h2, .lst (vis a (by rw [h1]; exact List.mem_cons_self) _ h3) (by rw [List.length_map, h4]; exact Nat.le_trans h5 (by decide)) ?_⟩
        have go : ∀ (as : List Addr) (xs : List (List D)), as.length = xs.length → (∀ b ∈ as, b ∈ own i) → (∀ (j : Nat) (b : Addr) (ds : List D), as[j]? = some b → xs[j]? = some ds → ∃ vs, H b = some (.lst vs) ∧ vs.length ≤ sizeLine ∧ RepL G.fa K (hid (SS S0 own) H) vs ds) →
            RepL G.fa K (hid (SS S0 (fun _ => [])) H) (as.map V.ref) (xs.map D.lst) := fun as => by
          induction as with
          | nil => intro xs l _ _; cases xs with
            | nil => exact .nil
            | cons _ _ => cases l
          | cons b as ih =>
            intro xs l hb hh
            cases xs with
            | nil => cases l
            | cons x xs =>
              obtain ⟨vs, g1, g2, g3⟩ := hh 0 b x rfl rfl
              exact .cons (.lst (vis b (hb b List.mem_cons_self) _ g1) g2 (g3.mono (Le.of key))) (ih xs (by simpa using l) (fun b hb' => hb b (List.mem_cons_of_mem _ hb')) fun j b ds e1 e2 => hh (j + 1) b ds (by simpa using e1) (by simpa using e2))
        exact go as xs h4 (fun b hb => by rw [h1]; exact List.mem_cons_of_mem _ hb) h6
  ow := fun i d e => by
    exfalso
    unfold unown at e
    rw [List.getElem?_map] at e
    cases q : env[i]? with
    | none => simp only [q] at e; cases e
    | some s => rw [q] at e; cases s <;> cases e
  o2 := fun i d e => by
    exfalso
    unfold unown at e
    rw [List.getElem?_map] at e
    cases q : env[i]? with
    | none => simp only [q] at e; cases e
    | some s => rw [q] at e; cases s <;> cases e
  no := fun i a z => nomatch z
  nd := fun _ => .nil
  inj := fun _ _ _ z => nomatch z
  hf := h.hf
  fr := fun _ _ z => nomatch z
  tr := fun _ _ z => nomatch z
  s0 := h.s0
end
def VP (v : V) (p : D) : Prop := (v = .non ∧ p = .non) ∨ ∃ i, v = .int i ∧ p = .int i
def xNumber : Str := "number"
def ExAt (c : Nat) (p : D) (dd : Option Addr) (H : Hp) : Prop :=
  (c = 4 → ∃ a v, dd = some a ∧ H a = some (.xd [(xNumber, v)]) ∧ VP v p) ∧ (c ≠ 4 → dd = none)
def Pst (G : Gc) (K : PySem.W.Frag) (fr : Bool) (S : Addr → Prop) (H H' : Hp) (v : V) (d : D) : Prop := match fr with
  | true => ∃ p, v = .ref p ∧ H p = none ∧ OwnAt G.fa K (hid (fun a => S a ∨ a = p) H') H' p d
  | false => Rep G.fa K (hid S H') v d
section
variable {G : Gc} {K : PySem.W.Frag} {S0 : Addr → Prop} {HF : Hp} {own : Nat → List Addr} {σ : St} {H H' : Hp} {env : Env} {S : Addr → Prop} {v : V} {d : D}
theorem Pst.rep {fr : Bool} (h : Pst G K fr S H H' v d) (hS : ∀ a, S a → NT H a) : Rep G.fa K (hid S H') v d := by
  cases fr with
  | false => exact h
  | true =>
    obtain ⟨p, rfl, hp, h⟩ := h
    refine h.rep (fun o e => hid_iff.mpr ⟨fun z => ?_, e⟩) (hid_mono (fun _ _ z => z) fun a o _ z => .inl z)
    obtain ⟨o, e, _⟩ := hS p z
    rw [hp] at e; cases e
end
def RT {α β : Type} (G : Gc) (W : WX) (σ : St) (H : Hp) (r : R α) (rel : β → Hp → α → Prop) (Q : β → Hp → Prop) : Prop := match r with
  | .ok d => ∀ v H', Same H H' → rel v H' d → Q v H'
  | .exc c p => ∀ dd H', Same H H' → ExAt c p dd H' → W (.ref (G.cl c)) dd σ H'
  | .bad => False
def tE (G : Gc) (K : PySem.W.Frag) (W : WX) (env : Env) (r : R D) (fr : Bool) : TE := fun σ H Q => ∃ S0 HF own, ER G K S0 HF own σ H env ∧ RT G W σ H r (fun v H' d => Pst G K fr (SS S0 own) H H' v d) Q
def tL (G : Gc) (K : PySem.W.Frag) (W : WX) (env : Env) (r : R (List D)) : TA := fun σ H Q => ∃ S0 HF own, ER G K S0 HF own σ H env ∧ RT G W σ H r (fun vs H' ds => RepL G.fa K (hid (SS S0 own) H') vs ds) Q
def tT (G : Gc) (K : PySem.W.Frag) (W : WX) (env : Env) (r : R Bool) : TT := fun σ H Q => ∃ S0 HF own, ER G K S0 HF own σ H env ∧ RT G W σ H r (fun b _ d => b = d) Q
section
variable {α β α' β' : Type} {G : Gc} {W : WX} {σ : St} {H H1 : Hp} {r : R α} {rel : β → Hp → α → Prop} {Q : β → Hp → Prop}
theorem RT.bind {f : α → R α'} {rel' : β' → Hp → α' → Prop} {Q' : β' → Hp → Prop} (h : RT G W σ H (r.bind f) rel' Q') :
    RT G W σ H r (fun _ _ _ => True) (fun (_ : β) _ => True) ∧ ∀ a, r = .ok a → RT G W σ H (f a) rel' Q' := by
  cases r with
  | ok a => exact ⟨fun _ _ _ _ => trivial, fun b e => by cases e; exact h⟩
  | exc c p => exact ⟨h, fun b e => nomatch e⟩
  | bad => exact h.elim
theorem RT.later (h : RT G W σ H r rel Q) (s : Same H H1) : RT G W σ H1 r rel Q := by
  cases r with
  | ok a => exact fun v H' s' q => h v H' (s.trans s') q
  | exc c p => exact fun dd H' s' q => h dd H' (s.trans s') q
  | bad => exact h
theorem RT.imp {rel' : β' → Hp → α → Prop} {Q' : β' → Hp → Prop} (h : RT G W σ H r rel Q) (hq : ∀ a, r = .ok a → (∀ v H', Same H H' → rel v H' a → Q v H') → ∀ v H', Same H H' → rel' v H' a → Q' v H') : RT G W σ H r rel' Q' := by
  cases r with
  | ok a => exact hq a rfl h
  | exc c p => exact h
  | bad => exact h
end
end Pu
end
section
set_option maxRecDepth 100000
set_option maxHeartbeats 1000000
namespace Pu
open PySem PySem.Spec L2
section
variable {fa : Nat → Option Addr} {K : PySem.W.Frag} {H : Hp}
theorem plainAll_all : ∀ xs : List PyData, PyData.plainAll xs = xs.all PyData.plain
  | [] => rfl
  | x :: xs => by simp [PyData.plainAll, plainAll_all xs]
theorem depthAll_le : ∀ (xs : List PyData) (n : Nat), (∀ x ∈ xs, x.depth ≤ n) → PyData.depthAll xs ≤ n
  | [], _, _ => by simp [PyData.depthAll]
  | x :: xs, n, h => by
    simp only [PyData.depthAll]
    exact Nat.max_le.mpr ⟨h x List.mem_cons_self, depthAll_le xs n fun y hy => h y (List.mem_cons_of_mem _ hy)⟩
theorem ck_plain : ∀ (n : Nat) (d : PyData), ck n d = true → d.plain = true ∧ d.depth ≤ n
  | n, .none, _ => by simp [PyData.plain, PyData.depth]
  | n, .bool _, _ => by simp [PyData.plain, PyData.depth]
  | n, .int _, _ => by simp [PyData.plain, PyData.depth]
  | n, .str _, _ => by simp [PyData.plain, PyData.depth]
  | n, .dict _, h => by simp [ck] at h
  | 0, .list _, h => by simp [ck] at h
  | 0, .tuple _, h => by simp [ck] at h
  | n + 1, .list xs, h => by
    simp only [ck, List.all_eq_true] at h
    refine ⟨by simp only [PyData.plain, plainAll_all, List.all_eq_true]; exact fun x hx => (ck_plain n x (h x hx)).1, ?_⟩
    have := depthAll_le xs n fun x hx => (ck_plain n x (h x hx)).2
    simp only [PyData.depth]
    omega
  | n + 1, .tuple xs, h => by
    simp only [ck, List.all_eq_true] at h
    refine ⟨by simp only [PyData.plain, plainAll_all, List.all_eq_true]; exact fun x hx => (ck_plain n x (h x hx)).1, ?_⟩
    have := depthAll_le xs n fun x hx => (ck_plain n x (h x hx)).2
    simp only [PyData.depth]
    omega
theorem dp_ints (H : Hp) : ∀ ns : List Int, DpAll K H (ns.map V.int) (ns.map PyData.int)
  | [] => .nil
  | n :: ns => .cons (.int n) (dp_ints H ns)
mutual
theorem Rep.dp : ∀ {v : V} {d : D}, Rep fa K H v d → d.py.plain = true → Dp K H v d.py
  | _, _, .non, _ => .non
  | _, _, .bl b, _ => .bl b
  | _, _, .int i, _ => .int i
  | _, _, .str x, _ => .str x
  | _, _, .fn _ _, p => by simp [D.py, PyData.plain] at p
  | _, _, .scr (ns := ns) h _, _ => by simp only [D.py]; exact .lst h (dp_ints H ns)
  | _, _, .tup h _ r, p => by simp only [D.py]; exact .tup (SqT.of h) (RepL.dp r (by simpa only [D.py, PyData.plain] using p))
  | _, _, .lst h _ r, p => by simp only [D.py]; exact .lst (SqL.of h) (RepL.dp r (by simpa only [D.py, PyData.plain] using p))
  | _, _, .dK _ _ _, p => by simp [D.py, PyData.plain] at p
  | _, _, .dT _ _ _ _, p => by simp [D.py, PyData.plain] at p
theorem RepL.dp : ∀ {v : List V} {d : List D}, RepL fa K H v d → PyData.plainAll (D.pys d) = true → DpAll K H v (D.pys d)
  | _, _, .nil, _ => by simp only [D.pys]; exact .nil
  | _, _, .cons h t, p => by
    simp only [D.pys, PyData.plainAll, Bool.and_eq_true] at p ⊢
    exact .cons (Rep.dp h p.1) (RepL.dp t p.2)
end
end
def rG (G : Gc) (K : PySem.W.Frag) (g : D → D → R D) : R2 := fun x y H Q => ∃ S a b d, (∀ z, S z → NT H z) ∧ Rep G.fa K (hid S H) x a ∧ Rep G.fa K (hid S H) y b ∧ g a b = .ok d ∧ ∀ v H', Same H H' → Rep G.fa K (hid S H') v d → Q v H'
section
variable {X : Cx} {G : Gc} {n : Nat}
theorem un_hid {fa : Nat → Option Addr} {K : PySem.W.Frag} {S : Addr → Prop} {H : Hp} {v : V} {d : D} (h : Rep fa K (hid S H) v d) : Rep fa K H v d := h.mono (Le.of hid_same)
theorem un_hidL {fa : Nat → Option Addr} {K : PySem.W.Frag} {S : Addr → Prop} {H : Hp} {v : List V} {d : List D} (h : RepL fa K (hid S H) v d) : RepL fa K H v d := h.mono (Le.of hid_same)
theorem new_at {fa : Nat → Option Addr} {K : PySem.W.Frag} {S : Addr → Prop} {H : Hp} {p : Addr} {o : HO} (hS : ∀ z, S z → NT H z) (hp : H p = none) : hid S (upd H p o) p = some o := by
  refine hid_iff.mpr ⟨fun z => ?_, upd_same⟩
  obtain ⟨u, e, _⟩ := hS p z
  rw [hp] at e; cases e
theorem hid_new {S : Addr → Prop} {H : Hp} {p : Addr} {o : HO} (hp : H p = none) : Le (hid S H) (hid S (upd H p o)) := Le.of (hid_mono (Same.upd hp) fun _ _ _ z => z)
theorem new_tup {fa : Nat → Option Addr} {K : PySem.W.Frag} {S : Addr → Prop} {H : Hp} {p : Addr} {vs : List V} {ds : List D} (hS : ∀ z, S z → NT H z) (hp : H p = none) (r : RepL fa K (hid S H) vs ds) (hz : vs.length ≤ sizeLine) :
    Rep fa K (hid S (upd H p (.tup vs))) (.ref p) (.tup ds) := .tup (new_at (fa := fa) (K := K) hS hp) hz (r.mono (hid_new hp))
theorem new_lst {fa : Nat → Option Addr} {K : PySem.W.Frag} {S : Addr → Prop} {H : Hp} {p : Addr} {vs : List V} {ds : List D} (hS : ∀ z, S z → NT H z) (hp : H p = none) (r : RepL fa K (hid S H) vs ds) (hz : vs.length ≤ sizeLine) :
    Rep fa K (hid S (upd H p (.lst vs))) (.ref p) (.lst ds) := .lst (new_at (fa := fa) (K := K) hS hp) hz (r.mono (hid_new hp))
def bop : BO → Operator
  | .add => .Add | .sub => .Sub | .mul => .Mult | .mod => .Mod | .fdiv => .FloorDiv | .pow => .Pow
theorem small_ok {i : Int} (h : smallI i = true) : -(2 ^ 64) < i ∧ i < 2 ^ 64 := by
  have e : (2 : Int) ^ 64 = 18446744073709551616 := by decide
  rw [e]
  exact of_decide_eq_true h
theorem rep_flat {fa : Nat → Option Addr} {K : PySem.W.Frag} {H : Hp} {vs : List V} {ds : List D} (h : RepL fa K H vs ds) : ∀ k, RepL fa K H (List.replicate k vs).flatten (List.replicate k ds).flatten
  | 0 => .nil
  | k + 1 => by rw [List.replicate_succ, List.replicate_succ, List.flatten_cons, List.flatten_cons]; exact h.append (rep_flat h k)
theorem len_flat {α : Type} (xs : List α) : ∀ k, (List.replicate k xs).flatten.length = k * xs.length
  | 0 => by simp
  | k + 1 => by rw [List.replicate_succ, List.flatten_cons, List.length_append, len_flat xs k, Nat.succ_mul]; omega
theorem or_bin (o : BO) : OpR X (binaryOp (bop o)) (rG G X.K (binD o)) := by
  intro pins s σ H x y v w Q I rx ry h
  obtain ⟨S, a, b, d, hS, ra, rb, e, q⟩ := h
  cases o with
  | add =>
    cases a with
    | int i =>
      cases b with
      | int j =>
        cases ra; cases rb; cases e
        exact op_add pins s σ H _ _ v w Q I rx ry ⟨i, j, rfl, rfl, q _ H (Same.refl H) (.int _)⟩
      | _ => cases e
    | str i =>
      cases b with
      | str j =>
        cases ra; cases rb
        simp only [binD] at e
        split at e
        · rename_i hz
          cases e
          exact op_add_str pins s σ H _ _ v w Q I rx ry ⟨i, j, rfl, rfl, hz, q _ H (Same.refl H) (.str _)⟩
        · cases e
      | _ => cases e
    | lst xs =>
      cases b with
      | lst ys =>
        cases ra with | lst h1 n1 r1 => ?_
        cases rb with | lst h2 n2 r2 => ?_
        simp only [binD] at e
        split at e
        · rename_i hz
          cases e
          rw [← r1.length, ← r2.length] at hz
          refine op_cat pins s σ H _ _ v w Q I rx ry ⟨_, _, _, _, rfl, rfl, hid_same _ _ h1, hid_same _ _ h2, hz, fun p hp => q _ _ (Same.upd hp) (new_lst hS hp (r1.append r2) (by rw [List.length_append]; exact hz))⟩
        · cases e
      | _ => cases e
    | tup xs =>
      cases b with
      | tup ys =>
        cases ra with | @tup a1 vs1 _ h1 n1 r1 => ?_
        cases rb with | @tup a2 vs2 _ h2 n2 r2 => ?_
        simp only [binD] at e
        split at e
        · rename_i hz
          cases e
          rw [← r1.length, ← r2.length] at hz
          refine op_catA pins s σ H _ _ v w Q I rx ry ⟨_, _, _, _, rfl, rfl, SqT.of (hid_same _ _ h1), SqT.of (hid_same _ _ h2), hz, fun e0 => ?_, fun _ e0 => ?_, fun _ _ p hp => q _ _ (Same.upd hp) (new_tup hS hp (r1.append r2) (by rw [List.length_append]; exact hz))⟩
          · subst e0
            cases r1
            exact q _ H (Same.refl H) (.tup h2 n2 r2)
          · subst e0
            cases r2
            rw [List.append_nil] at q
            exact q _ H (Same.refl H) (.tup h1 n1 r1)
        · cases e
      | _ => cases e
    | _ => cases e
  | sub =>
    cases a with
    | int i =>
      cases b with
      | int j =>
        cases ra; cases rb; cases e
        exact op_sub pins s σ H _ _ v w Q I rx ry ⟨i, j, rfl, rfl, q _ H (Same.refl H) (.int _)⟩
      | _ => cases e
    | _ => cases e
  | mul =>
    cases a with
    | int i =>
      cases b with
      | int j =>
        cases ra; cases rb
        simp only [binD] at e
        split at e
        · rename_i hz
          cases e
          rw [Bool.or_eq_true] at hz
          exact op_mul pins s σ H _ _ v w Q I rx ry ⟨i, j, rfl, rfl, hz.imp small_ok small_ok, q _ H (Same.refl H) (.int _)⟩
        · cases e
      | _ => cases e
    | lst xs =>
      cases b with
      | int j =>
        cases ra with | lst h1 n1 r1 => ?_
        cases rb
        simp only [binD] at e
        split at e
        · rename_i hz
          cases e
          obtain ⟨z1, z2, z3⟩ := hz
          have zl : (List.replicate j.toNat _).flatten.length ≤ sizeLine := Nat.le_trans (Nat.le_of_eq (len_flat _ _)) (by
            rw [r1.length]
            refine Nat.le_trans (Nat.mul_le_mul (show j.toNat ≤ 1000 by omega) z3) (by rw [sizeLine_eq]; decide))
          refine op_rep pins s σ H _ _ v w Q I rx ry ⟨_, j, _, rfl, rfl, hid_same _ _ h1, by omega, by omega, by rw [Nat.mul_comm, ← len_flat]; exact zl, fun p hp => q _ _ (Same.upd hp) (new_lst hS hp (rep_flat r1 _) zl)⟩
        · cases e
      | _ => cases e
    | _ => cases e
  | mod =>
    cases a with
    | int i =>
      cases b with
      | int j =>
        cases ra; cases rb
        simp only [binD] at e
        split at e
        · rename_i hz
          cases e
          exact op_mod pins s σ H _ _ v w Q I rx ry ⟨i, j, rfl, rfl, hz, q _ H (Same.refl H) (.int _)⟩
        · cases e
      | _ => cases e
    | _ => cases e
  | fdiv =>
    cases a with
    | int i =>
      cases b with
      | int j =>
        cases ra; cases rb
        simp only [binD] at e
        split at e
        · rename_i hz
          cases e
          exact op_fdiv pins s σ H _ _ v w Q I rx ry ⟨i, j, rfl, rfl, hz, q _ H (Same.refl H) (.int _)⟩
        · cases e
      | _ => cases e
    | _ => cases e
  | pow =>
    cases a with
    | int i =>
      cases b with
      | int j =>
        cases ra; cases rb
        simp only [binD] at e
        split at e
        · rename_i hz
          cases e
          obtain ⟨z1, z2, z3⟩ := hz
          have := small_ok z3
          exact op_pow pins s σ H _ _ v w Q I rx ry ⟨i, j, rfl, rfl, ⟨z1, by omega, by omega⟩, q _ H (Same.refl H) (.int _)⟩
        · cases e
      | _ => cases e
    | _ => cases e
def cop : CO → CmpOp
  | .eq => .Eq | .ne => .NotEq | .lt => .Lt | .le => .LtE | .gt => .Gt | .ge => .GtE | .isin => .In | .nin => .NotIn | .isn => .Is | .nisn => .IsNot | .nisT => .IsNot | .eqe => .Eq
def rC (G : Gc) (K : PySem.W.Frag) (o : CO) : R2 := fun x y H Q => ∃ S a b d, (∀ z, S z → NT H z) ∧ Rep G.fa K (hid S H) x a ∧ Rep G.fa K (hid S H) y b ∧ cmpD o a b = .ok d ∧ Q (.bl d) H
theorem decN {x : V} {d : D} {fa : Nat → Option Addr} {K : PySem.W.Frag} {H : Hp} (h : Rep fa K H x d) : decide (x = .non) = (match d with | .non => true | _ => false) := by
  cases h <;> rfl
theorem dp_reads {pins : List (Addr × Obj)} {s : Shared} {σ : St} {H : Hp} {x : V} {u : Value} {d : D} (I : Inv X pins σ H s) (h : Rep G.fa X.K H x d) (r : RelV x u) (p : d.py.plain = true) : ∃ as, Reads s.heap u d.py as := Dp.reads I d.py x u (h.dp p) r
theorem key1_of {k : Key} {d : D} {fa : Nat → Option Addr} {K : PySem.W.Frag} {H : Hp} {v : V} (h : key1 d = some k) (r : Rep fa K H v d) : v = kV k := by
  cases r <;> simp [key1] at h <;> subst h <;> rfl
theorem keys_of {fa : Nat → Option Addr} {K : PySem.W.Frag} {H : Hp} : ∀ {ds : List D} {ks : List Key} {vs : List V}, ds.mapM key1 = some ks → RepL fa K H vs ds → vs = ks.map kV
  | [], ks, vs, h, r => by
    cases r
    simp at h
    subst h
    rfl
  | d :: ds, ks, vs, h, r => by
    cases r with
    | cons r t =>
      rw [List.mapM_cons] at h
      cases e : key1 d with
      | none => simp only [e] at h; cases h
      | some k =>
        rw [e] at h
        cases e2 : ds.mapM key1 with
        | none => rw [e2] at h; cases h
        | some ks' =>
          rw [e2] at h
          cases h
          rw [key1_of e r, keys_of e2 t]
          rfl
theorem dget_of {fa : Nat → Option Addr} {K : PySem.W.Frag} {S : Addr → Prop} {H : Hp} {a y : V} {t : Bool} {kvs : List (List Key × D)} {kd : D} {k : List Key} (r : Rep fa K (hid S H) a (.dct t kvs)) (ry : Rep fa K (hid S H) y kd) (e : keyOf t kd = some k) :
    ∃ p o, a = .ref p ∧ DGet H p y o ∧ IsD H p ∧ ((o = none ∧ dfind kvs k = none) ∨ ∃ v d, o = some v ∧ dfind kvs k = some d ∧ Rep fa K (hid S H) v d) := by
  cases r with
  | @dK p kv0 _ hr hn hk =>
    simp only [keyOf] at e
    cases e1 : key1 kd with
    | none => rw [e1] at e; cases e
    | some k1 =>
      rw [e1] at e
      cases e
      have rd : Rd H p (.dK kv0) := (Le.of hid_same).rd rfl hr
      refine ⟨p, valV kv0 k1, rfl, .inl ⟨kv0, k1, rd, key1_of e1 ry, rfl⟩, .inl ⟨_, rd⟩, ?_⟩
      rcases hk.find [k1] with ⟨h1, h2⟩ | ⟨v, d, h1, h2, h3⟩
      · rw [wrap_val (α := V)] at h1; exact .inl ⟨h1, h2⟩
      · rw [wrap_val (α := V)] at h1; exact .inr ⟨v, d, h1, h2, h3⟩
  | @dT p kv0 _ hr hn hk _ =>
    cases kd with
    | tup xs =>
      simp only [keyOf] at e
      cases ry with
      | @tup b vs _ hb nb rb =>
        have rd : Rd H p (.dT kv0) := (Le.of hid_same).rd rfl hr
        have ev := keys_of e rb
        subst ev
        exact ⟨p, valV kv0 k, rfl, .inr ⟨kv0, k, b, rd, rfl, hid_same _ _ hb, rfl⟩, .inr ⟨_, rd⟩, hk.find k⟩
    | _ => cases e
theorem one_sign {y : Str} {c : Nat} (h : y.cps.toList = [c]) : y = ⟨#[c]⟩ := by
  obtain ⟨a⟩ := y
  have h : a.toList = [c] := h
  congr 1
  have := congrArg List.toArray h
  simpa using this
theorem in_both (hr : Room n X.A) {pins : List (Addr × Obj)} {s : Shared} {σ : St} {H : Hp} {x y : V} {v u : Value} {S : Addr → Prop} {a b : D} {r : Bool} (I : Inv X pins σ H s) (rx : RelV x v) (ry : RelV y u)
    (ra : Rep G.fa X.K (hid S H) x a) (rb : Rep G.fa X.K (hid S H) y b) (e : inD a b = .ok r) :
    (∀ Q' : Value → Shared → Prop, (∀ s', Inv X pins σ H s' → Q' (.bool r) s') → wpAny (model X.prog X.w) X.A (compareOp .In v u) Q' X.xe s) ∧
    (∀ Q' : Value → Shared → Prop, (∀ s', Inv X pins σ H s' → Q' (.bool (!r)) s') → wpAny (model X.prog X.w) X.A (compareOp .NotIn v u) Q' X.xe s) := by
  have hu1 : X.A.units + 1 < cLine := hu_of hr
  have hu16 : X.A.units + 200 < cLine := by have := hr.un; omega
  have seq : ∀ xs : List D, (ck 8 a.py && xs.all fun y => ck 8 y.py) = true → a.py.plain = true ∧ PyData.plainAll (xs.map D.py) = true ∧ X.A.units + 1 + min (PyData.depthAll (xs.map D.py)) a.py.depth < cLine := fun xs h => by
    rw [Bool.and_eq_true, List.all_eq_true] at h
    obtain ⟨h1, h2⟩ := ck_plain _ _ h.1
    refine ⟨h1, ?_, ?_⟩
    · rw [plainAll_all, List.all_map, List.all_eq_true]
      exact fun z hz => (ck_plain _ _ (h.2 z hz)).1
    · exact Nat.lt_of_le_of_lt (Nat.add_le_add_left (Nat.le_trans (Nat.min_le_right _ _) h2) _) (by omega)
  cases b with
  | tup xs =>
    simp only [inD] at e
    split at e
    · rename_i hc
      cases e
      obtain ⟨p1, p2, p3⟩ := seq xs hc
      obtain ⟨as, r1⟩ := dp_reads I (un_hid ra) rx p1
      obtain ⟨bs, r2⟩ := dp_reads I (un_hid rb) ry (by simp only [D.py, D.pys_eq, PyData.plain]; exact p2)
      simp only [D.py, D.pys_eq] at r2
      have ea : (xs.map D.py).any (fun y => PyData.eqv y a.py) = xs.any fun y => PyData.eqv y.py a.py := by rw [List.any_map]; rfl
      exact ⟨fun Q' h => SeqAt.in_tuple_data r2 r1 p2 p1 p3 (by rw [ea]; exact h s I), fun Q' h => SeqAt.notIn_tuple_data r2 r1 p2 p1 p3 (by rw [ea]; exact h s I)⟩
    · cases e
  | lst xs =>
    simp only [inD] at e
    split at e
    · rename_i hc
      cases e
      obtain ⟨p1, p2, p3⟩ := seq xs hc
      obtain ⟨as, r1⟩ := dp_reads I (un_hid ra) rx p1
      obtain ⟨bs, r2⟩ := dp_reads I (un_hid rb) ry (by simp only [D.py, D.pys_eq, PyData.plain]; exact p2)
      simp only [D.py, D.pys_eq] at r2
      have ea : (xs.map D.py).any (fun y => PyData.eqv y a.py) = xs.any fun y => PyData.eqv y.py a.py := by rw [List.any_map]; rfl
      exact ⟨fun Q' h => SeqAt.in_list_data r2 r1 p2 p1 p3 (by rw [ea]; exact h s I), fun Q' h => SeqAt.notIn_list_data r2 r1 p2 p1 p3 (by rw [ea]; exact h s I)⟩
    · cases e
  | str z =>
    cases a with
    | str y0 =>
      simp only [inD] at e
      split at e
      · rename_i c hc
        cases e
        have ey := one_sign hc
        subst ey
        cases ra
        cases rb
        exact ⟨fun Q' h => thn (op_in_sign pins s σ H _ _ v u (fun v' H' => v' = .bl (decide (c ∈ z.cps.toList)) ∧ H' = H) I rx ry ⟨c, z, rfl, rfl, rfl, rfl⟩) fun w s' ⟨v', H', I', r', e1, e2⟩ => by subst e1 e2; cases r'; exact h s' I',
          fun Q' h => thn (op_notIn_sign pins s σ H _ _ v u (fun v' H' => v' = .bl (!decide (c ∈ z.cps.toList)) ∧ H' = H) I rx ry ⟨c, z, rfl, rfl, rfl, rfl⟩) fun w s' ⟨v', H', I', r', e1, e2⟩ => by subst e1 e2; cases r'; exact h s' I'⟩
      · cases e
    | _ => cases e
  | dct t kvs =>
    simp only [inD] at e
    cases e1 : keyOf t a with
    | none => rw [e1] at e; cases e
    | some k =>
      rw [e1] at e
      cases e
      obtain ⟨p, o, ep, g, _, hh⟩ := dget_of rb ra e1
      subst ep
      obtain rfl : u = Value.ref p := ry
      have eo : o.isSome = (dfind kvs k).isSome := by
        rcases hh with ⟨h1, h2⟩ | ⟨v, d, h1, h2, _⟩
        · rw [h1, h2]; rfl
        · rw [h1, h2]; rfl
      rw [← eo]
      exact ⟨fun Q' h => d_in hu1 I g rx fun s' I' => h s' I', fun Q' h => d_notIn hu1 I g rx fun s' I' => h s' I'⟩
  | _ => cases e
theorem or_cmp (hr : Room n X.A) (o : CO) : OpR X (compareOp (cop o)) (rC G X.K o) := by
  intro pins s σ H x y v w Q I rx ry h
  obtain ⟨S, a, b, d, hS, ra, rb, e, q⟩ := h
  have hu64 : X.A.units + 64 < cLine := hr.units
  have hu16 : X.A.units + 200 < cLine := by have := hr.un; omega
  have eqp : ∀ r, eqD a b = .ok r → a.py.plain = true ∧ b.py.plain = true ∧ X.A.units + min a.py.depth b.py.depth < cLine ∧ PyData.eqv a.py b.py = r := fun r e => by
    unfold eqD at e
    split at e
    · rename_i hc
      rw [Bool.and_eq_true] at hc
      obtain ⟨h1, h2⟩ := ck_plain _ _ hc.1
      obtain ⟨h3, h4⟩ := ck_plain _ _ hc.2
      cases e
      exact ⟨h1, h3, Nat.lt_of_le_of_lt (Nat.add_le_add_left (Nat.le_trans (Nat.min_le_left _ _) h2) _) (by omega), rfl⟩
    · cases e
  cases o with
  | eq =>
    obtain ⟨p1, p2, hu, er⟩ := eqp d e
    obtain ⟨as, r1⟩ := dp_reads I (un_hid ra) rx p1
    obtain ⟨bs, r2⟩ := dp_reads I (un_hid rb) ry p2
    exact SeqAt.eq_plain r1 r2 p1 p2 hu ⟨.bl _, H, I, rfl, by rw [er]; exact q⟩
  | ne =>
    simp only [cmpD] at e
    cases e1 : eqD a b with
    | ok r =>
      rw [e1] at e
      cases e
      obtain ⟨p1, p2, hu, er⟩ := eqp r e1
      obtain ⟨as, r1⟩ := dp_reads I (un_hid ra) rx p1
      obtain ⟨bs, r2⟩ := dp_reads I (un_hid rb) ry p2
      exact SeqAt.ne_plain r1 r2 p1 p2 hu ⟨.bl _, H, I, rfl, by rw [er]; exact q⟩
    | exc _ _ => rw [e1] at e; cases e
    | bad => rw [e1] at e; cases e
  | lt =>
    cases a with
    | int i => cases b with
      | int j => cases ra; cases rb; cases e; exact op_lt pins s σ H _ _ v w Q I rx ry ⟨i, j, rfl, rfl, q⟩
      | _ => cases e
    | _ => cases e
  | le =>
    cases a with
    | int i => cases b with
      | int j => cases ra; cases rb; cases e; exact op_le pins s σ H _ _ v w Q I rx ry ⟨i, j, rfl, rfl, q⟩
      | _ => cases e
    | _ => cases e
  | gt =>
    cases a with
    | int i => cases b with
      | int j => cases ra; cases rb; cases e; exact op_gt pins s σ H _ _ v w Q I rx ry ⟨i, j, rfl, rfl, q⟩
      | _ => cases e
    | _ => cases e
  | ge =>
    cases a with
    | int i => cases b with
      | int j => cases ra; cases rb; cases e; exact op_ge pins s σ H _ _ v w Q I rx ry ⟨i, j, rfl, rfl, q⟩
      | _ => cases e
    | _ => cases e
  | isin => exact (in_both hr I rx ry ra rb e).1 _ fun s' I' => ⟨.bl d, H, I', rfl, q⟩
  | nin =>
    simp only [cmpD] at e
    cases e1 : inD a b with
    | ok r => rw [e1] at e; cases e; exact (in_both hr I rx ry ra rb e1).2 _ fun s' I' => ⟨.bl _, H, I', rfl, q⟩
    | exc _ _ => rw [e1] at e; cases e
    | bad => rw [e1] at e; cases e
  | isn =>
    cases b with
    | non =>
      cases rb
      have en := decN ra
      refine op_isN pins s σ H _ _ v w Q I rx ry ⟨rfl, ?_⟩
      rw [en]
      cases a <;> cases e <;> exact q
    | _ => cases e
  | nisn =>
    cases b with
    | non =>
      cases rb
      have en := decN ra
      refine op_notN pins s σ H _ _ v w Q I rx ry ⟨rfl, ?_⟩
      rw [en]
      cases a <;> cases e <;> exact q
    | _ => cases e
  | nisT =>
    cases a with
    | bl x =>
      cases b with
      | bl y =>
        cases y with
        | true =>
          cases ra; cases rb; cases e
          refine op_notBl pins s σ H _ _ v w Q I rx ry ⟨x, true, rfl, rfl, ?_⟩
          cases x <;> exact q
        | false => cases e
      | _ => cases e
    | _ => cases e
  | eqe =>
    cases a with
    | dct t kvs =>
      cases b with
      | dct t' kvs' =>
        cases t with
        | true => cases e
        | false =>
          cases t' with
          | true => cases e
          | false =>
            cases kvs' with
            | cons _ _ => cases e
            | nil =>
              cases e
              cases ra with | @dK p kv0 _ h1 n1 r1 => ?_
              cases rb with | @dK p' kv1 _ h2 n2 r2 => ?_
              (obtain rfl : v = Value.ref p := rx)
              obtain rfl : w = Value.ref p' := ry
              have rd1 : Rd H p (.dK kv0) := (Le.of hid_same).rd rfl h1
              have rd2 : Rd H p' (.dK kv1) := (Le.of hid_same).rd rfl h2
              obtain ⟨_, ya, va, la, da⟩ := dk_rd I.hok rd1
              obtain ⟨_, yb, vb, lb, db⟩ := dk_rd I.hok rd2
              have w1 : (wrap kv0).length = kv0.length := List.length_map _
              have w2 : (wrap kv1).length = kv1.length := List.length_map _
              have l1 : va.length = kvs.length := by rw [← la.length, ← w1, r1.length]
              have l2 : vb = [] := by
                have : vb.length = 0 := by rw [← lb.length, ← w2, r2.length] <;> rfl
                exact List.length_eq_zero_iff.mp this
              subst l2
              refine PySem.W.rcP_dicts (knd := mixKind X.prog X.w) (r := true) ya yb da db (by omega) (fun hl => ?_) _ _ ?_
              · have : va = [] := List.length_eq_zero_iff.mp hl
                subst this
                exact .nil
              · refine ⟨.bl _, H, I, rfl, ?_⟩
                have : (va.length == ([] : List (Key × Value)).length && true) = kvs.isEmpty := by
                  rw [l1]
                  cases kvs <;> simp
                rw [this]
                exact q
      | _ => cases t <;> cases e
    | _ => cases e
end
end Pu
end
section
set_option maxRecDepth 100000
set_option maxHeartbeats 1000000
namespace Pu
open PySem PySem.Spec L2
section
variable {X : Cx} {G : Gc} {n : Nat}
theorem atI_rep {fa : Nat → Option Addr} {K : PySem.W.Frag} {H : Hp} {vs : List V} {ds : List D} (h : RepL fa K H vs ds) {i : Int} {d : D} (e : atI ds i = some d) : ∃ v, atI vs i = some v ∧ Rep fa K H v d := by
  unfold atI at e ⊢
  rw [h.length]
  cases q : ixN ds.length i with
  | none => simp only [q] at e; cases e
  | some j =>
    rw [q] at e
    obtain ⟨v, h1, h2⟩ := h.get (show ds[j]? = some d from e)
    exact ⟨v, h1, h2⟩
theorem ix_dict (hu : X.A.units + 1 < cLine) : IxR X (fun x y H Q => ∃ a v, x = .ref a ∧ DGet H a y (some v) ∧ Q v H) := fun value slice pins s σ H x y v u Q I rx ry ⟨a, w, ex, g, q⟩ hs => by
  subst ex
  cases rx
  have ty := dict_typeIs I g
  have got := d_getItem hu I g ry (Q := EP X pins σ Q) (E := X.xe) fun w' s' I' r' => ⟨w, H, I', r', q⟩
  have tail : wpAny (model X.prog X.w) X.A (subscripted slice false (.ref a) u) (fun r t => wpAny (model X.prog X.w) X.A (letTemporaryGo value (.ref a) r >>= fun _ => pure r) (EP X pins σ Q) X.xe t) X.xe s :=
    hs ▸ wpAny_operating (wpAny_mono got (fun _ _ z => wpAny_bind (wpAny_letTemporaryGo (wpAny_pure z))) fun _ _ z => z)
  have own : wpAny (model X.prog X.w) X.A (getitemInPython (.ref a)) (fun b t => b = false ∧ t = s) X.xe s := by
    rw [getitemInPython_of_ne (Shared.TypeIs.not_modules ty)]
    exact wpAny_bind (wpAny_specialOf ty PySem.F.slot_dict_getitem.lookup (wpAny_pure ⟨rfl, rfl⟩))
  exact wpAny_bind (wpAny_mono own (fun b t ⟨e1, e2⟩ => by subst e1 e2; exact wpAny_bind tail) fun _ _ z => z)
def rIxG (G : Gc) (K : PySem.W.Frag) : R2 := fun x y H Q => ∃ S a b d, (∀ z, S z → NT H z) ∧ Rep G.fa K (hid S H) x a ∧ Rep G.fa K (hid S H) y b ∧ ixD a b = .ok d ∧ ∀ v H', Same H H' → Rep G.fa K (hid S H') v d → Q v H'
theorem atI_map {α β : Type} (f : α → β) (xs : List α) (i : Int) : atI (xs.map f) i = (atI xs i).map f := by
  unfold atI
  rw [List.length_map]
  cases ixN xs.length i with
  | none => rfl
  | some j => simp
theorem ix_any (hr : Room n X.A) : IxR X (rIxG G X.K) := by
  intro value sx pins s σ H x y v u Q I rx ry h hsl
  obtain ⟨S, a, b, d, hS, ra, rb, e, q⟩ := h
  cases a with
  | tup xs =>
    cases b with
    | int i =>
      cases rb
      cases ra with | tup h1 n1 r1 => ?_
      simp only [ixD] at e
      cases e1 : atI xs i with
      | none => rw [e1] at e; cases e
      | some d' =>
        rw [e1] at e
        cases e
        obtain ⟨w, h2, h3⟩ := atI_rep r1 e1
        exact ix_tup value sx pins s σ H _ _ v u Q I rx ry ⟨_, _, i, w, rfl, rfl, SqT.of (hid_same _ _ h1), h2, q w H (Same.refl H) h3⟩ hsl
    | _ => cases e
  | lst xs =>
    cases b with
    | int i =>
      cases rb
      cases ra with | lst h1 n1 r1 => ?_
      simp only [ixD] at e
      cases e1 : atI xs i with
      | none => rw [e1] at e; cases e
      | some d' =>
        rw [e1] at e
        cases e
        obtain ⟨w, h2, h3⟩ := atI_rep r1 e1
        exact ix_list value sx pins s σ H _ _ v u Q I rx ry ⟨_, _, i, w, rfl, rfl, SqL.of (hid_same _ _ h1), h2, q w H (Same.refl H) h3⟩ hsl
    | _ => cases e
  | scr xs =>
    cases b with
    | int i =>
      cases rb
      cases ra with | scr h1 n1 => ?_
      simp only [ixD] at e
      cases e1 : atI xs i with
      | none => rw [e1] at e; cases e
      | some d' =>
        rw [e1] at e
        cases e
        exact ix_list value sx pins s σ H _ _ v u Q I rx ry ⟨_, _, i, .int d', rfl, rfl, (Le.of hid_same).sq h1, by rw [atI_map, e1]; rfl, q _ H (Same.refl H) (.int _)⟩ hsl
    | _ => cases e
  | str z =>
    cases b with
    | int i =>
      cases rb
      cases ra
      simp only [ixD] at e
      split at e
      · rename_i hz
        cases e1 : atI z.cps.toList i with
        | none => rw [e1] at e; cases e
        | some c =>
          rw [e1] at e
          cases e
          exact ix_str value sx pins s σ H _ _ v u Q I rx ry ⟨z, i, c, rfl, rfl, hz, e1, q _ H (Same.refl H) (.str _)⟩ hsl
      · cases e
    | _ => cases e
  | dct t kvs =>
    simp only [ixD] at e
    cases e1 : keyOf t b with
    | none => rw [e1] at e; cases e
    | some k =>
      rw [e1] at e
      obtain ⟨p, o, ep, g, _, hh⟩ := dget_of ra rb e1
      rcases hh with ⟨h1, h2⟩ | ⟨w, d', h1, h2, h3⟩
      · simp only [R.bind, R.ofO, h2] at e
        cases e
      · simp only [R.bind, R.ofO, h2] at e
        cases e
        rw [h1] at g
        exact ix_dict (hu_of hr) value sx pins s σ H x y v u Q I rx ry ⟨p, w, ep, g, q w H (Same.refl H) h3⟩ hsl
  | _ => cases e
theorem cutD_rep {fa : Nat → Option Addr} {K : PySem.W.Frag} {H : Hp} {vs : List V} {ds : List D} (h : RepL fa K H vs ds) (lo hi : Option Int) : RepL fa K H (cutV vs lo hi) (cutD ds lo hi) := by
  unfold cutV cutD
  rw [h.length]
  exact (h.drop _).take _
theorem cutD_whole {α : Type} (xs : List α) (lo hi : Option Int) (h : HT.sIx xs.length 0 lo = 0 ∧ HT.sIx xs.length xs.length hi = xs.length) : cutD xs lo hi = xs := by
  unfold cutD
  rw [h.1, h.2]
  simp
def rSlG (G : Gc) (K : PySem.W.Frag) : V → Option Int → Option Int → Hp → VK → Prop := fun x lo hi H Q => ∃ S a d, (∀ z, S z → NT H z) ∧ Rep G.fa K (hid S H) x a ∧ slD a lo hi = .ok d ∧ ∀ v H', Same H H' → Rep G.fa K (hid S H') v d → Q v H'
theorem sl_any : SlR X (rSlG G X.K) := by
  intro pins s σ H x v vl vu lo up sl Q I rx hs pl pu h
  obtain ⟨S, a, d, hS, ra, e, q⟩ := h
  cases a with
  | tup xs =>
    cases e
    cases ra with | @tup a1 vs _ h1 n1 r1 => ?_
    have el := r1.length
    refine sl_tupA pins s σ H _ v vl vu lo up sl Q I rx hs pl pu ⟨_, vs, rfl, SqT.of (hid_same _ _ h1), fun w => ?_, fun _ p hp => q _ _ (Same.upd hp) (new_tup hS hp (cutD_rep r1 lo up) (Nat.le_trans (cutV_length _ _ _) n1))⟩
    rw [el] at w
    rw [cutD_whole xs lo up w] at q
    exact q _ H (Same.refl H) (.tup h1 n1 r1)
  | lst xs =>
    cases e
    cases ra with | @lst a1 vs _ h1 n1 r1 => ?_
    exact sl_list pins s σ H _ v vl vu lo up sl Q I rx hs pl pu ⟨_, vs, rfl, SqL.of (hid_same _ _ h1), fun p hp => q _ _ (Same.upd hp) (new_lst hS hp (cutD_rep r1 lo up) (Nat.le_trans (cutV_length _ _ _) n1))⟩
  | str z =>
    simp only [slD] at e
    split at e
    · rename_i hz
      cases e
      cases ra
      exact sl_str pins s σ H _ v vl vu lo up sl Q I rx hs pl pu ⟨z, rfl, hz, q _ H (Same.refl H) (.str _)⟩
    · cases e
  | _ => cases e
def rF (G : Gc) (K : PySem.W.Frag) (fr : Bool) (g : D → R D) : List V → Hp → VK → Prop := fun xs H Q => ∃ S x a d, xs = [x] ∧ (∀ z, S z → NT H z) ∧ Rep G.fa K (hid S H) x a ∧ g a = .ok d ∧ ∀ v H', Same H H' → Pst G K fr S H H' v d → Q v H'
theorem d_lenT {pins : List (Addr × Obj)} {σ : St} {H : Hp} {s : Shared} {a : Addr} {kvs : List (List Key × V)} {Q : Value → Shared → Prop} (I : Inv X pins σ H s) (e : Rd H a (.dT kvs))
    (h : ∀ t s', Inv X pins σ H s' → Q (.int kvs.length t) s') : wpAny (model X.prog X.w) X.A (call (.builtin "len") [.ref a]) Q X.xe s :=
  match dt_rd I.hok e with
  | ⟨z, hs, ys, rel, dd⟩ => call_len_dictH hs dd (by rw [sizeLine_eq] at z; have := Paired.length rel; omega) (by rw [← Paired.length rel]; exact h _ _ (I.tok _))
theorem b1_len : CallR X (.builtin "len") (rF G X.K false (b1D .len)) := by
  intro pins s σ H as us Q I r h
  obtain ⟨S, x, a, d, rfl, hS, ra, e, q⟩ := h
  cases a with
  | tup xs =>
    cases e
    cases ra with | tup h1 n1 r1 => ?_
    exact call_len pins s σ H _ us Q I r ⟨_, _, rfl, .inr ⟨_, SqT.of (hid_same _ _ h1), rfl⟩, by rw [r1.length]; exact q _ H (Same.refl H) (.int _)⟩
  | lst xs =>
    cases e
    cases ra with | lst h1 n1 r1 => ?_
    exact call_len pins s σ H _ us Q I r ⟨_, _, rfl, .inl ⟨_, SqL.of (hid_same _ _ h1), rfl⟩, by rw [r1.length]; exact q _ H (Same.refl H) (.int _)⟩
  | scr xs =>
    cases e
    cases ra with | scr h1 n1 => ?_
    exact call_len pins s σ H _ us Q I r ⟨_, _, rfl, .inl ⟨_, (Le.of hid_same).sq h1, rfl⟩, by rw [List.length_map]; exact q _ H (Same.refl H) (.int _)⟩
  | str z =>
    simp only [b1D, lenD] at e
    split at e
    · rename_i hz
      cases e
      cases ra
      exact call_len pins s σ H _ us Q I r ⟨_, _, rfl, ⟨hz, rfl⟩, q _ H (Same.refl H) (.int _)⟩
    · cases e
  | dct t kvs =>
    cases e
    cases ra with
    | @dK p kv0 _ h1 n1 r1 =>
      obtain ⟨v1, rfl, rx⟩ := vals1 r
      cases rx
      refine d_len I ((Le.of hid_same).rd rfl h1) fun t s' I' => ⟨.int kv0.length, H, I', ⟨t, rfl⟩, ?_⟩
      have el := r1.length
      rw [List.length_map] at el
      rw [el]
      exact q _ H (Same.refl H) (.int _)
    | @dT p kv0 _ h1 n1 r1 _ =>
      obtain ⟨v1, rfl, rx⟩ := vals1 r
      cases rx
      refine d_lenT I ((Le.of hid_same).rd rfl h1) fun t s' I' => ⟨.int kv0.length, H, I', ⟨t, rfl⟩, ?_⟩
      rw [r1.length]
      exact q _ H (Same.refl H) (.int _)
  | _ => cases e
theorem bls_rep {fa : Nat → Option Addr} {K : PySem.W.Frag} {H : Hp} : ∀ {ds : List D} {vs : List V} {bs : List Bool}, RepL fa K H vs ds → blsD ds = some bs → vs = bs.map V.bl
  | [], _, _, r, e => by cases r; cases e; rfl
  | d :: ds, _, _, r, e => by
    cases r with
    | cons h t =>
      cases d with
      | bl b =>
        cases h
        simp only [blsD] at e
        cases q : blsD ds with
        | none => simp only [q] at e; cases e
        | some r => rw [q] at e; cases e; rw [bls_rep t q]; rfl
      | _ => cases e
theorem ints_rep {fa : Nat → Option Addr} {K : PySem.W.Frag} {H : Hp} : ∀ {ds : List D} {vs : List V} {bs : List Int}, RepL fa K H vs ds → intsD ds = some bs → vs = bs.map V.int
  | [], _, _, r, e => by cases r; cases e; rfl
  | d :: ds, _, _, r, e => by
    cases r with
    | cons h t =>
      cases d with
      | int b =>
        cases h
        simp only [intsD] at e
        cases q : intsD ds with
        | none => simp only [q] at e; cases e
        | some r => rw [q] at e; cases e; rw [ints_rep t q]; rfl
      | _ => cases e
theorem strs_rep {fa : Nat → Option Addr} {K : PySem.W.Frag} {H : Hp} : ∀ {ds : List D} {vs : List V} {bs : List Str}, RepL fa K H vs ds → strsD ds = some bs → vs = bs.map V.str
  | [], _, _, r, e => by cases r; cases e; rfl
  | d :: ds, _, _, r, e => by
    cases r with
    | cons h t =>
      cases d with
      | str b =>
        cases h
        simp only [strsD] at e
        cases q : strsD ds with
        | none => simp only [q] at e; cases e
        | some r => rw [q] at e; cases e; rw [strs_rep t q]; rfl
      | _ => cases e
theorem b1_all (hc : X.calm = true) : CallR X (.builtin "all") (rF G X.K false (b1D .all)) := by
  intro pins s σ H as us Q I r h
  obtain ⟨S, x, a, d, rfl, hS, ra, e, q⟩ := h
  cases a with
  | lst xs =>
    simp only [b1D] at e
    cases e1 : blsD xs with
    | none => rw [e1] at e; cases e
    | some bs =>
      rw [e1] at e
      cases e
      cases ra with | lst h1 n1 r1 => ?_
      have ev := bls_rep r1 e1
      subst ev
      exact cr_all hc pins s σ H _ us Q I r ⟨_, bs, rfl, SqL.of (hid_same _ _ h1), q _ H (Same.refl H) (.bl _)⟩
  | _ => cases e
theorem b1_any (hc : X.calm = true) : CallR X (.builtin "any") (rF G X.K false (b1D .any)) := by
  intro pins s σ H as us Q I r h
  obtain ⟨S, x, a, d, rfl, hS, ra, e, q⟩ := h
  cases a with
  | lst xs =>
    simp only [b1D] at e
    cases e1 : blsD xs with
    | none => rw [e1] at e; cases e
    | some bs =>
      rw [e1] at e
      cases e
      cases ra with | lst h1 n1 r1 => ?_
      have ev := bls_rep r1 e1
      subst ev
      exact cr_any hc pins s σ H _ us Q I r ⟨_, bs, rfl, SqL.of (hid_same _ _ h1), q _ H (Same.refl H) (.bl _)⟩
  | _ => cases e
theorem b1_sum (hc : X.calm = true) : CallR X (.builtin "sum") (rF G X.K false (b1D .sum)) := by
  intro pins s σ H as us Q I r h
  obtain ⟨S, x, a, d, rfl, hS, ra, e, q⟩ := h
  cases a with
  | lst xs =>
    simp only [b1D] at e
    cases e1 : intsD xs with
    | none => rw [e1] at e; cases e
    | some bs =>
      rw [e1] at e
      cases e
      cases ra with | lst h1 n1 r1 => ?_
      have ev := ints_rep r1 e1
      subst ev
      exact cr_sum hc pins s σ H _ us Q I r ⟨_, bs, rfl, SqL.of (hid_same _ _ h1), q _ H (Same.refl H) (.int _)⟩
  | _ => cases e
theorem maxI_spec : ∀ (r : List Int) (x : Int), (r.foldl (fun m y => if m < y then y else m) x) ∈ x :: r ∧ ∀ y ∈ x :: r, y ≤ r.foldl (fun m y => if m < y then y else m) x
  | [], x => ⟨List.mem_cons_self, fun y hy => by simp at hy; subst hy; exact Int.le_refl _⟩
  | z :: r, x => by
    rw [List.foldl_cons]
    obtain ⟨h1, h2⟩ := maxI_spec r (if x < z then z else x)
    refine ⟨?_, fun y hy => ?_⟩
    · rcases List.mem_cons.mp h1 with e | h
      · rw [e]; split <;> simp
      · exact List.mem_cons_of_mem _ (List.mem_cons_of_mem _ h)
    · have h3 := h2 _ List.mem_cons_self
      rcases List.mem_cons.mp hy with e | hy <;> try subst e
      · refine Int.le_trans ?_ h3; split <;> omega
      · rcases List.mem_cons.mp hy with e | hy <;> try subst e
        · refine Int.le_trans ?_ h3; split <;> omega
        · exact h2 y (List.mem_cons_of_mem _ hy)
theorem minI_spec : ∀ (r : List Int) (x : Int), (r.foldl (fun m y => if y < m then y else m) x) ∈ x :: r ∧ ∀ y ∈ x :: r, r.foldl (fun m y => if y < m then y else m) x ≤ y
  | [], x => ⟨List.mem_cons_self, fun y hy => by simp at hy; subst hy; exact Int.le_refl _⟩
  | z :: r, x => by
    rw [List.foldl_cons]
    obtain ⟨h1, h2⟩ := minI_spec r (if z < x then z else x)
    refine ⟨?_, fun y hy => ?_⟩
    · rcases List.mem_cons.mp h1 with e | h
      · rw [e]; split <;> simp
      · exact List.mem_cons_of_mem _ (List.mem_cons_of_mem _ h)
    · have h3 := h2 _ List.mem_cons_self
      rcases List.mem_cons.mp hy with e | hy <;> try subst e
      · refine Int.le_trans h3 ?_; split <;> omega
      · rcases List.mem_cons.mp hy with e | hy <;> try subst e
        · refine Int.le_trans h3 ?_; split <;> omega
        · exact h2 y (List.mem_cons_of_mem _ hy)
theorem b1_max (hc : X.calm = true) : CallR X (.builtin "max") (rF G X.K false (b1D .max)) := by
  intro pins s σ H as us Q I r h
  obtain ⟨S, x, a, d, rfl, hS, ra, e, q⟩ := h
  cases a with
  | lst xs =>
    simp only [b1D] at e
    cases e1 : intsD xs with
    | none => rw [e1] at e; cases e
    | some bs =>
      rw [e1] at e
      cases bs with
      | nil => cases e
      | cons b bs =>
        cases e
        cases ra with | lst h1 n1 r1 => ?_
        have ev := ints_rep r1 e1
        subst ev
        obtain ⟨m1, m2⟩ := maxI_spec bs b
        refine cr_max hc pins s σ H _ us Q I r ⟨_, b :: bs, rfl, SqL.of (hid_same _ _ h1), Nat.succ_pos _, fun m hm hle => ?_⟩
        have em : m = bs.foldl (fun m y => if m < y then y else m) b := Int.le_antisymm (m2 m hm) (hle _ m1)
        rw [em]
        exact q _ H (Same.refl H) (.int _)
  | _ => cases e
theorem b1_min (hc : X.calm = true) : CallR X (.builtin "min") (rF G X.K false (b1D .min)) := by
  intro pins s σ H as us Q I r h
  obtain ⟨S, x, a, d, rfl, hS, ra, e, q⟩ := h
  cases a with
  | lst xs =>
    simp only [b1D] at e
    cases e1 : intsD xs with
    | none => rw [e1] at e; cases e
    | some bs =>
      rw [e1] at e
      cases bs with
      | nil => cases e
      | cons b bs =>
        cases e
        cases ra with | lst h1 n1 r1 => ?_
        have ev := ints_rep r1 e1
        subst ev
        obtain ⟨m1, m2⟩ := minI_spec bs b
        refine cr_min hc pins s σ H _ us Q I r ⟨_, b :: bs, rfl, SqL.of (hid_same _ _ h1), Nat.succ_pos _, fun m hm hle => ?_⟩
        have em : m = bs.foldl (fun m y => if y < m then y else m) b := Int.le_antisymm (hle _ m1) (m2 m hm)
        rw [em]
        exact q _ H (Same.refl H) (.int _)
  | _ => cases e
theorem rep_key {fa : Nat → Option Addr} {K : PySem.W.Frag} {H : Hp} (k : Key) : Rep fa K H (kV k) (keyD1 k) := by
  cases k with
  | inl i => exact .int i
  | inr x => exact .str x
theorem rep_keys {fa : Nat → Option Addr} {K : PySem.W.Frag} {H : Hp} : ∀ ks : List Key, RepL fa K H (ks.map kV) (ks.map keyD1)
  | [] => .nil
  | k :: ks => .cons (rep_key k) (rep_keys ks)
theorem fresh_lst {S : Addr → Prop} {H : Hp} {p : Addr} {vs : List V} {ds : List D} (hp : H p = none) (r : RepL G.fa X.K (hid S H) vs ds) (hz : vs.length ≤ sizeLine) :
    Pst G X.K true S H (upd H p (.lst vs)) (.ref p) (.lst ds) := by
  refine ⟨p, rfl, hp, .inl ⟨vs, ds, rfl, upd_same, hz, r.mono (Le.of fun a o e => ?_)⟩⟩
  obtain ⟨n1, e1⟩ := hid_iff.mp e
  have ne : a ≠ p := ne_of_none e1 hp
  exact hid_iff.mpr ⟨fun z => z.elim n1 ne, by rw [upd_ne ne]; exact e1⟩
theorem pst_false {S : Addr → Prop} {H H' : Hp} {v : V} {d : D} (h : Rep G.fa X.K (hid S H') v d) : Pst G X.K false S H H' v d := h
theorem sz_words {n : Nat} : n ≤ 1000 → n ≤ sizeLine := fun h => Nat.le_trans h (by rw [sizeLine_eq]; decide)
theorem tup_len (hr : Room n X.A) : True := trivial
theorem b1_list (hc : X.calm = true) : CallR X (.type "list") (rF G X.K true (b1D .list)) := by
  intro pins s σ H as us Q I r h
  obtain ⟨S, x, a, d, rfl, hS, ra, e, q⟩ := h
  cases a with
  | tup xs =>
    cases e
    cases ra with | tup h1 n1 r1 => ?_
    exact call_list_of pins s σ H _ us Q I r ⟨_, _, rfl, .inr (SqT.of (hid_same _ _ h1)), fun l hl => q _ _ (Same.upd hl) (fresh_lst hl r1 n1)⟩
  | lst xs =>
    cases e
    cases ra with | lst h1 n1 r1 => ?_
    exact call_list_of pins s σ H _ us Q I r ⟨_, _, rfl, .inl (SqL.of (hid_same _ _ h1)), fun l hl => q _ _ (Same.upd hl) (fresh_lst hl r1 n1)⟩
  | dct t kvs =>
    cases e
    cases ra with
    | @dK p kv0 _ h1 n1 r1 =>
      refine call_listD hc pins s σ H _ us Q I r ⟨p, kv0, rfl, (Le.of hid_same).rd rfl h1, fun l hl => q _ _ (Same.upd hl) (fresh_lst hl ?_ (by rw [List.length_map]; exact n1))⟩
      have ek := r1.keys
      have e1 : (kvs.map fun kv => keyD false kv.1) = kv0.map fun kv => keyD1 kv.1 := by
        have : (kvs.map fun kv => keyD false kv.1) = (kvs.map (·.1)).map (keyD false) := by rw [List.map_map]; rfl
        rw [this, ← ek, List.map_map, List.map_map]
        rfl
      have e2 : (kv0.map fun kv => kV kv.1) = (kv0.map (·.1)).map kV := by rw [List.map_map]; rfl
      have e3 : (kv0.map fun kv => keyD1 kv.1) = (kv0.map (·.1)).map keyD1 := by rw [List.map_map]; rfl
      rw [e1, e2, e3]
      exact rep_keys _
    | @dT p kv0 _ h1 n1 r1 _ =>
      refine call_list_dT hc pins s σ H _ us Q I r ⟨p, kv0, rfl, (Le.of hid_same).rd rfl h1, fun l bs hl hb => ?_⟩
      have key : ∀ (kv0 : List (List Key × V)) (bs : List Addr) (kvs : List (List Key × D)), IsKeys H kv0 bs → kv0.map (·.1) = kvs.map (·.1) → RepL G.fa X.K (hid S H) (bs.map V.ref) (kvs.map fun kv => keyD true kv.1) := fun kv0 => by
        induction kv0 with
        | nil =>
          intro bs kvs h e
          cases h
          cases kvs with
          | nil => exact .nil
          | cons _ _ => cases e
        | cons p kv0 ih =>
          intro bs kvs h e
          cases h with
          | @cons _ b _ bs hb t =>
            cases kvs with
            | nil => cases e
            | cons kv kvs =>
              simp only [List.map_cons] at e
              obtain ⟨e1, e2⟩ := List.cons.inj e
              rw [List.map_cons, List.map_cons, ← e1]
              refine .cons (.tup (hid_iff.mpr ⟨fun z => ?_, hb⟩) ?_ (rep_keys p.1)) (ih bs kvs t e2)
              · obtain ⟨o, e3, nt⟩ := hS _ z
                rw [hb] at e3
                exact nt _ (Option.some.inj e3).symm
              · have hh : ObjOk X.prog X.w H s.heap b (.tup (p.1.map kV)) := I.hok b _ hb
                exact hh.1
      have lb : bs.length = kv0.length := (Paired.length hb).symm
      exact q _ _ (Same.upd hl) (fresh_lst hl (key kv0 bs kvs hb r1.keys) (by rw [List.length_map, lb]; exact n1))
  | _ => cases e
end
end Pu
end
section
set_option maxRecDepth 100000
set_option maxHeartbeats 1000000
namespace Pu
open PySem PySem.Spec L2
section
variable {α β : Type} {G : Gc} {K : PySem.W.Frag} {W : WX} {S0 : Addr → Prop} {HF : Hp} {own : Nat → List Addr} {σ : St} {H H1 : Hp} {env : Env}
theorem RT.step {r : R D} {f : D → R α} {rel : β → Hp → α → Prop} {Q : β → Hp → Prop} {fr : Bool} {C : V → Hp → Prop}
    (er : ER G K S0 HF own σ H env) (h : RT G W σ H (r.bind f) rel Q)
    (k : ∀ x d H1, r = .ok d → Same H H1 → Rep G.fa K (hid (SS S0 own) H1) x d → Pst G K fr (SS S0 own) H H1 x d → ER G K S0 HF own σ H1 env → RT G W σ H1 (f d) rel Q → C x H1) :
    RT G W σ H r (fun v H' d => Pst G K fr (SS S0 own) H H' v d) C := by
  cases r with
  | ok d => exact fun x H1 s p => k x d H1 rfl s (p.rep er.nt) p (er.same s) (RT.later (r := f d) h s)
  | exc c p => exact h
  | bad => exact h.elim
theorem RT.stepL {r : R (List D)} {f : List D → R α} {rel : β → Hp → α → Prop} {Q : β → Hp → Prop} {C : List V → Hp → Prop}
    (er : ER G K S0 HF own σ H env) (h : RT G W σ H (r.bind f) rel Q)
    (k : ∀ x d H1, r = .ok d → Same H H1 → RepL G.fa K (hid (SS S0 own) H1) x d → ER G K S0 HF own σ H1 env → RT G W σ H1 (f d) rel Q → C x H1) :
    RT G W σ H r (fun v H' d => RepL G.fa K (hid (SS S0 own) H') v d) C := by
  cases r with
  | ok d => exact fun x H1 s p => k x d H1 rfl s p (er.same s) (RT.later (r := f d) h s)
  | exc c p => exact h
  | bad => exact h.elim
theorem RT.stepB {γ : Type} {r : R γ} {f : γ → R α} {rel : β → Hp → α → Prop} {Q : β → Hp → Prop} {C : γ → Hp → Prop}
    (er : ER G K S0 HF own σ H env) (h : RT G W σ H (r.bind f) rel Q)
    (k : ∀ b H1, r = .ok b → Same H H1 → ER G K S0 HF own σ H1 env → RT G W σ H1 (f b) rel Q → C b H1) :
    RT G W σ H r (fun b _ d => b = d) C := by
  cases r with
  | ok d => exact fun x H1 s p => by subst p; exact k x H1 rfl s (er.same s) (RT.later (r := f x) h s)
  | exc c p => exact h
  | bad => exact h.elim
theorem RT.fin {r : R α} {rel : β → Hp → α → Prop} {Q : β → Hp → Prop} (h : RT G W σ H r rel Q) (n : ∀ c p, r ≠ .exc c p) : ∃ d, r = .ok d ∧ ∀ v H', Same H H' → rel v H' d → Q v H' := by
  cases r with
  | ok d => exact ⟨d, rfl, h⟩
  | exc c p => exact (n c p rfl).elim
  | bad => exact h.elim
theorem RT.ok {d : α} {rel : β → Hp → α → Prop} {Q : β → Hp → Prop} {v : β} (h : RT G W σ H (.ok d) rel Q) (r : rel v H d) : Q v H := h v H (Same.refl H) r
theorem ofO_ne {o : Option α} (c p) : R.ofO o ≠ .exc c p := by cases o <;> exact fun h => nomatch h
theorem RT.ofO {o : Option α} {f : α → R α'} {rel : β → Hp → α' → Prop} {Q : β → Hp → Prop} (h : RT G W σ H ((R.ofO o).bind f) rel Q) : ∃ a, o = some a ∧ RT G W σ H (f a) rel Q := by
  cases o with
  | none => exact h.elim
  | some a => exact ⟨a, rfl, h⟩
theorem same_hid {S : Addr → Prop} (s : Same H H1) : Same (hid S H) (hid S H1) := hid_mono s fun _ _ _ z => z
theorem Rep.later {S : Addr → Prop} {v : V} {d : D} (h : Rep G.fa K (hid S H) v d) (s : Same H H1) : Rep G.fa K (hid S H1) v d := h.mono (Le.of (same_hid s))
theorem RepL.later {S : Addr → Prop} {v : List V} {d : List D} (h : RepL G.fa K (hid S H) v d) (s : Same H H1) : RepL G.fa K (hid S H1) v d := h.mono (Le.of (same_hid s))
end
section
variable {X : Cx}
theorem PE.imp {e : Expr} {t t' : TE} (h : PE X e t) (k : ∀ σ H Q, t' σ H Q → t σ H Q) : PE X e t' := ⟨fun pins s σ H Q I q => h.run pins s σ H Q I (k σ H Q q)⟩
theorem PA.imp {e : List Expr} {t t' : TA} (h : PA X e t) (k : ∀ σ H Q, t' σ H Q → t σ H Q) : PA X e t' := ⟨fun pos pins s σ H Q I q => h.run pos pins s σ H Q I (k σ H Q q)⟩
theorem PT.imp {e : Expr} {t t' : TT} (h : PT X e t) (k : ∀ σ H Q, t' σ H Q → t σ H Q) : PT X e t' := ⟨fun pins s σ H Q I q => h.run pins s σ H Q I (k σ H Q q)⟩
theorem PW.imp {e : Expr} {t t' : TT} (h : PW X e t) (k : ∀ σ H Q, t' σ H Q → t σ H Q) : PW X e t' := ⟨fun whole pins s σ H Q I q => h.run whole pins s σ H Q I (k σ H Q q)⟩
theorem PTs.imp {e : List Expr} {t t' : TT} (h : PTs X e t) (k : ∀ σ H Q, t' σ H Q → t σ H Q) : PTs X e t' := ⟨fun pins s σ H Q I q => h.run pins s σ H Q I (k σ H Q q)⟩
theorem PS.imp {e : Stmt} {t t' : TS} (h : PS X e t) (k : ∀ D σ H, t' D σ H → t D σ H) : PS X e t' := ⟨fun pins s σ H D I q => h.run pins s σ H D I (k D σ H q)⟩
theorem PSs.imp {e : List Stmt} {t t' : TS} (h : PSs X e t) (k : ∀ D σ H, t' D σ H → t D σ H) : PSs X e t' := ⟨fun pins s σ H D I q => h.run pins s σ H D I (k D σ H q)⟩
theorem PI.imp {tg e : Expr} {t t' : TI} (h : PI X tg e t) (k : ∀ σ H Q, t' σ H Q → t σ H Q) : PI X tg e t' := ⟨fun pins s σ H Q I q => h.run pins s σ H Q I (k σ H Q q)⟩
theorem PG.imp {e : Expr} {t t' : TG} (h : PG X e t) (k : ∀ v σ H Q, t' v σ H Q → t v σ H Q) : PG X e t' := ⟨fun pins s σ H v u Q I r q => h.run pins s σ H v u Q I r (k v σ H Q q)⟩
theorem PGs.imp {e : List Expr} {t t' : TGs} (h : PGs X e t) (k : ∀ v σ H Q, t' v σ H Q → t v σ H Q) : PGs X e t' := ⟨fun pins s σ H v u Q I r q => h.run pins s σ H v u Q I r (k v σ H Q q)⟩
theorem PE.orFalse {e : Expr} {t : TE} (k : ∀ σ H Q, ¬ t σ H Q) : PE X e t := ⟨fun pins s σ H Q I q => (k σ H Q q).elim⟩
end
def plainX : Expr → Bool
  | .Starred _ _ => false
  | .Slice _ _ _ _ => false
  | .Set _ _ _ => false
  | _ => true
def valX : Expr → Bool
  | .BoolOp _ _ _ => false
  | .UnaryOp _ _ _ => false
  | .Compare _ _ _ _ => false
  | .IfExp _ _ _ _ => false
  | _ => true
theorem star_of {e : Expr} {es : List Expr} {env : PySem.Env} (h : plainX e = true) : starEach (e :: es) env = (false, eval e env) :: starEach es env := by
  cases e <;> first | rfl | cases h
theorem star_none {es : List Expr} {env : PySem.Env} (h : es.all plainX = true) (pos : Pos) : ((backTo pos (starEach es env)).any fun x => x.1) = false := by
  induction es with
  | nil => rfl
  | cons e es ih =>
    simp only [Bool.and_eq_true, List.all_cons] at h
    rw [star_of h.1]
    show (false || (backTo pos (starEach es env)).any fun x => x.1) = false
    rw [ih h.2]; rfl
theorem val_of {e : Expr} {env : PySem.Env} (h : valX e = true) (whole : Sem Value) : PySem.isTrue e env whole = (do let v ← whole; PySem.standAt e.pos; PySem.holding [v] (PySem.truthy v)) := by
  cases e <;> first | rfl | cases h
theorem fold_of {e : Expr} {env : PySem.Env} (h : plainX e = true) (x : Value) : foldedSetIterable e env x = pure x := by
  cases e <;> first | rfl | cases h
theorem marks_of {e : Expr} {o : CmpOp} (h : plainX e = true) : behindInMarks o e = false := by
  cases e <;> first | rfl | cases h
theorem ix_of {e : Expr} (h : plainX e = true) : PlainIx e := fun o i => by
  cases e <;> first | rfl | cases h
def glB (sc : Scope) (x : Str) : Bool := decide (sc.names.lookup x = some .globalImplicit) && decide ((x == Str.ofString "__debug__") = false) && decide (x ≠ Str.ofString "__name__")
def visB (sc : Scope) (x : Str) : Bool := (decide (sc.names.lookup x = some .local) || decide (sc.names.lookup x = some .cell) || decide (sc.names.lookup x = some .free)) && decide ((x == Str.ofString "__debug__") = false) && decide ((x == Str.ofString "__classdict__") = false)
def locB (sc : Scope) (x : Str) : Bool := decide (sc.names.lookup x = some .local) || decide (sc.names.lookup x = some .cell)
theorem gl_of {x : Str} (h : glB X.env.scope x = true) : Gl X x ∧ (x == Str.ofString "__debug__") = false ∧ x ≠ Str.ofString "__name__" := by
  simp only [glB, Bool.and_eq_true, decide_eq_true_eq] at h
  exact ⟨h.1.1, h.1.2, h.2⟩
theorem vis_of {sc : Scope} {x : Str} (h : visB sc x = true) : Vis sc x ∧ (x == Str.ofString "__debug__") = false ∧ (x == Str.ofString "__classdict__") = false := by
  simp only [visB, Bool.and_eq_true, Bool.or_eq_true, decide_eq_true_eq] at h
  exact ⟨h.1.1.elim (fun z => z.elim .inl (fun z => .inr (.inl z))) (fun z => .inr (.inr z)), h.1.2, h.2⟩
theorem loc_of {sc : Scope} {x : Str} (h : locB sc x = true) : L2.Loc sc x := by
  simp only [locB, Bool.or_eq_true, decide_eq_true_eq] at h
  exact h
structure Cfg where
  fns : List (Nat × Str)
  gls : List (Nat × Str)
  bis : List Str
  cls : List (Nat × Str)
  wh : List Str
  nr : Bool
  tgs : List (Nat × Str)
def spF (G : Gc) (K : PySem.W.Frag) (call : Nat → List D → R D) (f : Nat) : Sp := fun vs H Q E => ∃ S ds, (∀ z, S z → NT H z) ∧ RepL G.fa K (hid S H) vs ds ∧ (match call f ds with
  | .ok d => ∀ v H', Same H H' → Rep G.fa K (hid S H') v d → Q v H'
  | .exc c p => ∀ dd H', Same H H' → ExAt c p dd H' → E (.ref (G.cl c)) dd H'
  | .bad => False)
structure Cok (c : Cfg) (G : Gc) (P : Pr) (X : Cx) (n : Nat) : Prop where
  calm : X.calm = true
  room : Room (n + 2) X.A
  nd : X.N.Nodup
  bi : ∀ x, x ∈ c.bis → X.mg x = none
  gl : ∀ j x, (j, x) ∈ c.gls → ∃ u v, X.mg x = some u ∧ RelV v u ∧ ∀ H, Rep G.fa X.K H v (P.gl j)
  fn : ∀ f x, (f, x) ∈ c.fns → ∃ a, G.fa f = some a ∧ X.mg x = some (.ref a) ∧ W.keepIn X.K (.ref a) = true ∧ ∃ fd ps, FnOk X.prog X.w X.K X.mg X.base (L2N.CX X.prog X.w) (n + 2) a fd ps (spF G X.K P.call f) ∧ Binds X.K fd ps []
  fv : ∀ f a, G.fa f = some a → ∃ x, (f, x) ∈ c.fns
  tg : ∀ j x, (j, x) ∈ c.tgs → ∃ (a : Addr) (ws : List Str), X.mg x = some (.ref a) ∧ P.gl j = .tup (ws.map .str) ∧ ws.length ≤ 1000 ∧ ∀ H, SqT X.K H a (ws.map V.str)
section
variable {c : Cfg} {G : Gc} {P : Pr} {X : Cx} {n : Nat}
theorem Cok.hu (ok : Cok c G P X n) : X.A.units + 1 < cLine := hu_of ok.room
theorem Cok.blk (ok : Cok c G P X n) (s : Shared) (H : Hp) (scope : Scope) (env : PySem.Env) (fp : List Addr) : Cok c G P (X.blk s H scope env fp) n := ⟨ok.calm, ok.room, ok.nd, ok.bi, ok.gl, ok.fn, ok.fv, ok.tg⟩
theorem Cok.tr (ok : Cok c G P X n) (pn : List (Addr × Obj)) (xe : Value → Shared → Prop) : Cok c G P (X.tr pn xe) n := ⟨ok.calm, ok.room, ok.nd, ok.bi, ok.gl, ok.fn, ok.fv, ok.tg⟩
end
def W0 : WX := fun _ _ _ _ => False
theorem takes_blk {X : Cx} (s : Shared) (H : Hp) (scope : Scope) (env : PySem.Env) (fp : List Addr) : (∀ σ : St, PassesAt (L2N.CX X.prog X.w) (X.blk s H scope env fp) σ (WE W0 σ)) := fun σ pins H' s' e s'' I h => by
  obtain ⟨a, B, H'', cls, d, h1, h2, h3, h4, h5, h6, h7, h8⟩ := h
  exact h8
end Pu
end
section
set_option maxRecDepth 100000
set_option maxHeartbeats 1000000
namespace Pu
open PySem PySem.Spec L2
section
variable {c : Cfg} {G : Gc} {P : Pr} {X : Cx} {n : Nat} {W : WX}
theorem L_const {v : V} {d : D} {x : Expr} (h : PE X x (tC v)) (r : ∀ H, Rep G.fa X.K H v d) (env : Env) : PE X x (tE G X.K W env (.ok d) false) :=
  PE.imp h fun σ H Q ⟨S0, HF, own, er, q⟩ => RT.ok q (r _)
theorem L_var {i : Nat} {x : Str} {pos : Pos} (hi : X.N[i]? = some x) (hv : visB X.env.scope x = true) (env : Env) : PE X (.Name x pos) (tE G X.K W env (getE env i) false) :=
  PE.imp (pe_var hi (vis_of hv).1 (vis_of hv).2.1 (vis_of hv).2.2) fun σ H Q ⟨S0, HF, own, er, q⟩ => by
    unfold getE at q
    split at q
    · rename_i d e
      obtain ⟨v, h1, h2⟩ := er.sh i d e
      exact ⟨v, h1, RT.ok q h2⟩
    · exact q.elim
theorem L_nil (env : Env) : PA X [] (tL G X.K W env (.ok [])) := PA.imp pa_nil fun σ H Q ⟨S0, HF, own, er, q⟩ => RT.ok q .nil
theorem L_cons {e : E} {es : EL} {x : Expr} {xs : List Expr} {env : Env} {fr : Bool} (h : PE X x (tE G X.K W env (evE P env e) fr)) (t : PA X xs (tL G X.K W env (evL P env es))) (hx : plainX x = true) :
    PA X (x :: xs) (tL G X.K W env (evL P env (.cons e es))) :=
  PA.imp (pa_cons h t (star_of hx)) fun σ H Q ⟨S0, HF, own, er, q⟩ => by
    rw [evL] at q
    exact ⟨S0, HF, own, er, RT.step er q fun x d H1 e1 s1 r1 _ er1 q1 => ⟨S0, HF, own, er1, RT.stepL er1 q1 fun xs ds H2 e2 s2 r2 er2 q2 =>
      RT.ok q2 (.cons (r1.later s2) r2)⟩⟩
theorem L_tup {es : EL} {xs : List Expr} {pos : Pos} {k : Nat} {env : Env} (h : PA X xs (tL G X.K W env (evL P env es))) (hl : xs.length ≤ 1000) (hs : ∀ ds, evL P env es = .ok ds → ds.length = xs.length) : PE X (.Tuple xs k pos) (tE G X.K W env (evE P env (.tup es)) false) :=
  PE.imp (pe_tup h) fun σ H Q ⟨S0, HF, own, er, q⟩ => by
    rw [evE] at q
    exact ⟨S0, HF, own, er, RT.stepL er q fun vs ds H1 e1 s1 r1 er1 q1 => by
      have hz : vs.length ≤ sizeLine := by rw [r1.length, hs ds e1]; exact sz_words hl
      exact ⟨hz, fun p hp => q1 _ _ (Same.upd hp) (new_tup er1.nt hp r1 hz)⟩⟩
theorem L_lst {es : EL} {xs : List Expr} {pos : Pos} {env : Env} (h : PA X xs (tL G X.K W env (evL P env es))) (hl : xs.length ≤ 1000) (hs : ∀ ds, evL P env es = .ok ds → ds.length = xs.length) : PE X (.List xs pos) (tE G X.K W env (evE P env (.lst es)) true) :=
  PE.imp (pe_lst h) fun σ H Q ⟨S0, HF, own, er, q⟩ => by
    rw [evE] at q
    exact ⟨S0, HF, own, er, RT.stepL er q fun vs ds H1 e1 s1 r1 er1 q1 => by
      have hz : vs.length ≤ sizeLine := by rw [r1.length, hs ds e1]; exact sz_words hl
      refine ⟨hz, fun p hp => q1 _ _ (Same.upd hp) ?_⟩
      have := fresh_lst (X := X) hp r1 hz
      obtain ⟨p', h1, h2, h3⟩ := this
      exact ⟨p', h1, none_of s1 (by cases h1; exact hp), h3⟩⟩
where
  none_of {H H1 : Hp} {p : Addr} (s : Same H H1) (hp : H1 p = none) : H p = none := by
    cases e : H p with
    | none => rfl
    | some o => rw [s p o e] at hp; cases hp
theorem none_of {H H1 : Hp} {p : Addr} (s : Same H H1) (hp : H1 p = none) : H p = none := by
    cases e : H p with
    | none => rfl
    | some o => rw [s p o e] at hp; cases hp
theorem Pst.back {K : PySem.W.Frag} {fr : Bool} {S : Addr → Prop} {H H1 H' : Hp} {v : V} {d : D} (h : Pst G K fr S H1 H' v d) (s : Same H H1) : Pst G K fr S H H' v d := by
  cases fr with
  | false => exact h
  | true => obtain ⟨p, h1, h2, h3⟩ := h; exact ⟨p, h1, none_of s h2, h3⟩
theorem L_dct0 {t : Bool} {pos : Pos} (env : Env) : PE X (.Dict [] [] pos) (tE G X.K W env (.ok (.dct t [])) true) := by
  cases t with
  | false => exact PE.imp pe_dnewK fun σ H Q ⟨S0, HF, own, er, q⟩ p hp => q _ _ (Same.upd hp) ⟨p, rfl, hp, .inr (.inl ⟨[], [], rfl, upd_same, Nat.zero_le _, .nil⟩)⟩
  | true => exact PE.imp pe_dnewT fun σ H Q ⟨S0, HF, own, er, q⟩ p hp => q _ _ (Same.upd hp) ⟨p, rfl, hp, .inr (.inr ⟨[], [], rfl, upd_same, Nat.zero_le _, .nil, fun _ h => nomatch h⟩)⟩
theorem R.bind_assoc {α β γ : Type} (r : R α) (f : α → R β) (g : β → R γ) : (r.bind f).bind g = r.bind fun a => (f a).bind g := by cases r <;> rfl
theorem ok_ne {α : Type} {a : α} {c p} : (R.ok a : R α) ≠ .exc c p := by intro h; cases h
theorem bad_ne {α : Type} {c p} : (R.bad : R α) ≠ .exc c p := by intro h; cases h
theorem binD_ne (o : BO) (a b : D) (c p) : binD o a b ≠ .exc c p := by
  unfold binD
  split <;> (try split) <;> first | exact ok_ne | exact bad_ne
theorem eqD_ne (a b : D) (c p) : eqD a b ≠ .exc c p := by unfold eqD; split <;> first | exact ok_ne | exact bad_ne
theorem ofO_bind_ne {α β : Type} (o : Option α) (f : α → R β) (h : ∀ a c p, f a ≠ .exc c p) (c p) : (R.ofO o).bind f ≠ .exc c p := by
  cases o with
  | none => first | exact ok_ne | exact bad_ne
  | some a => exact h a c p
theorem inD_ne (a b : D) (c p) : inD a b ≠ .exc c p := by
  unfold inD
  split
  · split <;> first | exact ok_ne | exact bad_ne
  · split <;> first | exact ok_ne | exact bad_ne
  · split
    · split <;> first | exact ok_ne | exact bad_ne
    · first | exact ok_ne | exact bad_ne
  · exact ofO_bind_ne _ _ (fun _ _ _ => ok_ne) c p
  · first | exact ok_ne | exact bad_ne
theorem bind_ne {α β : Type} {r : R α} {f : α → R β} (h : ∀ c p, r ≠ .exc c p) (hf : ∀ a c p, f a ≠ .exc c p) (c p) : r.bind f ≠ .exc c p := by
  cases r with
  | ok a => exact hf a c p
  | exc c' p' => exact (h c' p' rfl).elim
  | bad => first | exact ok_ne | exact bad_ne
theorem cmpI_ne (f : Int → Int → Bool) (a b : D) (c p) : cmpI f a b ≠ .exc c p := by unfold cmpI; split <;> first | exact ok_ne | exact bad_ne
theorem cmpD_ne (o : CO) (a b : D) (c p) : cmpD o a b ≠ .exc c p := by
  cases o with
  | eq => exact eqD_ne a b c p
  | ne => exact bind_ne (eqD_ne a b) (fun _ _ _ => ok_ne) c p
  | lt => exact cmpI_ne _ a b c p
  | le => exact cmpI_ne _ a b c p
  | gt => exact cmpI_ne _ a b c p
  | ge => exact cmpI_ne _ a b c p
  | isin => exact inD_ne a b c p
  | nin => exact bind_ne (inD_ne a b) (fun _ _ _ => ok_ne) c p
  | isn => cases b <;> first | exact ok_ne | exact bad_ne
  | nisn => cases b <;> first | exact ok_ne | exact bad_ne
  | nisT => cases a <;> cases b <;> first | exact ok_ne | exact bad_ne | (rename_i b; cases b <;> first | exact ok_ne | exact bad_ne)
  | eqe => show (match a, b with | .dct false kvs, .dct false [] => R.ok kvs.isEmpty | _, _ => .bad) ≠ _; split <;> first | exact ok_ne | exact bad_ne
theorem ixD_ne (a b : D) (c p) : ixD a b ≠ .exc c p := by
  unfold ixD
  split
  · exact ofO_ne c p
  · exact ofO_ne c p
  · exact ofO_bind_ne _ _ (fun _ _ _ => ok_ne) c p
  · split
    · exact ofO_bind_ne _ _ (fun _ _ _ => ok_ne) c p
    · first | exact ok_ne | exact bad_ne
  · exact ofO_bind_ne _ _ (fun _ c p => ofO_ne c p) c p
  · first | exact ok_ne | exact bad_ne
theorem slD_ne (a : D) (lo hi) (c p) : slD a lo hi ≠ .exc c p := by
  unfold slD
  split <;> (try split) <;> first | exact ok_ne | exact bad_ne
theorem L_bin {o : BO} {a b : E} {xa xb : Expr} {pos : Pos} {env : Env} {fa fb : Bool} (ha : PE X xa (tE G X.K W env (evE P env a) fa)) (hb : PE X xb (tE G X.K W env (evE P env b) fb)) :
    PE X (.BinOp xa (bop o) xb pos) (tE G X.K W env (evE P env (.bin o a b)) false) :=
  PE.imp (pe_op (or_bin (G := G) o) ha hb) fun σ H Q ⟨S0, HF, own, er, q⟩ => by
    rw [evE] at q
    exact ⟨S0, HF, own, er, RT.step er q fun x d H1 e1 s1 r1 _ er1 q1 => ⟨S0, HF, own, er1, RT.step er1 q1 fun y d2 H2 e2 s2 r2 _ er2 q2 => by
      obtain ⟨dd, e3, q3⟩ := q2.fin (binD_ne o d d2)
      exact ⟨_, d, d2, dd, er2.nt, r1.later s2, r2, e3, q3⟩⟩⟩
theorem L_cmp (ok : Cok c G P X n) {o : CO} {a b : E} {xa xb : Expr} {pos : Pos} {env : Env} {fa fb : Bool} (ha : PE X xa (tE G X.K W env (evE P env a) fa)) (hb : PE X xb (tE G X.K W env (evE P env b) fb)) (hx : plainX xb = true) :
    PE X (.Compare xa [cop o] [xb] pos) (tE G X.K W env (evE P env (.cmp o a b)) false) :=
  PE.imp (pe_cmpR (or_cmp (G := G) ok.room o) ha hb (marks_of hx)) fun σ H Q ⟨S0, HF, own, er, q⟩ => by
    rw [evE] at q
    exact ⟨S0, HF, own, er, RT.step er q fun x d H1 e1 s1 r1 _ er1 q1 => ⟨S0, HF, own, er1, RT.step er1 q1 fun y d2 H2 e2 s2 r2 _ er2 q2 => by
      cases e4 : cmpD o d d2 with
      | ok dd => rw [e4] at q2; exact ⟨_, d, d2, dd, er2.nt, r1.later s2, r2, e4, RT.ok q2 (.bl _)⟩
      | exc c p => exact (cmpD_ne o d d2 c p e4).elim
      | bad => rw [e4] at q2; exact q2.elim⟩⟩
theorem L_cmpT (ok : Cok c G P X n) {o : CO} {a b : E} {xa xb : Expr} {pos : Pos} {env : Env} {fa fb : Bool} (ha : PE X xa (tE G X.K W env (evE P env a) fa)) (hb : PE X xb (tE G X.K W env (evE P env b) fb)) (hx : plainX xb = true) :
    PT X (.Compare xa [cop o] [xb] pos) (tT G X.K W env ((evE P env (.cmp o a b)).bind asB)) :=
  PT.imp (pt_cmpR (or_cmp (G := G) ok.room o) ha hb (marks_of hx)) fun σ H Q ⟨S0, HF, own, er, q⟩ => by
    rw [evE, R.bind_assoc] at q
    exact ⟨S0, HF, own, er, RT.step er q fun x d H1 e1 s1 r1 _ er1 q1 => by
      rw [R.bind_assoc] at q1
      exact ⟨S0, HF, own, er1, RT.step er1 q1 fun y d2 H2 e2 s2 r2 _ er2 q2 => by
        cases e4 : cmpD o d d2 with
        | ok dd => rw [e4] at q2; exact ⟨_, d, d2, dd, er2.nt, r1.later s2, r2, e4, dd, rfl, RT.ok (d := dd) q2 rfl⟩
        | exc c p => exact (cmpD_ne o d d2 c p e4).elim
        | bad => rw [e4] at q2; exact q2.elim⟩⟩
theorem L_neg {a : E} {xa : Expr} {pos : Pos} {env : Env} {fa : Bool} (ha : PE X xa (tE G X.K W env (evE P env a) fa)) : PE X (.UnaryOp .USub xa pos) (tE G X.K W env (evE P env (.neg a)) false) :=
  PE.imp (pe_un un_neg ha) fun σ H Q ⟨S0, HF, own, er, q⟩ => by
    rw [evE] at q
    exact ⟨S0, HF, own, er, RT.step er q fun x d H1 e1 s1 r1 _ er1 q1 => by
      cases d with
      | int i => cases r1; exact ⟨i, rfl, RT.ok q1 (.int _)⟩
      | _ => exact q1.elim⟩
theorem L_ix (ok : Cok c G P X n) {a b : E} {xa xb : Expr} {pos : Pos} {env : Env} {fa fb : Bool} (ha : PE X xa (tE G X.K W env (evE P env a) fa)) (hb : PE X xb (tE G X.K W env (evE P env b) fb)) (hx : plainX xb = true) :
    PE X (.Subscript xa xb pos) (tE G X.K W env (evE P env (.ix a b)) false) :=
  PE.imp (pe_ix (ix_any (G := G) ok.room) ha hb (ix_of hx)) fun σ H Q ⟨S0, HF, own, er, q⟩ => by
    rw [evE] at q
    exact ⟨S0, HF, own, er, RT.step er q fun x d H1 e1 s1 r1 _ er1 q1 => ⟨S0, HF, own, er1, RT.step er1 q1 fun y d2 H2 e2 s2 r2 _ er2 q2 => by
      obtain ⟨dd, e3, q3⟩ := q2.fin (ixD_ne d d2)
      exact ⟨_, d, d2, dd, er2.nt, r1.later s2, r2, e3, q3⟩⟩⟩
theorem L_not {a : E} {xa : Expr} {pos : Pos} {env : Env} {fa : Bool} (ha : PE X xa (tE G X.K W env (evE P env a) fa)) : PE X (.UnaryOp .Not xa pos) (tE G X.K W env (evE P env (.not a)) false) :=
  PE.imp (pe_not ha) fun σ H Q ⟨S0, HF, own, er, q⟩ => by
    rw [evE] at q
    exact ⟨S0, HF, own, er, RT.step er q fun x d H1 e1 s1 r1 _ er1 q1 => by
      cases d with
      | bl b => cases r1; exact ⟨b, rfl, RT.ok q1 (.bl _)⟩
      | _ => exact q1.elim⟩
theorem asB_not (r : R D) : ((r.bind fun d => (asB d).bind fun b => .ok (.bl (!b))).bind asB) = (r.bind asB).bind fun b => .ok (!b) := by
  cases r with
  | ok d => cases d <;> rfl
  | exc c p => rfl
  | bad => rfl
theorem L_notT {a : E} {xa : Expr} {pos : Pos} {env : Env} (ha : PT X xa (tT G X.K W env ((evE P env a).bind asB))) : PT X (.UnaryOp .Not xa pos) (tT G X.K W env ((evE P env (.not a)).bind asB)) :=
  PT.imp (pt_not ha) fun σ H Q ⟨S0, HF, own, er, q⟩ => by
    rw [evE, asB_not] at q
    exact ⟨S0, HF, own, er, RT.stepB er q fun b H1 e1 s1 er1 q1 => RT.ok q1 rfl⟩
theorem L_val {r : R D} {x : Expr} {env : Env} {fa : Bool} (ha : PE X x (tE G X.K W env r fa)) (hx : valX x = true) : PT X x (tT G X.K W env (r.bind asB)) :=
  PT.imp (pt_val ha (val_of hx)) fun σ H Q ⟨S0, HF, own, er, q⟩ => ⟨S0, HF, own, er, RT.step er q fun x d H1 e1 s1 r1 _ er1 q1 => by
    cases d with
    | bl b => cases r1; exact ⟨b, rfl, RT.ok q1 rfl⟩
    | _ => exact q1.elim⟩
theorem L_bor {e : E} {x : Expr} {env : Env} (h : PE X x (tE G X.K W (unown env) (evE P (unown env) e) (frE e))) : PE X x (tE G X.K W env (evE P env (.bor e)) (frE (.bor e))) :=
  PE.imp h fun σ H Q ⟨S0, HF, own, er, q⟩ => by
    rw [evE] at q
    exact ⟨S0, HF, _, er.un, RT.step er.un q fun x d H1 e1 s1 r1 p1 er1 q1 => by
      have fe : frE (.bor e) = frE e := rfl
      rw [fe] at q1
      cases hf : frE e with
      | false =>
        rw [hf] at q1
        cases i : d.imm with
        | false => rw [i] at q1; exact q1.elim
        | true =>
          rw [i] at q1
          exact RT.ok (d := d) q1 (imm_hid (er.same s1).nt i (un_hid r1))
      | true =>
        rw [hf] at q1 p1
        obtain ⟨p, h1, h2, h3⟩ := p1
        have key : ∀ vs ds, d = .lst ds → H1 p = some (.lst vs) → vs.length ≤ sizeLine → RepL G.fa X.K (hid (fun a => SS S0 (fun _ => []) a ∨ a = p) H1) vs ds → immL d = true → Pst G X.K true (SS S0 own) H H1 x d := fun vs ds ed hp hz r hi => by
          subst ed
          refine ⟨p, h1, h2, .inl ⟨vs, ds, rfl, hp, hz, ?_⟩⟩
          refine imm_hidL (fun a z => ?_) (by rw [D.imms_eq]; exact hi) (un_hidL r)
          rcases z with z | z
          · exact (er.same s1).nt a z
          · subst z; exact ⟨_, hp, fun _ z => nomatch z⟩
        rcases h3 with ⟨vs, ds, g1, g2, g3, g4⟩ | ⟨kvs, kds, g1, _⟩ | ⟨kvs, kds, g1, _⟩
        · cases i : immL d with
          | false =>
            subst g1
            have : (D.lst ds).imm = false := rfl
            rw [this, i] at q1; exact q1.elim
          | true =>
            have k := key vs ds g1 g2 g3 g4 i
            have : (d.imm || (true && immL d)) = true := by rw [i]; simp
            rw [this] at q1
            exact RT.ok (d := d) q1 k
        · subst g1; exact q1.elim
        · subst g1; exact q1.elim⟩
theorem L_call (ok : Cok c G P X n) (hp : ∀ σ, PassesAt (L2N.CX X.prog X.w) X σ (WE W σ)) {f : Nat} {g : Str} {es : EL} {x : Expr} {xs : List Expr} {p pos : Pos} {env : Env} (hf : (f, g) ∈ c.fns) (hg : glB X.env.scope g = true)
    (h : PA X (x :: xs) (tL G X.K W env (evL P env es))) (hx : (x :: xs).all plainX = true) : PE X (.Call (.Name g p) (x :: xs) [] pos) (tE G X.K W env (evE P env (.call f es)) false) := by
  obtain ⟨a, _, h1, h2, fd, ps, h3, h4⟩ := ok.fn f g hf
  rw [List.all_cons, Bool.and_eq_true] at hx
  refine PE.imp (pe_callS h3 ok.room (gl_of hg).1 h1 h2 h4 hp h (gl_of hg).2.1 (star_of hx.1) (star_none hx.2 pos)) fun σ H Q ⟨S0, HF, own, er, q⟩ => ?_
  rw [evE] at q
  exact ⟨S0, HF, own, er, RT.stepL er q fun vs ds H1 e1 s1 r1 er1 q1 => ⟨_, ds, er1.nt, r1, by cases ec : P.call f ds <;> rw [ec] at q1 <;> exact q1⟩⟩
theorem L_callv (ok : Cok c G P X n) (hp : ∀ σ, PassesAt (L2N.CX X.prog X.w) X σ (WE W σ)) {i : Nat} {y : Str} {es : EL} {x : Expr} {xs : List Expr} {p pos : Pos} {env : Env} (hi : X.N[i]? = some y) (hv : visB X.env.scope y = true)
    (h : PA X (x :: xs) (tL G X.K W env (evL P env es))) (hx : (x :: xs).all plainX = true) : PE X (.Call (.Name y p) (x :: xs) [] pos) (tE G X.K W env (evE P env (.callv (.var i) es)) false) := by
  simp only [List.all_cons, Bool.and_eq_true] at hx
  refine ⟨fun pins s σ H Q I ⟨S0, HF, own, er, q⟩ => ?_⟩
  rw [evE, evE] at q
  unfold getE at q
  split at q
  case h_2 => exact q.elim
  rename_i d e
  obtain ⟨v, h1, r⟩ := er.sh i d e
  rw [R.bind_ok] at q
  cases d with
  | fn f =>
    cases r with | fn _ hf => ?_
    rename_i a
    obtain ⟨g, hg⟩ := ok.fv f a hf
    obtain ⟨a', ea, _, kp, fd, ps, F, b⟩ := ok.fn f g hg
    rw [hf] at ea
    cases ea
    refine wpAny_Call_Name_kw (thn ((pe_var (pos := p) hi (vis_of hv).1 (vis_of hv).2.1 (vis_of hv).2.2).run pins s σ H (fun v H1 => v = .ref a ∧ H1 = H) I ⟨.ref a, h1, rfl, rfl⟩) fun u s1 ⟨v, H1, I1, r1, ev, eH⟩ => ?_)
    subst ev eH
    cases r1
    refine PySem.W.callWith_K (h₀ := X.base) I.ok.mod.kin kp (thn (h.run pos pins s1 σ H1 (fun vs H2 => spF G X.K P.call f vs H2 Q (WE W σ)) I1 ⟨S0, HF, own, er, RT.stepL er q fun vs ds H2 e1 s2 r2 er2 q2 => ⟨_, ds, er2.nt, r2, ?_⟩⟩) fun us s2 ⟨vs, H2, I2, r2, q2⟩ => ⟨I2.kIn, run_fnS F ok.room b (hp σ) I2 r2 q2⟩) (star_of hx.1) (star_none hx.2 pos)
    cases ec : P.call f ds <;> rw [ec] at q2 <;> exact q2
  | _ => exact q.elim
theorem revD_ne (a : D) (c p) : revD a ≠ .exc c p := by cases a <;> first | exact ok_ne | exact bad_ne
theorem L_none (env : Env) : PO X none (fun σ H Q => ∃ S0 HF own, ER G X.K S0 HF own σ H env ∧ RT G W σ H ((evO P env .none).bind optI) (fun o _ d => o = d) Q) := ⟨fun pins s σ H Q I ⟨S0, HF, own, er, q⟩ => po_none.run pins s σ H Q I (q _ H (Same.refl H) rfl)⟩
theorem L_some {e : E} {x : Expr} {env : Env} {fa : Bool} (h : PE X x (tE G X.K W env (evE P env e) fa)) : PO X (some x) (fun σ H Q => ∃ S0 HF own, ER G X.K S0 HF own σ H env ∧ RT G W σ H ((evO P env (.some e)).bind optI) (fun o _ d => o = d) Q) :=
  ⟨fun pins s σ H Q I ⟨S0, HF, own, er, q⟩ => (po_some h).run pins s σ H Q I (by
    rw [evO] at q
    refine ⟨S0, HF, own, er, ?_⟩
    cases e1 : evE P env e with
    | exc c p => rw [e1] at q; exact q
    | bad => rw [e1] at q; exact q.elim
    | ok d =>
      rw [e1] at q
      intro v H1 s1 p1
      have r1 := p1.rep er.nt
      cases d with
      | int i => cases r1; exact ⟨i, rfl, q _ H1 s1 rfl⟩
      | _ => exact q.elim)⟩
theorem L_sl {a : E} {lo hi : OE} {xa : Expr} {xlo xhi : Option Expr} {p2 pos : Pos} {env : Env} {fa : Bool} (ha : PE X xa (tE G X.K W env (evE P env a) fa))
    (hlo : PO X xlo (fun σ H Q => ∃ S0 HF own, ER G X.K S0 HF own σ H env ∧ RT G W σ H ((evO P env lo).bind optI) (fun o _ d => o = d) Q))
    (hhi : PO X xhi (fun σ H Q => ∃ S0 HF own, ER G X.K S0 HF own σ H env ∧ RT G W σ H ((evO P env hi).bind optI) (fun o _ d => o = d) Q)) :
    PE X (.Subscript xa (.Slice xlo xhi none p2) pos) (tE G X.K W env (evE P env (.sl a lo hi)) false) :=
  PE.imp (pe_slice (sl_any (G := G)) ha hlo hhi) fun σ H Q ⟨S0, HF, own, er, q⟩ => by
    rw [evE] at q
    exact ⟨S0, HF, own, er, RT.step er q fun x d H1 e1 s1 r1 _ er1 q1 => ⟨S0, HF, own, er1, RT.stepB er1 q1 fun l H2 e2 s2 er2 q2 => ⟨S0, HF, own, er2, RT.stepB er2 q2 fun h H3 e3 s3 er3 q3 => by
      obtain ⟨dd, e6, q6⟩ := q3.fin (slD_ne d _ _)
      exact ⟨_, d, dd, er3.nt, r1.later (s2.trans s3), e6, q6⟩⟩⟩⟩
end
end Pu
end
section
set_option maxRecDepth 100000
set_option maxHeartbeats 1000000
namespace Pu
open PySem PySem.Spec L2
abbrev ltD (a b : D) : Bool := PySem.W.dataLt a.py b.py
theorem swo_D : SrtO.Swo ltD := by
  refine ⟨fun x y hxy => ?_, fun x y z h1 h2 => ?_⟩
  · have h := hxy
    cases h' : ltD y x with
    | false => rfl
    | true =>
      have := PyProof.Rows.lex_trans (O := PyProof.Rows.itemOrd) _ _ _ h h'
      rw [PyProof.Rows.lex_irrefl] at this
      cases this
  · cases h' : ltD z x with
    | false => rfl
    | true =>
      rcases PyProof.Rows.lex_negTrans (O := PyProof.Rows.itemOrd) _ (PySem.W.keyToks y.py) _ h' with q | q
      · rw [show ltD z y = true from q] at h2; cases h2
      · rw [show ltD y x = true from q] at h1; cases h1
theorem sort_stb (xs : List D) : SrtO.Srtd ltD (xs.mergeSort dLe) ∧ SrtO.Stb ltD (xs.mergeSort dLe) xs := by
  have tr : ∀ a b c : D, dLe a b = true → dLe b c = true → dLe a c = true := fun a b c h1 h2 => by
    have h1 : (!ltD b a) = true := h1
    have h2 : (!ltD c b) = true := h2
    show (!ltD c a) = true
    rw [Bool.not_eq_true'] at h1 h2 ⊢
    exact swo_D.tr a b c h1 h2
  have to : ∀ a b : D, (dLe a b || dLe b a) = true := fun a b => by
    show (!ltD b a || !ltD a b) = true
    cases h : ltD b a with
    | false => rfl
    | true => rw [swo_D.asym _ _ h]; rfl
  have hs := List.pairwise_mergeSort (le := dLe) tr to xs
  have hp := List.mergeSort_perm xs dLe
  refine ⟨hs.imp fun {a b} h => ?_, hp, fun x => ?_⟩
  · have h : (!ltD b a) = true := h
    rw [Bool.not_eq_true'] at h
    exact h
  · have h1 : (xs.filter (SrtO.eqv ltD x)).Pairwise fun a b => dLe a b = true := by
      rw [List.pairwise_iff_forall_sublist]
      intro a b hab
      have ma : a ∈ xs.filter (SrtO.eqv ltD x) := hab.subset List.mem_cons_self
      have mb : b ∈ xs.filter (SrtO.eqv ltD x) := hab.subset (List.mem_cons_of_mem _ List.mem_cons_self)
      obtain ⟨a1, a2⟩ := SrtO.eqv_iff.mp (List.mem_filter.mp ma).2
      obtain ⟨b1, b2⟩ := SrtO.eqv_iff.mp (List.mem_filter.mp mb).2
      show (!ltD b a) = true
      rw [Bool.not_eq_true']
      exact swo_D.tr a x b a1 b2
    have h2 := List.sublist_mergeSort (le := dLe) tr to h1 List.filter_sublist
    have h3 := h2.filter (SrtO.eqv ltD x)
    rw [List.filter_filter] at h3
    simp only [Bool.and_self] at h3
    exact (h3.eq_of_length ((hp.filter _).length_eq.symm)).symm
theorem sort_out {l xs : List D} (h1 : SrtO.Srtd ltD l) (h2 : SrtO.Stb ltD l xs) : l = xs.mergeSort dLe := by
  obtain ⟨g1, g2⟩ := sort_stb xs
  refine SrtO.stb_uniq swo_D h1 g1 ⟨h2.perm.trans g2.perm.symm, fun x => (h2.cls x).trans (g2.cls x).symm⟩
section
variable {fa : Nat → Option Addr} {K : PySem.W.Frag} {H : Hp}
mutual
theorem rep_uniq : ∀ {v : V} {d d' : D} {n : Nat}, Rep fa K H v d → Rep fa K H v d' → d.imm = true → d'.imm = true → ck n d.py = true → ck n d'.py = true → d = d'
  | _, _, d', _, .non, r, _, _, _, _ => by cases r; rfl
  | _, _, d', _, .bl b, r, _, _, _, _ => by cases r; rfl
  | _, _, d', _, .int i, r, _, _, _, _ => by cases r; rfl
  | _, _, d', _, .str x, r, _, _, _, _ => by cases r; rfl
  | _, _, d', n, .fn i h, r, _, _, c, _ => by cases n <;> cases c
  | _, _, d', _, .scr _ _, r, i, _, _, _ => nomatch i
  | _, _, d', n, .tup h _ rs, r, i, i', c, c' => by
    cases r with
    | fn => cases n <;> cases c'
    | scr => cases i'
    | lst => cases i'
    | dK => cases i'
    | dT => cases i'
    | tup h2 _ rs2 =>
      rw [h] at h2
      cases h2
      cases n with
      | zero => cases c
      | succ n => rw [rep_uniqL (n := n) rs rs2 i i' (by simpa [D.py, ck] using c) (by simpa [D.py, ck] using c')]
  | _, _, d', _, .lst _ _ _, r, i, _, _, _ => nomatch i
  | _, _, d', _, .dK _ _ _, r, i, _, _, _ => nomatch i
  | _, _, d', _, .dT _ _ _ _, r, i, _, _, _ => nomatch i
theorem rep_uniqL : ∀ {v : List V} {d d' : List D} {n : Nat}, RepL fa K H v d → RepL fa K H v d' → D.imms d = true → D.imms d' = true → (∀ x ∈ d, ck n x.py = true) → (∀ x ∈ d', ck n x.py = true) → d = d'
  | _, _, d', _, .nil, r, _, _, _, _ => by cases r; rfl
  | _, _, d', _, .cons h t, r, i, i', c, c' => by
    cases r with
    | cons h2 t2 =>
      simp only [D.imms, Bool.and_eq_true] at i i'
      rw [rep_uniq h h2 i.1 i'.1 (c _ List.mem_cons_self) (c' _ List.mem_cons_self), rep_uniqL t t2 i.2 i'.2 (fun x hx => c x (List.mem_cons_of_mem _ hx)) (fun x hx => c' x (List.mem_cons_of_mem _ hx))]
end
end
section
variable {w : World} {prog : Program} {A : Around}
variable {s : Shared} {E : Value → Shared → Prop}
theorem one_tup {xs ys : List PyData} {a b : Value} {as bs : List Addr} {Q : Bool → Shared → Prop} (ra : Reads s.heap a (.tuple xs) as) (rb : Reads s.heap b (.tuple ys) bs) (hal : PySem.W.alikeAll xs ys = true)
    (hu : A.units + min (PyData.depth (.tuple xs)) (PyData.depth (.tuple ys)) < cLine) (hq : Q (PySem.W.dataLt (.tuple xs) (.tuple ys)) s) : wpAny (model prog w) A (PyProof.Rows.oneLt' true a b) Q E s := by
  cases ra with
  | @tuple l o vs n _ _ h1 h2 h3 h4 =>
    cases rb with
    | @tuple l' o' vs' n' _ _ k1 k2 k3 k4 =>
      have n1 : vs.size = xs.length := by simpa using SeqAt.ReadsAll.length _ _ _ h4
      have n2 : vs'.size = ys.length := by simpa using SeqAt.ReadsAll.length _ _ _ k4
      rw [PySem.W.dataLt_tuple, ← PySem.W.firstLt_toks xs ys hal, ← n1, ← n2] at hq
      rw [PyProof.Rows.oneLt'_eq]
      simp only [if_true]
      obtain ⟨cls, dd, data, sl⟩ := o
      obtain ⟨cls2, dd2, data2, sl2⟩ := o'
      simp only at h2 h3 k2 k3
      subst h2 h3 k2 k3
      have he : ∀ j (h1 : j < vs.size) (h2 : j < vs'.size), SeqAt.EqAt A.in1 s vs[j] vs'[j] (SeqAt.pairEq xs ys j) := fun j j1 j2 => by
        have := PySem.W.eqAt_alikeAll xs ys A.in1 s vs.toList vs'.toList _ _ h4 k4 hal (SeqAt.room_in hu) j (by simpa using j1) (by simpa using j2)
        simpa using this
      have hr : ∀ j (h1 : j < vs.size) (h2 : j < vs'.size), SeqAt.pairEq xs ys j = false → SeqAt.RcLt A.in1 s vs[j] vs'[j] (PySem.W.dataLt (xs.getD j .none) (ys.getD j .none)) := fun j j1 j2 hj => by
        have := PySem.W.rcLt_alikeAll xs ys A.in1 s vs.toList vs'.toList _ _ h4 k4 hal (SeqAt.room_in hu) j (by simpa using j1) (by simpa using j2) hj
        simpa using this
      refine wpAny_bind (wpAny_cRoomFor (SeqAt.room_here hu) ?_)
      refine wpAny_bind (wpAny_callSpecialIfBound?_slot (T := "tuple") ⟨_, h1, rfl⟩ F.slot_tuple_lt (call_meets F.slot_tuple_lt ⟨_, h1, rfl⟩ F.entry_tuple_lt (F.args_tuple_lt_2 _ _) (SeqAt.tuple_ltAt _ _ vs vs' n n' dd dd2 sl sl2 (SeqAt.pairEq xs ys) (fun j => PySem.W.dataLt (xs.getD j .none) (ys.getD j .none))) ⟨h1, k1, he, hr, ?_⟩))
      exact wpAny_truthy_bool hq
theorem kat_tup {b : Bool} {d1 d2 : List PyData} {x y : Value} {as bs : List Addr} {Q : Bool → Shared → Prop} (q1 : Reads s.heap x (.tuple d1) as) (q2 : Reads s.heap y (.tuple d2) bs) (al : PySem.W.alikeAll d1 d2 = true)
    (dp : A.units + min (PyData.depth (.tuple d1)) (PyData.depth (.tuple d2)) < cLine) (hb : b = true → ∀ x r t, d1 = x :: r → x ≠ .tuple t) (h : Q (PyProof.Rows.lexLt PyProof.Rows.itemOrd (PySem.W.keyToksAll d1) (PySem.W.keyToksAll d2)) s) :
    wpAny (model prog w) A (PyProof.Rows.keyLt' (PyProof.Rows.tuples' b) x y) Q E s := by
  cases q1 with
  | @tuple l1 o1 ys1 m1 _ _ g1 g2 g3 g4 =>
    cases q2 with
    | @tuple l2 o2 ys2 m2 _ _ j1 j2 j3 j4 =>
      have nn1 : ys1.size = d1.length := by simpa using SeqAt.ReadsAll.length _ _ _ g4
      have nn2 : ys2.size = d2.length := by simpa using SeqAt.ReadsAll.length _ _ _ j4
      exact PySem.W.kat_lt g1 g3 j1 j3 (PySem.W.katLex_alike d1 d2 0 _ _ _ _ g4 j4 al (by have := SeqAt.room_in dp; simp only [PyData.depth] at dp; omega) (fun hb' _ x r t ex => hb hb' x r t ex) (by rw [nn1, nn2]) h)
def TupAt (h : Heap) (v : Value) (xs : Array Value) : Prop := ∃ a o n, v = .ref a ∧ h.get? a = some o ∧ o.cls = .type "tuple" ∧ o.data = .seq xs n
theorem TupAt.of {h : Heap} {v : Value} {ds : List PyData} {as : List Addr} (r : Reads h v (.tuple ds) as) : ∃ xs, TupAt h v xs ∧ ∃ bs, ReadsAll h xs.toList ds bs := by
  cases r with
  | tuple h1 h2 h3 h4 => exact ⟨_, ⟨_, _, _, rfl, h1, h2, h3⟩, _, h4⟩
theorem firsts_ok {M : Model} : ∀ (vs : List Value) (xss : List (Array Value)) {Q : List (Option Value) → Shared → Prop}, PySem.W.EachIs (TupAt s.heap) vs xss → Q (xss.map fun xs => xs[0]?) s → wpAny M A (vs.mapM PyProof.Rows.firstOfTuple') Q E s
  | _, _, _, .nil, h => by rw [List.mapM_nil]; exact wpAny_pure h
  | _, _, Q, .cons (a := v) (b := xs) (as := vs) (bs := xss) ⟨a, o, n, e, ho, hc, hd⟩ t, h => by
    subst e
    rw [List.mapM_cons]
    refine wpAny_bind ?_
    rw [PySem.W.kas_first_eq]
    refine wpAny_bind (PySem.W.Looks.here (show PySem.W.Looks M s.heap (typeOf (.ref a)) o.cls from (PySem.W.Looks.ld ho).andThen .now) ?_)
    rw [hc, if_neg (by simp)]
    refine wpAny_bind (PyProof.Rows.listItems_at ho hd (wpAny_pure ?_))
    exact wpAny_bind (firsts_ok vs xss (Q := fun bs s' => wpAny M A (pure (xs[0]? :: bs)) Q E s') t (wpAny_pure h))
theorem kind_ok {M : Model} {vs : List Value} {xss : List (Array Value)} (h2 : 2 ≤ vs.length) (t : PySem.W.EachIs (TupAt s.heap) vs xss) {T : Value} (hT : ∀ xs ∈ xss, ∀ f, xs[0]? = some f → PySem.W.Looks M s.heap (typeOf f) T) (hT2 : (T == T) = true) :
    ∃ κ, (κ = PyProof.Rows.general' ∨ κ = PyProof.Rows.oneType' ∨ (κ = PyProof.Rows.tuples' (T != Value.type "tuple"))) ∧ ∀ (Q : PyProof.Rows.SortKind → Shared → Prop) (E : Value → Shared → Prop), Q κ s → wpAny M A (PyProof.Rows.keyKind' vs.toArray) Q E s := by
  by_cases hall : ∀ xs ∈ xss, (xs[0]?).isSome = true
  · refine ⟨_, .inr (.inr rfl), fun Q E hq => ?_⟩
    obtain ⟨fs, hfs⟩ : ∃ fs : List Value, (xss.map fun xs => xs[0]?) = fs.map some := by
      clear hT t
      induction xss with
      | nil => exact ⟨[], rfl⟩
      | cons x xss ih =>
        obtain ⟨fs, h⟩ := ih fun y hy => hall y (List.mem_cons_of_mem _ hy)
        obtain ⟨f, hf⟩ := Option.isSome_iff_exists.mp (hall x List.mem_cons_self)
        exact ⟨f :: fs, by rw [List.map_cons, List.map_cons, hf, h]⟩
    have lf : 0 < fs.length := by
      have := congrArg List.length hfs
      rw [List.length_map, List.length_map, ← t.length] at this
      omega
    have hTf : ∀ f ∈ fs, PySem.W.Looks M s.heap (typeOf f) T := fun f hf => by
      have : some f ∈ xss.map fun xs => xs[0]? := by rw [hfs]; exact List.mem_map.mpr ⟨f, hf, rfl⟩
      obtain ⟨xs, hx, e⟩ := List.mem_map.mp this
      exact hT xs hx f e
    rw [PyProof.Rows.kat_kind_eq, List.mapM_toArray, map_eq_pure_bind]
    refine wpAny_bind (wpAny_bind (firsts_ok vs xss t (wpAny_pure ?_)))
    rw [hfs]
    match fs, lf with
    | f₁ :: fr, _ =>
      have hsm : (((f₁ :: fr).map some).toArray.all fun x => x.isSome) = true := by simp
      rw [if_pos hsm]
      refine wpAny_bind <| wpAny_rule ?_
      have hfi : ((f₁ :: fr).map some).toArray.filterMap id = (f₁ :: fr).toArray := by simp
      rw [hfi, PyProof.Rows.oneTypeOnly'_eq, List.mapM_toArray, map_eq_pure_bind]
      refine wpAny_bind (wpAny_bind (wpAny_bind (PySem.W.kas_mapM (r := T) _ (fun v hv Q' hq => (hTf v hv).here hq) (wpAny_pure ?_))))
      have hall2 : ((List.map (fun _ => T) (f₁ :: fr)).toArray.all (· == T)) = true := by
        rw [List.all_toArray, List.all_map]
        exact List.all_eq_true.mpr fun _ _ => hT2
      have hd0 : (List.map (fun _ => T) (f₁ :: fr)).toArray[0]? = some T := by simp
      rw [hd0]
      simp only [hall2, if_true]
      exact wpAny_pure <| wpAny_pure hq
  · have hno : ((xss.map fun xs => xs[0]?).toArray.all fun x => x.isSome) = false := by
      cases h : ((xss.map fun xs => xs[0]?).toArray.all fun x => x.isSome) with
      | false => rfl
      | true =>
        simp only [List.all_toArray, List.all_map, List.all_eq_true] at h
        exact absurd h hall
    match xss, t with
    | x₁ :: xr, t =>
      cases hx : x₁[0]? with
      | some f =>
        refine ⟨_, .inl rfl, fun Q E hq => ?_⟩
        rw [PyProof.Rows.kat_kind_eq, List.mapM_toArray, map_eq_pure_bind]
        refine wpAny_bind (wpAny_bind (firsts_ok vs _ t (wpAny_pure ?_)))
        rw [if_neg (by rw [hno]; simp), if_pos (by simp [hx])]
        exact wpAny_pure hq
      | none =>
        refine ⟨_, .inr (.inl rfl), fun Q E hq => ?_⟩
        rw [PyProof.Rows.kat_kind_eq, List.mapM_toArray, map_eq_pure_bind]
        refine wpAny_bind (wpAny_bind (firsts_ok vs _ t (wpAny_pure ?_)))
        rw [if_neg (by rw [hno]; simp), if_neg (by simp [hx])]
        rw [PyProof.Rows.oneTypeOnly'_eq, List.mapM_toArray, map_eq_pure_bind]
        refine wpAny_bind (wpAny_bind (wpAny_bind (PySem.W.kas_mapM (r := Value.type "tuple") _ (fun v hv Q' hq' => ?_) (wpAny_pure ?_))))
        · obtain ⟨xs, _, a, o, n, e, ho, hc, hd⟩ := t.left v hv
          subst e
          refine PySem.W.Looks.here (show PySem.W.Looks M s.heap (typeOf (.ref a)) o.cls from (PySem.W.Looks.ld ho).andThen .now) ?_
          rw [hc]
          exact hq'
        · have h0 : (List.map (fun _ => Value.type "tuple") vs).toArray[0]? = some (Value.type "tuple") := by
            rw [List.getElem?_toArray, List.getElem?_map, List.getElem?_eq_getElem (by omega)]
            rfl
          have hall2 : ((List.map (fun _ => Value.type "tuple") vs).toArray.all fun x => x == Value.type "tuple") = true := by
            rw [List.all_toArray, List.all_map]
            exact List.all_eq_true.mpr (fun _ _ => rfl)
          rw [h0]
          simp only [hall2, if_true]
          exact wpAny_pure <| wpAny_pure hq
end
section
variable {X : Cx} {G : Gc} {n : Nat}
theorem tupB_iff {d : D} (h : tupB d = true) : ∃ ds, d = .tup ds := by
  cases d <;> first | exact ⟨_, rfl⟩ | cases h
theorem sortable_D {w : World} {prog : Program} {A : Around} {s : Shared} {hp : Heap} {a : Addr} {its : List Value} {f : Value → D} (h2 : 2 ≤ its.length) (hu : A.units + 200 < cLine) (fr : ∀ u ∈ its, tupB (f u) = true ∧ ck 8 (f u).py = true ∧ ∃ as, Reads s.heap u (f u).py as)
    (hal3 : ∀ u ∈ its, ∀ v ∈ its, PySem.W.alike (f u).py (f v).py = true) (kk : ∀ b o, s.heap.get? b = some o → b ≠ a ∧ hp.get? b = some o) : SrtO.SortableO prog w A.in1.in1 { s with heap := hp } a its (fun u v => ltD (f u) (f v)) := by
  intro h' keep
  have fr' : ∀ u ∈ its, ∃ as, Reads h' u (f u).py as := fun u hu' => by
    obtain ⟨_, _, as, r⟩ := fr u hu'
    exact ⟨as, PyProof.Rows.Reads.keeps (fun b o e => keep b o (kk b o e).1 (kk b o e).2) r⟩
  have tup : ∀ u ∈ its, ∃ ds, (f u).py = .tuple ds := fun u hu' => by
    obtain ⟨ds, e⟩ := tupB_iff (fr u hu').1
    rw [e]
    exact ⟨_, rfl⟩
  have hdep : ∀ u ∈ its, A.in1.in1.units + (f u).py.depth < cLine := fun u hu' => by
    have := (ck_plain _ _ (fr u hu').2.1).2
    show A.units + 1 + 1 + _ < _
    omega
  obtain ⟨T, hTT, hTl⟩ : ∃ T : Value, (T == T) = true ∧ ((∃ x, (T = PySem.W.dataType x) ∧ ∃ u ∈ its, ∃ r, (f u).py = .tuple (x :: r)) ∨ ∀ u ∈ its, (f u).py = .tuple []) := by
    by_cases hx : ∃ u ∈ its, ∃ x r, (f u).py = .tuple (x :: r)
    · obtain ⟨u, hu', x, r, e⟩ := hx
      exact ⟨PySem.W.dataType x, beq_self_eq_true _, .inl ⟨x, rfl, u, hu', r, e⟩⟩
    · refine ⟨.type "int", rfl, .inr fun u hu' => ?_⟩
      obtain ⟨ds, e⟩ := tup u hu'
      cases ds with
      | nil => exact e
      | cons x r => exact absurd ⟨u, hu', x, r, e⟩ hx
  have tat : ∀ u ∈ its, ∃ ys, TupAt h' u ys ∧ ∃ ds bs, (f u).py = .tuple ds ∧ ReadsAll h' ys.toList ds bs := fun u hu' => by
    obtain ⟨as, r⟩ := fr' u hu'
    obtain ⟨ds, e⟩ := tup u hu'
    rw [e] at r
    obtain ⟨ys, k1, bs, k2⟩ := TupAt.of r
    exact ⟨ys, k1, ds, bs, e, k2⟩
  obtain ⟨xss, tE, tM⟩ : ∃ xss : List (Array Value), PySem.W.EachIs (TupAt h') its xss ∧ ∀ ys ∈ xss, ∃ u ∈ its, ∃ ds bs, (f u).py = .tuple ds ∧ ReadsAll h' ys.toList ds bs := by
    have : ∀ l : List Value, (∀ u ∈ l, u ∈ its) → ∃ xss : List (Array Value), PySem.W.EachIs (TupAt h') l xss ∧ ∀ ys ∈ xss, ∃ u ∈ its, ∃ ds bs, (f u).py = .tuple ds ∧ ReadsAll h' ys.toList ds bs := fun l => by
      induction l with
      | nil => intro _; exact ⟨[], .nil, fun _ z => nomatch z⟩
      | cons u l ih =>
        intro hl
        obtain ⟨xss, k1, k2⟩ := ih fun v hv => hl v (List.mem_cons_of_mem _ hv)
        have hu' := hl u List.mem_cons_self
        obtain ⟨ys, k3, ds, bs, k4, k5⟩ := tat u hu'
        refine ⟨ys :: xss, .cons k3 k1, fun z hz => ?_⟩
        rcases List.mem_cons.mp hz with w | w
        · subst w; exact ⟨u, hu', ds, bs, k4, k5⟩
        · exact k2 z w
    exact this its fun _ z => z
  have hLk : ∀ ys ∈ xss, ∀ g0, ys[0]? = some g0 → PySem.W.Looks (model prog w) h' (typeOf g0) T := fun ys hy g0 e0 => by
    obtain ⟨u, hu', ds, bs, k1, k2⟩ := tM ys hy
    have el : ys.toList[0]? = some g0 := by rw [Array.getElem?_toList]; exact e0
    generalize ys.toList = yl at el k2
    cases k2 with
    | nil => simp at el
    | @cons v d vs' ds' as' bs' kr kt =>
      have : v = g0 := by simpa using el
      subst this
      rcases hTl with ⟨x, rfl, u2, hu2, r2, k4⟩ | hno
      · have al := hal3 u hu' u2 hu2
        rw [k1, k4] at al
        have := (PySem.W.alike_all_cons (by simpa [PySem.W.alike] using al)).1
        rw [← PySem.W.dataType_alike this]
        exact PySem.W.looks_reads kr
      · rw [hno u hu'] at k1
        cases k1
  obtain ⟨κ, hκ, hkind⟩ := kind_ok (A := A.in1.in1) (s := { s with heap := h' }) (M := model prog w) (by exact h2) tE hLk hTT
  refine ⟨κ, hkind, fun p p' hp hp' => ?_⟩
  obtain ⟨as1, q1⟩ := fr' _ hp
  obtain ⟨as2, q2⟩ := fr' _ hp'
  obtain ⟨d1, t1⟩ := tup _ hp
  obtain ⟨d2, t2⟩ := tup _ hp'
  have al := hal3 _ hp _ hp'
  have dp : A.in1.in1.units + min (f p.1).py.depth (f p'.1).py.depth < cLine := Nat.lt_of_le_of_lt (Nat.add_le_add_left (Nat.min_le_left _ _) _) (hdep _ hp)
  have fin : ∀ b : Bool, b = PySem.W.dataLt (f p.1).py (f p'.1).py → ({ s with heap := h' } : Shared) = { s with heap := h' } ∧ b = SrtO.lt2 (fun u v => ltD (f u) (f v)) p p' := fun b hb => ⟨rfl, hb⟩
  rcases hκ with rfl | rfl | rfl
  · exact PySem.W.oneLt_alike (f := false) (fun z => nomatch z) q1 q2 al (by rw [t1]; exact fun z => nomatch z) dp (fin _ rfl)
  · rw [PyProof.Rows.keyLt'_oneType]
    have fin' := fin _ rfl
    rw [t1, t2] at al fin'
    rw [t1] at q1 dp
    rw [t2] at q2 dp
    exact one_tup q1 q2 (by simpa [PySem.W.alike] using al) dp fin'
  · have fin' := fin _ rfl
    rw [t1, t2] at al fin'
    rw [PySem.W.dataLt_tuple] at fin'
    rw [t1] at q1 dp
    rw [t2] at q2 dp
    have al' : PySem.W.alikeAll d1 d2 = true := by simpa [PySem.W.alike] using al
    refine kat_tup q1 q2 al' dp (fun hb x r t ex => ?_) fin'
    subst ex
    rcases hTl with ⟨x0, rfl, u2, hu2, r2, k4⟩ | hno
    · have al2 := hal3 _ hp u2 hu2
      rw [t1, k4] at al2
      have := (PySem.W.alike_all_cons (by simpa [PySem.W.alike] using al2)).1
      rw [← PySem.W.dataType_alike this] at hb
      exact PySem.W.dataType_tuple hb t
    · rw [hno _ hp] at t1
      cases t1
open Classical in
theorem b1_sorted (hr : Room n X.A) : CallR X (.builtin "sorted") (rF G X.K false (b1D .sorted)) := by
  intro pins s σ H as us Q I r h
  obtain ⟨S, x, a, d, rfl, hS, ra, e, q⟩ := h
  have hu : X.A.units + 200 < cLine := by have := hr.un; omega
  cases a with
  | lst xs =>
    simp only [b1D] at e
    cases hs : sortD xs with
    | exc c p => rw [hs] at e; cases e
    | bad => rw [hs] at e; cases e
    | ok ys =>
      rw [hs, R.bind_ok] at e
      cases e
      unfold sortD at hs
      split at hs
      · rename_i hc
        cases hs
        unfold tupsOk at hc
        rw [Bool.and_eq_true, List.all_eq_true] at hc
        obtain ⟨hal, hck⟩ := hc
        have hT : ∀ d ∈ xs, tupB d = true ∧ d.imm = true ∧ ck 8 d.py = true := fun d hd => by
          have := hck d hd
          simp only [Bool.and_eq_true] at this
          exact ⟨this.1.1, this.1.2, this.2⟩
        have hal2 : ∀ a ∈ xs, ∀ b ∈ xs, PySem.W.alike a.py b.py = true := fun a ha b hb => List.all_eq_true.mp (List.all_eq_true.mp hal a ha) b hb
        cases ra with | @lst l vs _ h1 n1 r1 => ?_
        obtain ⟨its, rv, hl, hz⟩ := I.list (SqL.of (hid_same _ _ h1))
        obtain ⟨u, eu, ru⟩ := vals1 r
        subst eu
        obtain rfl : u = Value.ref l := ru
        have zd : ∀ v ∈ vs, ∃ d ∈ xs, Rep G.fa X.K (hid S H) v d := fun v hv => by
          obtain ⟨i, hi⟩ := List.getElem?_of_mem hv
          obtain ⟨d, e1, e2⟩ := r1.get' hi
          exact ⟨d, List.mem_of_getElem? e1, e2⟩
        have hrefs : ∀ x ∈ vs, ∃ a, x = V.ref a := fun v hv => by
          obtain ⟨d, hd, rd⟩ := zd v hv
          obtain ⟨ds, rfl⟩ := tupB_iff (hT d hd).1
          cases rd with
          | tup => exact ⟨_, rfl⟩
        obtain ⟨e1, e2⟩ := refs_back rv hrefs
        let g : V → D := fun v => if h : ∃ d, d ∈ xs ∧ Rep G.fa X.K (hid S H) v d then h.choose else .non
        have hg : ∀ v ∈ vs, g v ∈ xs ∧ Rep G.fa X.K (hid S H) v (g v) := fun v hv => by
          obtain ⟨d, hd, rd⟩ := zd v hv
          have hx : ∃ d, d ∈ xs ∧ Rep G.fa X.K (hid S H) v d := ⟨d, hd, rd⟩
          have : g v = hx.choose := dif_pos hx
          rw [this]
          exact hx.choose_spec
        have gx : vs.map g = xs := by
          apply List.ext_getElem?
          intro i
          rw [List.getElem?_map]
          cases hv : vs[i]? with
          | none =>
            have : xs.length ≤ i := by rw [← r1.length]; exact List.getElem?_eq_none_iff.mp hv
            rw [List.getElem?_eq_none_iff.mpr this]
            rfl
          | some v =>
            obtain ⟨d, k1, k2⟩ := r1.get' hv
            have md := List.mem_of_getElem? k1
            obtain ⟨m1, m2⟩ := hg v (List.mem_of_getElem? hv)
            rw [k1]
            show some (g v) = some d
            rw [rep_uniq m2 k2 (hT _ m1).2.1 (hT _ md).2.1 (hT _ m1).2.2 (hT _ md).2.2]
        let f : Value → D := fun u => g (backV u)
        have fx : its.map f = xs := by
          rw [← gx, e1, List.map_map]
          rfl
        have fr : ∀ u ∈ its, f u ∈ xs ∧ ∃ as, Reads s.heap u (f u).py as := fun u hu' => by
          obtain ⟨t, rfl⟩ := e2 u hu'
          have hm : V.ref t ∈ vs := by rw [e1]; exact List.mem_map.mpr ⟨_, hu', rfl⟩
          obtain ⟨m1, m2⟩ := hg _ hm
          exact ⟨m1, dp_reads (x := V.ref t) I (un_hid m2) rfl (ck_plain _ _ (hT _ m1).2.2).1⟩
        refine SrtO.sorted_ord (ltv := fun u v => ltD (f u) (f v)) ⟨fun x y => swo_D.asym _ _, fun x y z => swo_D.tr _ _ _⟩ hl.isList (by rw [← rv.length]; exact hz) (fun h2 hp a ha kk => ?_) fun out k1 k2 => ?_
        · exact sortable_D h2 hu (fun u hu' => ⟨(hT _ (fr u hu').1).1, (hT _ (fr u hu').1).2.2, (fr u hu').2⟩) (fun u hu' v hv => hal2 _ (fr u hu').1 _ (fr v hv).1) kk
        · have h3 : ∀ u ∈ out, ∃ a, u = Value.ref a := fun u hu' => e2 u (k2.perm.mem_iff.mp hu')
          have so : out.map f = xs.mergeSort dLe := by
            have s1 : SrtO.Stb ltD (out.map f) (its.map f) := SrtO.Stb.map swo_D f k2
            rw [fx] at s1
            exact sort_out (SrtO.srtd_map k1) s1
          have hlen : (out.map backV).length ≤ sizeLine := by rw [List.length_map, k2.perm.length_eq]; rw [← rv.length]; exact hz
          have rp : RepL G.fa X.K (hid S H) (out.map backV) (xs.mergeSort dLe) := by
            rw [← so]
            have : ∀ l : List Value, (∀ u ∈ l, u ∈ its) → RepL G.fa X.K (hid S H) (l.map backV) (l.map f) := fun l => by
              induction l with
              | nil => intro _; exact .nil
              | cons u l ih =>
                intro hl
                refine .cons ?_ (ih fun v hv => hl v (List.mem_cons_of_mem _ hv))
                exact (hg (backV u) (by rw [e1]; exact List.mem_map.mpr ⟨u, hl u List.mem_cons_self, rfl⟩)).2
            exact this out fun u hu' => k2.perm.mem_iff.mp hu'
          obtain ⟨m, hm⟩ := PyProof.Rows.sortedAll_at s.heap its out.toArray
          have hd : s.heap.objs.size ≤ s.heap.objs.size + 1 := Nat.le_succ _
          refine ⟨.ref (s.heap.objs.size + 1), upd H (s.heap.objs.size + 1) (.lst (out.map backV)), I.laid (t' := s.toks) (fun b o e => PyProof.Rows.sortedAll_old e) hd ⟨hlen, out, m, vals_back h3, hm⟩, rfl, ?_⟩
          have hn : H (s.heap.objs.size + 1) = none := I.hok.fresh hd
          exact q _ _ (Same.upd hn) (new_lst hS hn rp hlen)
      · cases hs
  | _ => cases e
end
end Pu
end
section
set_option maxRecDepth 100000
set_option maxHeartbeats 1000000
namespace Pu
open PySem PySem.Spec L2
mutual
theorem py_inj : ∀ {a b : D} {n : Nat}, a.imm = true → b.imm = true → ck n a.py = true → ck n b.py = true → a.py = b.py → a = b
  | .non, b, n, _, ib, _, cb, e => by cases b <;> first | rfl | cases e | cases ib
  | .bl x, b, n, _, ib, _, cb, e => by cases b <;> first | (cases e; rfl) | cases e | cases ib
  | .int x, b, n, _, ib, _, cb, e => by cases b <;> first | (cases e; rfl) | cases e | cases ib
  | .str x, b, n, _, ib, _, cb, e => by cases b <;> first | (cases e; rfl) | cases e | cases ib
  | .fn i, b, n, _, _, ca, _, _ => by cases n <;> cases ca
  | .scr _, b, n, ia, _, _, _, _ => by cases ia
  | .lst _, b, n, ia, _, _, _, _ => by cases ia
  | .dct _ _, b, n, ia, _, _, _, _ => by cases ia
  | .tup xs, b, n, ia, ib, ca, cb, e => by
    cases b with
    | tup ys =>
      cases n with
      | zero => cases ca
      | succ n =>
        have e : PyData.tuple (D.pys xs) = .tuple (D.pys ys) := e
        rw [py_injL (n := n) ia ib (by simpa [D.py, ck] using ca) (by simpa [D.py, ck] using cb) (PyData.tuple.inj e)]
    | _ => first | cases e | cases ib
theorem py_injL : ∀ {a b : List D} {n : Nat}, D.imms a = true → D.imms b = true → (∀ x ∈ a, ck n x.py = true) → (∀ x ∈ b, ck n x.py = true) → D.pys a = D.pys b → a = b
  | [], b, n, _, _, _, _, e => by cases b <;> first | rfl | cases e
  | x :: a, [], n, _, _, _, _, e => by cases e
  | x :: a, y :: b, n, ia, ib, ca, cb, e => by
    simp only [D.imms, Bool.and_eq_true] at ia ib
    have e : x.py :: D.pys a = y.py :: D.pys b := e
    obtain ⟨e1, e2⟩ := List.cons.inj e
    rw [py_inj ia.1 ib.1 (ca _ List.mem_cons_self) (cb _ List.mem_cons_self) e1, py_injL ia.2 ib.2 (fun z hz => ca z (List.mem_cons_of_mem _ hz)) (fun z hz => cb z (List.mem_cons_of_mem _ hz)) e2]
end
theorem minBy_mem (lt : D → D → Bool) : ∀ (r : List D) (x : D), r.foldl (fun m y => if lt y m then y else m) x ∈ x :: r
  | [], x => List.mem_cons_self
  | y :: r, x => by
    rw [List.foldl_cons]
    have ih := minBy_mem lt r (if lt y x then y else x)
    rcases List.mem_cons.mp ih with e | h
    · rw [e]; split <;> simp
    · exact List.mem_cons_of_mem _ (List.mem_cons_of_mem _ h)
theorem minBy_py : ∀ (r : List D) (x : D), (r.foldl (fun m y => if PySem.W.dataLt y.py m.py then y else m) x).py = PySem.W.minD x.py (r.map D.py)
  | [], x => rfl
  | y :: r, x => by
    rw [List.foldl_cons, minBy_py r, List.map_cons]
    unfold PySem.W.minD
    rw [List.foldl_cons]
    congr 1
    split <;> rfl
section
variable {X : Cx} {G : Gc} {n : Nat}
theorem b1_mint (hc : X.calm = true) (hr : Room n X.A) : CallR X (.builtin "min") (rF G X.K false (b1D .mint)) := by
  intro pins s σ H as us Q I r h
  obtain ⟨S, x, a, d, rfl, hS, ra, e, q⟩ := h
  have hu : X.A.units + 200 < cLine := by have := hr.un; omega
  cases a with
  | lst xs =>
    simp only [b1D] at e
    split at e
    · rename_i hk
      unfold tupsOk at hk
      rw [Bool.and_eq_true, List.all_eq_true] at hk
      obtain ⟨hal, hck⟩ := hk
      have hT : ∀ d ∈ xs, d.imm = true ∧ ck 8 d.py = true := fun d hd => by
        have := hck d hd
        simp only [Bool.and_eq_true] at this
        exact ⟨this.1.2, this.2⟩
      cases xs with
      | nil => cases e
      | cons y ys =>
        cases e
        cases ra with | @lst l vs _ h1 n1 r1 => ?_
        obtain ⟨its, rv, hl, hz⟩ := I.list (SqL.of (hid_same _ _ h1))
        obtain ⟨u, eu, ru⟩ := vals1 r
        subst eu
        obtain rfl : u = Value.ref l := ru
        have pa : PyData.plainAll (D.pys (y :: ys)) = true := by
          rw [D.pys_eq, plainAll_all, List.all_map, List.all_eq_true]
          exact fun z hz => (ck_plain _ _ (hT z hz).2).1
        obtain ⟨as, rd⟩ := Dp.readsAll I _ _ _ ((un_hidL r1).dp pa) rv
        have dep : PyData.depthAll (D.pys (y :: ys)) ≤ 8 := by
          rw [D.pys_eq]
          refine depthAll_le _ _ fun z hz => ?_
          obtain ⟨w, hw, rfl⟩ := List.mem_map.mp hz
          exact (ck_plain _ _ (hT w hw).2).2
        have alk : ∀ d ∈ y :: ys, ∀ d' ∈ y :: ys, PySem.W.alike d.py d'.py = true := fun a ha b hb => List.all_eq_true.mp (List.all_eq_true.mp hal a ha) b hb
        refine PySem.W.min_list_data (vs := its.toArray) (x := y.py) (xs := ys.map D.py) (I.ok.hd hc) hl.isList (by simpa [D.pys] using rd) ?_ (by rw [D.pys_eq] at dep; exact Nat.lt_of_le_of_lt (Nat.add_le_add_left dep _) (by omega)) fun i v h' tk bs hv rv' kp => ?_
        · rw [← List.map_cons (f := D.py)]
          refine ⟨fun p hp p' hp' => ?_, fun p hp => ?_⟩
          · obtain ⟨a, ha, rfl⟩ := List.mem_map.mp hp
            obtain ⟨b, hb, rfl⟩ := List.mem_map.mp hp'
            exact alk a ha b hb
          · obtain ⟨a, ha, rfl⟩ := List.mem_map.mp hp
            have := hck a ha
            simp only [Bool.and_eq_true] at this
            obtain ⟨ds, rfl⟩ := tupB_iff this.1.1
            exact fun z => nomatch z
        · have hv' : its[i]? = some v := by simpa using hv
          obtain ⟨w, hw, rw'⟩ : ∃ w, vs[i]? = some w ∧ RelV w v := by
            have hlen := rv.length
            have il := (List.getElem?_eq_some_iff.mp hv').1
            have hw : vs[i]? = some vs[i] := List.getElem?_eq_getElem (by omega)
            obtain ⟨u, h3, h4⟩ := rv.get hw
            rw [hv'] at h3
            cases h3
            exact ⟨_, hw, h4⟩
          obtain ⟨d, hd, rd'⟩ := r1.get' hw
          have md := List.mem_of_getElem? hd
          obtain ⟨bs', rr⟩ := dp_reads I (un_hid rd') rw' (ck_plain _ _ (hT d md).2).1
          have mm := minBy_mem (fun a b => PySem.W.dataLt a.py b.py) ys y
          have ep := minBy_py ys y
          have e1 := PySem.W.alike_unique _ _ _ _ _ (alk _ mm _ md) (by rw [ep]; exact rv') (PyProof.Rows.Reads.keeps kp rr)
          have e2 : ys.foldl (fun m y => if PySem.W.dataLt y.py m.py then y else m) y = d := py_inj (hT _ mm).1 (hT _ md).1 (hT _ mm).2 (hT _ md).2 e1
          refine ⟨w, H, I.kept (t' := tk) kp, rw', q w H (Same.refl H) ?_⟩
          rw [e2]
          exact rd'
    · cases e
  | _ => cases e
end
end Pu
end
section
set_option maxRecDepth 100000
set_option maxHeartbeats 1000000
namespace Pu
open PySem PySem.Spec L2
open PyProof.Rows hiding St
section
variable {c : Cfg} {G : Gc} {P : Pr} {X : Cx} {n : Nat} {W : WX}
theorem ER.aside {K : PySem.W.Frag} {S0 : Addr → Prop} {HF : Hp} {own : Nat → List Addr} {σ : St} {H : Hp} {env : Env} (er : ER G K S0 HF own σ H env) {p : Addr} {o : HO} (hp : H p = none) (nt : ∀ xs, o ≠ .tup xs) :
    ER G K (fun a => S0 a ∨ a = p) (upd HF p o) own σ (upd H p o) env ∧ (∀ a u, hid (SS S0 own) H a = some u → hid (SS (fun a => S0 a ∨ a = p) own) (upd H p o) a = some u) := by
  have np : ∀ a u, H a = some u → a ≠ p := fun a u e => ne_of_none e hp
  have nown : ∀ i a, a ∈ own i → a ≠ p := fun i a z => by
    obtain ⟨u, e, _⟩ := er.tr i a z
    exact np a u e
  have hs : Same (hid (SS S0 own) H) (hid (SS (fun a => S0 a ∨ a = p) own) (upd H p o)) := hid_mono (Same.upd hp) fun a u e z => by
    rcases z with (z | z) | z
    · exact .inl z
    · exact (np a u e z).elim
    · exact .inr z
  have sm : Same H (upd H p o) := Same.upd hp
  have e1 := er.same sm
  have hs' : Same (hid (SS S0 own) (upd H p o)) (hid (SS (fun a => S0 a ∨ a = p) own) (upd H p o)) ∨ True := .inr trivial
  refine ⟨⟨er.len, fun i d e => ?_, fun i d e => ?_, fun i xs e => ?_, er.no, er.nd, er.inj, fun a u e => ?_, fun i a z => ?_, e1.tr, fun a z => ?_⟩, hs⟩
  · obtain ⟨v, h1, h2⟩ := er.sh i d e
    exact ⟨v, h1, h2.mono (Le.of hs)⟩
  · obtain ⟨a, h1, h2, h3⟩ := er.ow i d e
    exact ⟨a, h1, h2, h3.mono (sm a) (Le.of hs)⟩
  · obtain ⟨a, as, h1, h2, h3, h4, h5, h6⟩ := er.o2 i xs e
    refine ⟨a, as, h1, h2, sm _ _ h3, h4, h5, fun j b ds f1 f2 => ?_⟩
    obtain ⟨vs, g1, g2, g3⟩ := h6 j b ds f1 f2
    exact ⟨vs, sm _ _ g1, g2, g3.mono (Le.of hs)⟩
  · by_cases q : a = p
    · subst q; rw [upd_same] at e ⊢; exact e
    · rw [upd_ne q] at e ⊢; exact er.hf a u e
  · rw [upd_ne (nown i a z)]; exact er.fr i a z
  · rcases z with z | z
    · obtain ⟨u, e, q⟩ := er.s0 a z
      exact ⟨u, by rw [upd_ne (np a u (er.hf a u e))]; exact e, q⟩
    · subst z; exact ⟨o, upd_same, nt⟩
theorem L_dct1 (ok : Cok c G P X n) {k v : E} {xk xv : Expr} {pos : Pos} {env : Env} {fk fv : Bool} (hk : PE X xk (tE G X.K W env (evE P env k) fk)) (hv : PE X xv (tE G X.K W env (evE P env v) fv)) :
    PE X (.Dict [some xk] [xv] pos) (tE G X.K W env (evE P env (.dct1 true k v)) true) := by
  refine ⟨fun pins s σ H Q I ⟨S0, HF, own, er, q⟩ => ?_⟩
  rw [evE] at q
  have hn : H s.heap.objs.size = none := I.hok.fresh Nat.le.refl
  have I1 : Inv X pins σ (upd H s.heap.objs.size (.dT [])) { s with heap := s.heap.push { cls := .type "dict", data := .dict #[] } } := I.laid (t' := s.toks) (fun _ _ z => Heap.get?_push_of_some _ z) (Nat.le_refl _) (dt_empty s.heap I.big)
  obtain ⟨er1, _⟩ := er.aside (o := .dT []) hn (fun _ z => nomatch z)
  generalize hp : s.heap.objs.size = p at hn I1 er1
  have sm : Same H (upd H p (.dT [])) := Same.upd hn
  have stay : ∀ H1, Same (upd H p (.dT [])) H1 → H1 p = some (.dT []) := fun H1 s => s _ _ upd_same
  let Fin : V → V → Hp → Prop := fun x y H2 => H2 p = some (.dT []) ∧ ∃ b kk, x = .ref b ∧ H2 b = some (.tup (kk.map kV)) ∧ Q (.ref p) (upd H2 p (.dT [(kk, y)]))
  have want : tE G X.K W env (evE P env k) fk σ (upd H p (.dT [])) fun x H1 => tE G X.K W env (evE P env v) fv σ H1 fun y H2 => Fin x y H2 := by
    refine ⟨_, _, own, er1, ?_⟩
    cases e1 : evE P env k with
    | exc c pl => rw [e1] at q; exact fun dd H' s1 ex => q dd H' (sm.trans s1) ex
    | bad => rw [e1] at q; exact q.elim
    | ok dk =>
      rw [e1, R.bind_ok] at q
      intro x H1 s1 p1
      have r1 := p1.rep er1.nt
      have er2 := er1.same s1
      refine ⟨_, _, own, er2, ?_⟩
      cases e2 : evE P env v with
      | exc c pl => rw [e2] at q; exact fun dd H' s2 ex => q dd H' (sm.trans (s1.trans s2)) ex
      | bad => rw [e2] at q; exact q.elim
      | ok dv =>
        rw [e2, R.bind_ok] at q
        intro y H2 s2 p2
        have r2 := p2.rep er2.nt
        have er3 := er2.same s2
        obtain ⟨kk, e3, q3⟩ := RT.ofO q
        cases dk with
        | tup xs =>
          simp only [keyOf] at e3
          cases r1 with | @tup b vs _ b1 b2 b3 => ?_
          have ev := keys_of e3 b3
          subst ev
          refine ⟨stay H2 (s1.trans s2), b, kk, rfl, s2 _ _ (hid_same _ _ b1), ?_⟩
          have back : Le (hid (SS (fun a => S0 a ∨ a = p) own) H2) (hid (fun a => SS S0 own a ∨ a = p) (upd H2 p (.dT [(kk, y)]))) := Le.of fun a u e => by
            obtain ⟨n1, e⟩ := hid_iff.mp e
            have ne : a ≠ p := fun z => n1 (.inl (.inr z))
            exact hid_iff.mpr ⟨fun z => z.elim (fun z => n1 (z.imp .inl id)) ne, by rw [upd_ne ne]; exact e⟩
          refine q3 (.ref p) _ (fun a u e => ?_) ⟨p, rfl, hn, .inr (.inr ⟨[(kk, y)], [(kk, dv)], rfl, upd_same, sz_words (by simp), .cons (r2.mono back) .nil, fun z hz => ?_⟩)⟩
          · rw [upd_ne (ne_of_none e hn)]; exact (sm.trans (s1.trans s2)) a u e
          · have : z = (kk, y) := by simpa using hz
            subst this
            rw [List.length_map] at b2; exact b2
        | _ => cases e3
  rw [arm_eval_Dict]
  refine wpAny_bind ?_
  refine wpAny_standAt ?_
  rw [zip_pairTrees [some xk] [xv] X.env pos rfl rfl, dictDisplay_pairs (pairTrees [some xk] [xv] X.env pos) (by simp [pairTrees]) (by simp [pairTrees])]
  refine wpAny_bind (wpAny_subDictH (knd := tupleKind (mixKind X.prog X.w)) (Q := fun d s' => wpAny (model X.prog X.w) X.A (pure (Value.ref d)) (EP X pins σ Q) X.xe s') (Nat.lt_of_succ_lt ok.hu) (by simp [pairTrees]) ?_)
  refine pairTrees_cons_walk (thn (hk.run pins _ σ _ _ I1 want) fun u s1 ⟨x, H1, I2, rx, q1⟩ => thn (hv.run pins s1 σ H1 _ I2 q1) fun w s2 ⟨y, H2, I3, ry, hH, b, kk, ex, hb, q2⟩ => pairTrees_nil_walk ?_)
  subst ex
  cases rx
  rw [hp]
  obtain ⟨z, hd, xs, rel, dd⟩ := dt_of I3.hok hH
  cases rel
  refine ⟨[(kk, b, w)], ⟨rfl, rfl, key_of I3.hok hb, trivial⟩, dd, fun h' tk dd' hs => wpAny_pure ⟨.ref p, _, ?_, rfl, q2⟩⟩
  obtain ⟨o, es, ep, ho, h2, h3, h4, _, h5⟩ := dd'
  refine d_write I3 (by rw [hH]; exact True.intro) hs ⟨o, ho⟩ ⟨sz_words (by simp), hd, _, .cons ⟨rfl, ?_, ry⟩ .nil, o, es, ep, ho, h2, h3, h4, h5⟩
  have nb : b ≠ p := fun e => by rw [e, hH] at hb; cases hb
  rw [upd_ne nb]
  exact hb
end
section
variable {prog : Program} {w : World} {A : Around} {Er : Value → Shared → Prop} {s : Shared}
theorem filterMap_some {α β : Type} {f : α → Option β} {g : α → β} : ∀ {l : List α}, (∀ k ∈ l, f k = some (g k)) → l.filterMap f = l.map g
  | [], _ => rfl
  | k :: l, h => by rw [List.filterMap_cons, h k List.mem_cons_self, List.map_cons, filterMap_some fun x hx => h x (List.mem_cons_of_mem _ hx)]
theorem pick_back (xs : Array Value) : ((List.range xs.size).filterMap fun (k : Nat) => xs[((xs.size : Int) - 1 + (k : Int) * -1).toNat]?) = xs.toList.reverse := by
  have h : ∀ k ∈ List.range xs.size, xs[((xs.size : Int) - 1 + (k : Int) * -1).toNat]? = some (xs.toList.reverse.getD k .none) := fun k hk => by
    have hk : k < xs.size := List.mem_range.mp hk
    have e : ((xs.size : Int) - 1 + (k : Int) * -1).toNat = xs.size - 1 - k := by omega
    have l : xs.size - 1 - k < xs.size := by omega
    rw [e, Array.getElem?_eq_getElem l, List.getD_eq_getElem?_getD, List.getElem?_reverse (by simpa using hk)]
    simp [l]
  have e2 : (List.range xs.size).filterMap (fun (k : Nat) => xs[((xs.size : Int) - 1 + (k : Int) * -1).toNat]?) = (List.range xs.size).map fun k => xs.toList.reverse.getD k .none := filterMap_some h
  rw [e2]
  apply List.ext_getElem
  · simp
  · intro i h1 h2
    rw [List.getElem_map, List.getElem_range]
    rw [List.getD_eq_getElem?_getD, List.getElem?_eq_getElem h2, Option.getD_some]
theorem tup_back {t sl : Addr} {items : Array Value} {u : Tok} {Q : Value → Shared → Prop} (ht : PyProof.Rows.IsTup s.heap t items) (hs : s.heap.IsSliceOf sl .none .none (.int (-1) u)) (hz : items.size ≤ sizeLine)
    (h : Q (.ref s.heap.objs.size) { s with heap := s.heap.push { cls := .type "tuple", data := .seq items.toList.reverse.toArray } }) : wpAny (model prog w) A (getItem (.ref t) (.ref sl)) Q Er s := by
  obtain ⟨os, h1, h2, h3⟩ := id hs
  have ty : s.TypeIs (.ref sl) "slice" := ⟨os, h1, h2⟩
  have applied : ∀ A : Around, wpAny (model prog w) A (Builtin.Slice.sliceApplied (.ref sl) (pure (items.size : Int))) (fun r s' => r = ((items.size : Int) - 1, (-1 : Int), items.size) ∧ s' = s) Er s := by
    intro A
    unfold Builtin.Slice.sliceApplied
    unfold Builtin.Slice.sliceFields
    refine wpAny_bind (wpAny_bind (wpAny_field h1 h3 (x := .none) rfl (wpAny_bind (wpAny_field h1 h3 (x := .none) rfl (wpAny_bind (wpAny_field h1 h3 (x := .int (-1) u) rfl (wpAny_pure ?_)))))))
    refine wpAny_bind (PyProof.Rows.slicePart_int ?_)
    show wpAny _ _ (if ((-1 : Int) == 0) = true then _ else _) _ _ s
    rw [if_neg (by decide)]
    refine wpAny_bind (wpAny_pure (wpAny_bind (wpAny_pure (wpAny_bind (wpAny_pure (wpAny_pure ⟨?_, rfl⟩))))))
    have e1 : Builtin.Slice.sliceAdjust none none (-1) (items.size : Int) = ((items.size : Int) - 1, -1) := by simp [Builtin.Slice.sliceAdjust]
    have e2 : Builtin.Slice.slicePlaces ((items.size : Int) - 1) (-1) (-1) = items.size := by
      rw [Builtin.Slice.slicePlaces, if_neg (by decide)]
      split <;> simp <;> omega
    show ((Builtin.Slice.sliceAdjust none none (-1) (items.size : Int)).1, (-1 : Int), Builtin.Slice.slicePlaces (Builtin.Slice.sliceAdjust none none (-1) (items.size : Int)).1 (Builtin.Slice.sliceAdjust none none (-1) (items.size : Int)).2 (-1)) = _
    rw [e1, e2]
  have sz : sizeOk (.seq items.toList.reverse.toArray) := by
    show items.toList.reverse.toArray.size ≤ sizeLine
    simpa using hz
  unfold getItem
  with_reducible refine wpAny_holding ?_
  refine wpAny_bind (wpAny_sequenceKey ht.typeIs (by decide) (wpAny_bind (wpAny_callSpecial?_slot (name := Str.ofString "__getitem__") ht.typeIs PyProof.Rows.slot_tuple_getitem
    (wpAny_call_entry PyProof.Rows.slot_tuple_getitem ht.typeIs PyProof.Rows.entry_tuple_getitem ?_ (PyProof.Rows.args_tuple_getitem _ _)))))
  refine wpAny_bind (m := Builtin.Tuple.tupleItemsOf (.ref t)) (PyProof.Rows.tupleItemsOf_ ht (wpAny_bind (wpAny_typeOf ty ?_)))
  rw [if_pos (by decide)]
  refine wpAny_bind (wpAny_mono (applied _) (fun r s' ⟨e1, e2⟩ => ?_) fun _ _ z => z)
  subst e1 e2
  show wpAny _ _ (if (((items.size : Int) - 1 == 0) && ((-1 : Int) == 1) && items.size == items.size) = true then _ else _) _ _ _
  rw [if_neg (by simp), pick_back]
  first
    | exact wpAny_bind (m := Builtin.Tuple.tupleExact _) (wpAny_newObj_type (wpAny_pure ⟨_, rfl, wpAny_pure h⟩) sz)
    | exact wpAny_bind (m := Builtin.Tuple.tupleExact _) (wpAny_newObj_type (wpAny_bind (wpAny_pure (wpAny_pure ⟨_, rfl, wpAny_pure h⟩))) sz)
    | exact wpAny_bind (wpAny_bind (m := Builtin.Tuple.tupleExact _) (wpAny_newObj_type (wpAny_pure (wpAny_pure ⟨_, rfl, wpAny_pure h⟩)) sz))
    | exact wpAny_bind (wpAny_bind (m := Builtin.Tuple.tupleExact _) (wpAny_newObj_type (wpAny_pure ⟨_, rfl, wpAny_pure h⟩) sz))
end
section
variable {c : Cfg} {G : Gc} {P : Pr} {X : Cx} {n : Nat} {W : WX}
theorem seen_new {S0 : Addr → Prop} {HF : Hp} {own : Nat → List Addr} {σ : L2.St} {H : Hp} {env : Env} (er : ER G X.K S0 HF own σ H env) {p : Addr} (o : HO) (hp : H p = none) : hid (SS S0 own) (upd H p o) p = some o :=
  hid_iff.mpr ⟨fun z => (by
    obtain ⟨_, e, _⟩ := er.nt p z
    rw [hp] at e
    cases e), upd_same⟩
theorem L_rev {a : E} {xa : Expr} {k : Nat} {p1 p2 p3 pos : Pos} {env : Env} {fa : Bool} (ha : PE X xa (tE G X.K W env (evE P env a) fa)) :
    PE X (.Subscript xa (.Slice none none (some (.UnaryOp .USub (.Constant (.int 1) k p1) p2)) p3) pos) (tE G X.K W env (evE P env (.rev a)) false) := by
  have lists : PE X (.Subscript xa (.Slice none none (some (.UnaryOp .USub (.Constant (.int 1) k p1) p2)) p3) pos) (fun σ H Q => (∀ ds, evE P env a ≠ .ok (.tup ds)) ∧ tE G X.K W env (evE P env (.rev a)) false σ H Q) :=
    PE.imp (pe_revL ha) fun σ H Q ⟨nt, S0, HF, own, er, q⟩ => by
      rw [evE] at q
      refine ⟨S0, HF, own, er, RT.step er q fun x d H1 e1 s1 r1 _ er1 q1 => ?_⟩
      obtain ⟨dd, e6, q6⟩ := q1.fin (revD_ne d)
      cases d with
      | lst ds =>
        cases e6
        cases r1 with | @lst b ws _ b1 b2 b3 => ?_
        refine ⟨b, ws, rfl, SqL.of (hid_same _ _ b1), fun p hp => q6 _ _ (Same.upd hp) (Rep.lst (seen_new er1 _ hp) (by rw [List.length_reverse]; exact b2) (b3.reverse.mono (Le.of (hid_mono (Same.upd hp) fun _ _ _ z => z))))⟩
      | tup ds => exact (nt ds e1).elim
      | _ => cases e6
  refine ⟨fun pins s σ H Q J0 hq => ?_⟩
  by_cases ht : ∃ ds, evE P env a = .ok (.tup ds)
  case neg => exact lists.run pins s σ H Q J0 ⟨fun ds e => ht ⟨ds, e⟩, hq⟩
  obtain ⟨ds, et⟩ := ht
  obtain ⟨S0, HF, own, er, q⟩ := hq
  rw [evE, et, R.bind_ok] at q
  rw [et] at ha
  have minus : PO X (some (.UnaryOp .USub (.Constant (.int 1) k p1) p2)) (fun _ H Q => Q (some (-1)) H) := ⟨fun pins s σ H Q I q => (po_some (pe_un un_neg pe_int)).run pins s σ H Q I ⟨1, rfl, -1, rfl, q⟩⟩
  refine Subscript_ (thn (ha.run pins s σ H (fun x H1 => Same H H1 ∧ Rep G.fa X.K (hid (SS S0 own) H1) x (.tup ds)) J0 ⟨S0, HF, own, er, fun x H1 s1 p1 => ⟨s1, p1.rep er.nt⟩⟩) fun v s1 ⟨x, H1, I1, r1, sm, rd⟩ => ?_)
  cases rd with | @tup b ws _ b1 b2 b3 => ?_
  cases r1
  have none1 : ∀ (s : Shared) (I : Inv X pins σ H1 s), wpAny (model X.prog X.w) X.A (evalPart none X.env) (fun u s' => Inv X pins σ H1 s' ∧ u = .none) X.xe s := fun s I =>
    thn (po_none.run pins s σ H1 (fun o H2 => o = none ∧ H2 = H1) I ⟨rfl, rfl⟩) fun u s' ⟨o, H2, J, pu, eo, eH⟩ => by
      subst eo eH
      cases pu
      exact ⟨J, rfl⟩
  refine wpAny_Slice (thn (none1 s1 I1) fun vl s2 ⟨I2, el⟩ => thn (none1 s2 I2) fun vu s3 ⟨I3, eu⟩ => thn (minus.run pins s3 σ H1 (fun o H2 => o = some (-1) ∧ H2 = H1) I3 ⟨rfl, rfl⟩) fun vs s4 ⟨o, H2, I4, ps, eo, eH⟩ => ?_)
  subst el eu eo eH
  cases ps with | int _ tk => ?_
  have J : Inv X pins σ H2 { s4 with heap := s4.heap.push { cls := .type "slice", data := .fields #[.none, .none, .int (-1) tk] } } := I4.kept (t' := s4.toks) fun _ _ z => Heap.get?_push_of_some _ z
  have hfr := J.hok.fresh (Nat.le_refl _)
  obtain ⟨its, r, pl, hz⟩ := J.tuple (.inl (.inl (hid_same _ _ b1)))
  have hlen := r.length
  refine tail_any (ops := [.ref _, .ref s4.heap.objs.size]) pl.typeIs (slot_tuple_getitem.lookup) ?_ (by with_unfolding_all rfl)
  refine tup_back pl (Heap.IsSliceOf.new s4.heap .none .none (.int (-1) tk)) (by rw [List.size_toArray]; omega) ?_
  rw [List.toList_toArray]
  have er2 := er.same sm
  exact ⟨.ref _, _, J.laid (t' := s4.toks) (o := .tup ws.reverse) (fun _ _ z => Heap.get?_push_of_some _ z) (Nat.le_refl _) ⟨by rw [List.length_reverse]; omega, its.reverse, r.reverse, _, Heap.get?_push_size _ rfl, rfl, _, rfl⟩, rfl,
    q _ _ (sm.trans (Same.upd hfr)) (Rep.tup (seen_new er2 _ hfr) (by rw [List.length_reverse]; exact b2) (b3.reverse.mono (Le.of (hid_mono (Same.upd hfr) fun _ _ _ z => z))))⟩
end
end Pu
end
section
set_option maxRecDepth 100000
set_option maxHeartbeats 1000000
namespace Pu
open PySem PySem.Spec L2
section
variable {X : Cx} {G : Gc}
theorem pairs_rep {K : PySem.W.Frag} {fa : Nat → Option Addr} {S : Addr → Prop} {H : Hp} : ∀ {ds : List D} {vs : List V} {ps : List (List Key × D)}, RepL fa K (hid S H) vs ds → pairsD false ds = .ok ps →
    ∃ (as : List Addr) (kvs : List (Key × V)), vs = as.map V.ref ∧ Paired (fun p (kv : Key × V) => SqT K H p [kV kv.1, kv.2]) as kvs ∧ RepKV fa K (hid S H) (wrap kvs) ps ∧ kvs.length = ds.length
  | [], _, ps, r, e => by
    cases r
    cases e
    exact ⟨[], [], rfl, .nil, .nil, rfl⟩
  | d :: ds, _, ps, r, e => by
    cases r with | cons r1 r2 => ?_
    cases d with
    | tup xs =>
      match xs, r1, e with
      | [k, v], r1, e =>
        have e : ((R.ofO (keyOf false k)).bind fun k => (pairsD false ds).bind fun r => .ok ((k, v) :: r)) = .ok ps := e
        simp only [keyOf] at e
        cases e1 : key1 k with
        | none => simp only [e1] at e; cases e
        | some k1 =>
          simp only [e1, Option.map_some, R.ofO_some, R.bind_ok] at e
          cases e2 : pairsD false ds with
          | exc c p => rw [e2] at e; cases e
          | bad => rw [e2] at e; cases e
          | ok ps' =>
            rw [e2] at e
            cases e
            obtain ⟨as, kvs, h1, h2, h3, h4⟩ := pairs_rep r2 e2
            subst h1
            cases r1 with | @tup a ws _ b1 b2 b3 => ?_
            cases b3 with | cons c1 c2 => ?_
            cases c2 with | cons c3 c4 => ?_
            cases c4
            have ek := key1_of e1 c1
            subst ek
            exact ⟨a :: as, (k1, _) :: kvs, rfl, .cons (SqT.of (hid_same _ _ b1)) h2, .cons c3 h3, by rw [List.length_cons, List.length_cons, h4]⟩
      | [], r1, e => cases e
      | [_], r1, e => cases e
      | _ :: _ :: _ :: _, r1, e => cases e
    | _ => cases e
theorem merge_rep {fa : Nat → Option Addr} {K : PySem.W.Frag} {H : Hp} : ∀ {kvs : List (Key × V)} {ps : List (List Key × D)} {acc : List (Key × V)} {ad : List (List Key × D)}, RepKV fa K H (wrap kvs) ps → RepKV fa K H (wrap acc) ad →
    RepKV fa K H (wrap (mergeK acc kvs)) (ps.foldl (fun acc p => dput acc p.1 p.2) ad)
  | [], ps, acc, ad, r, q => by
    cases r
    exact q
  | (k, v) :: kvs, ps, acc, ad, r, q => by
    cases r with | @cons _ _ _ d ds r1 r2 => ?_
    exact merge_rep (kvs := kvs) (ps := ds) (acc := putK acc k v) (ad := dput ad [k] d) r2 (by
      rw [← wrap_put]
      exact q.put [k] r1)
theorem pairsD_ne (t : Bool) : ∀ (ds : List D) (c p), pairsD t ds ≠ .exc c p
  | [], c, p => ok_ne
  | .tup [k, v] :: ds, c, p => ofO_bind_ne _ _ (fun _ c p => bind_ne (pairsD_ne t ds) (fun _ _ _ => ok_ne) c p) c p
  | .tup [] :: ds, c, p => bad_ne
  | .tup [_] :: ds, c, p => bad_ne
  | .tup (_ :: _ :: _ :: _) :: ds, c, p => bad_ne
  | .non :: ds, c, p => bad_ne
  | .bl _ :: ds, c, p => bad_ne
  | .int _ :: ds, c, p => bad_ne
  | .str _ :: ds, c, p => bad_ne
  | .fn _ :: ds, c, p => bad_ne
  | .scr _ :: ds, c, p => bad_ne
  | .lst _ :: ds, c, p => bad_ne
  | .dct _ _ :: ds, c, p => bad_ne
theorem hid_aside {S : Addr → Prop} {H : Hp} {p : Addr} {o : HO} (hp : H p = none) : Le (hid S H) (hid (fun a => S a ∨ a = p) (upd H p o)) := Le.of fun a u e => by
  obtain ⟨n1, e1⟩ := hid_iff.mp e
  have ne : a ≠ p := ne_of_none e1 hp
  exact hid_iff.mpr ⟨fun z => z.elim n1 ne, by rw [upd_ne ne]; exact e1⟩
theorem fresh_dK {S : Addr → Prop} {H : Hp} {p : Addr} {kvs : List (Key × V)} {ds : List (List Key × D)} (hp : H p = none) (r : RepKV G.fa X.K (hid S H) (wrap kvs) ds) (hz : kvs.length ≤ sizeLine) :
    Pst G X.K true S H (upd H p (.dK kvs)) (.ref p) (.dct false ds) := ⟨p, rfl, hp, .inr (.inl ⟨kvs, ds, rfl, upd_same, hz, r.mono (hid_aside hp)⟩)⟩
theorem fresh_dT {S : Addr → Prop} {H : Hp} {p : Addr} {kvs : List (List Key × V)} {ds : List (List Key × D)} (hp : H p = none) (r : RepKV G.fa X.K (hid S H) kvs ds) (hz : kvs.length ≤ sizeLine) (hk : ∀ q ∈ kvs, q.1.length ≤ sizeLine) :
    Pst G X.K true S H (upd H p (.dT kvs)) (.ref p) (.dct true ds) := ⟨p, rfl, hp, .inr (.inr ⟨kvs, ds, rfl, upd_same, hz, r.mono (hid_aside hp), hk⟩)⟩
theorem b1_dK (hc : X.calm = true) : CallR X (.type "dict") (rF G X.K true (b1D .dK)) := by
  intro pins s σ H as us Q I r h
  obtain ⟨S, x, a, d, rfl, hS, ra, e, q⟩ := h
  cases a with
  | lst xs =>
    have e : ((pairsD false xs).bind fun ps => R.ok (.dct false (ps.foldl (fun acc p => dput acc p.1 p.2) []))) = .ok d := e
    cases e2 : pairsD false xs with
    | exc c p => exact (pairsD_ne _ _ _ _ e2).elim
    | bad => rw [e2] at e; cases e
    | ok ps =>
      rw [e2] at e
      cases e
      cases ra with | @lst l ws _ h1 n1 r1 => ?_
      obtain ⟨rs, kvs, g1, g2, g3, g4⟩ := pairs_rep r1 e2
      subst g1
      have gl : kvs.length ≤ sizeLine := by rw [g4, ← r1.length]; exact n1
      refine call_dictP hc pins s σ H _ us Q I r ⟨l, rs, kvs, rfl, SqL.of (hid_same _ _ h1), g2, fun p hp => q _ _ (Same.upd hp) ?_⟩
      exact fresh_dK hp (merge_rep g3 .nil) (Nat.le_trans (length_mergeK kvs []) (by rw [List.length_nil, Nat.zero_add]; exact gl))
  | _ => cases e
end
end Pu
end
section
set_option maxRecDepth 100000
set_option maxHeartbeats 1000000
namespace Pu
open PySem PySem.Spec L2
open PyProof.Rows hiding St
abbrev Tri := Addr × Addr × (List Key × V)
def mergeT (acc kvs : List (List Key × V)) : List (List Key × V) := kvs.foldl (fun a p => putK a p.1 p.2) acc
theorem len_mergeT : ∀ (kvs acc : List (List Key × V)), (mergeT acc kvs).length ≤ acc.length + kvs.length
  | [], acc => Nat.le_refl _
  | p :: kvs, acc => by
    have h1 := len_mergeT kvs (putK acc p.1 p.2)
    have h2 := length_putK acc p.1 p.2
    show (mergeT (putK acc p.1 p.2) kvs).length ≤ _
    rw [List.length_cons]
    omega
theorem keys_mergeT {P : List Key → Prop} : ∀ (kvs acc : List (List Key × V)), (∀ p ∈ acc, P p.1) → (∀ p ∈ kvs, P p.1) → ∀ p ∈ mergeT acc kvs, P p.1
  | [], acc, h, _ => h
  | q :: kvs, acc, h, hk => keys_mergeT kvs (putK acc q.1 q.2) (fun p hp => by
      unfold putK at hp
      split at hp
      · obtain ⟨r, hr, e⟩ := List.mem_map.mp hp
        subst e
        have := h r hr
        split <;> exact this
      · rcases List.mem_append.mp hp with z | z
        · exact h p z
        · have : p = (q.1, q.2) := by simpa using z
          subst this
          exact hk q List.mem_cons_self) fun p hp => hk p (List.mem_cons_of_mem _ hp)
section
variable {X : Cx} {G : Gc}
theorem pairsT_rep {K : PySem.W.Frag} {fa : Nat → Option Addr} {S : Addr → Prop} {H : Hp} : ∀ {ds : List D} {vs : List V} {ps : List (List Key × D)}, RepL fa K (hid S H) vs ds → pairsD true ds = .ok ps →
    ∃ T : List Tri, vs = T.map (fun t => V.ref t.1) ∧ (∀ t ∈ T, H t.1 = some (.tup [.ref t.2.1, t.2.2.2]) ∧ H t.2.1 = some (.tup (t.2.2.1.map kV)) ∧ t.2.2.1.length ≤ sizeLine) ∧ RepKV fa K (hid S H) (T.map (·.2.2)) ps ∧ T.length = ds.length
  | [], _, ps, r, e => by
    cases r
    cases e
    exact ⟨[], rfl, fun _ z => (nomatch z), .nil, rfl⟩
  | d :: ds, _, ps, r, e => by
    cases r with | cons r1 r2 => ?_
    cases d with
    | tup xs =>
      match xs, r1, e with
      | [k, v], r1, e =>
        have e : ((R.ofO (keyOf true k)).bind fun k => (pairsD true ds).bind fun r => .ok ((k, v) :: r)) = .ok ps := e
        cases e1 : keyOf true k with
        | none => rw [e1] at e; cases e
        | some kk =>
          rw [e1, R.ofO_some, R.bind_ok] at e
          cases e2 : pairsD true ds with
          | exc c p => rw [e2] at e; cases e
          | bad => rw [e2] at e; cases e
          | ok ps' =>
            rw [e2] at e
            cases e
            obtain ⟨T, h1, h2, h3, h4⟩ := pairsT_rep r2 e2
            subst h1
            cases r1 with | @tup a ws _ b1 b2 b3 => ?_
            cases b3 with | cons c1 c2 => ?_
            cases c2 with | cons c3 c4 => ?_
            cases c4
            cases k with
            | tup zs =>
              simp only [keyOf] at e1
              cases c1 with | @tup b us _ g1 g2 g3 => ?_
              have ek := keys_of e1 g3
              subst ek
              refine ⟨(a, b, (kk, _)) :: T, rfl, fun t ht => ?_, .cons c3 h3, by rw [List.length_cons, List.length_cons, h4]⟩
              rcases List.mem_cons.mp ht with z | z
              · subst z
                exact ⟨hid_same _ _ b1, hid_same _ _ g1, by rw [List.length_map] at g2; exact g2⟩
              · exact h2 t z
            | _ => cases e1
      | [], r1, e => cases e
      | [_], r1, e => cases e
      | _ :: _ :: _ :: _, r1, e => cases e
    | _ => cases e
theorem mergeT_rep {fa : Nat → Option Addr} {K : PySem.W.Frag} {H : Hp} : ∀ {kvs : List (List Key × V)} {ps : List (List Key × D)} {acc : List (List Key × V)} {ad : List (List Key × D)}, RepKV fa K H kvs ps → RepKV fa K H acc ad →
    RepKV fa K H (mergeT acc kvs) (ps.foldl (fun acc p => dput acc p.1 p.2) ad)
  | [], ps, acc, ad, r, q => by
    cases r
    exact q
  | (k, v) :: kvs, ps, acc, ad, r, q => by
    cases r with | @cons _ _ _ d ds r1 r2 => ?_
    exact mergeT_rep (kvs := kvs) (ps := ds) (acc := putK acc k v) (ad := dput ad k d) r2 (q.put k r1)
theorem stand {pins : List (Addr × Obj)} {σ : L2.St} {H : Hp} {s : Shared} (I : L2.Inv X pins σ H s) : ∀ T : List Tri, (∀ t ∈ T, H t.1 = some (.tup [.ref t.2.1, t.2.2.2]) ∧ H t.2.1 = some (.tup (t.2.2.1.map kV)) ∧ t.2.2.1.length ≤ sizeLine) →
    ∃ us : List Value, us.length = T.length ∧ ∀ (j : Nat) (t : Tri) (u : Value), T[j]? = some t → us[j]? = some u → RelV t.2.2.2 u ∧ PairAt s.heap t.1 (.ref t.2.1) u
  | [], _ => ⟨[], rfl, fun j t u e => by simp at e⟩
  | t :: T, h => by
    obtain ⟨us, h1, h2⟩ := stand I T fun x hx => h x (List.mem_cons_of_mem _ hx)
    obtain ⟨_, its, rv, o, ho, hc, n, hd⟩ := I.hok _ _ (h t List.mem_cons_self).1
    obtain ⟨a, u, ei, ra, ru⟩ := vals2 rv
    subst ei
    cases ra
    refine ⟨u :: us, by rw [List.length_cons, List.length_cons, h1], fun j t' u' e1 e2 => ?_⟩
    cases j with
    | zero =>
      cases Option.some.inj e1
      cases Option.some.inj e2
      exact ⟨ru, .inl ⟨o, ho, hc, n, hd⟩⟩
    | succ j => exact h2 j t' u' (by simpa using e1) (by simpa using e2)
theorem kt_fold {H : Hp} : ∀ (T : List Tri) (us : List Value) (kvs : List (List Key × V)) (xs : List (List Key × Addr × Value)), us.length = T.length → (∀ (j : Nat) (t : Tri) (u : Value), T[j]? = some t → us[j]? = some u → RelV t.2.2.2 u) → (∀ t ∈ T, H t.2.1 = some (.tup (t.2.2.1.map kV))) → KT H kvs xs →
    KT H (mergeT kvs (T.map (·.2.2))) (storedAllH xs ((T.zip us).map fun p => (p.1.2.2.1, p.1.2.1, p.2)))
  | [], us, kvs, xs, _, _, _, r => r
  | t :: T, [], kvs, xs, hl, _, _, _ => nomatch hl
  | t :: T, u :: us, kvs, xs, hl, hr, ht, r =>
    kt_fold T us (putK kvs t.2.2.1 t.2.2.2) (storedH xs t.2.2.1 t.2.1 u) (by simpa using hl) (fun j t' u' e1 e2 => hr (j + 1) t' u' (by simpa using e1) (by simpa using e2)) (fun x hx => ht x (List.mem_cons_of_mem _ hx))
      (r.put t.2.2.1 (ht t List.mem_cons_self) (hr 0 t u rfl rfl))
theorem b1_dT (hc : X.calm = true) (hu : X.A.units + 2 < cLine) : CallR X (.type "dict") (rF G X.K true (b1D .dT)) := by
  intro pins s σ H as us Q I r h
  obtain ⟨S, x, a, d, rfl, hS, ra, e, q⟩ := h
  cases a with
  | lst xs =>
    have e : ((pairsD true xs).bind fun ps => R.ok (.dct true (ps.foldl (fun acc p => dput acc p.1 p.2) []))) = .ok d := e
    cases e2 : pairsD true xs with
    | exc c p => exact (pairsD_ne _ _ _ _ e2).elim
    | bad => rw [e2] at e; cases e
    | ok ps =>
      rw [e2] at e
      cases e
      cases ra with | @lst l ws _ h1 n1 r1 => ?_
      obtain ⟨T, g1, g2, g3, g4⟩ := pairsT_rep r1 e2
      subst g1
      have gl : T.length ≤ sizeLine := by rw [g4, ← r1.length]; exact n1
      obtain ⟨u, eu, ru⟩ := vals1 r
      subst eu
      obtain rfl : u = Value.ref l := ru
      obtain ⟨its, rv, pl, hz⟩ := I.list (SqL.of (hid_same _ _ h1))
      have ei : its = (T.map (·.1)).map Value.ref := refs_at (ps := T.map (·.1)) (by rw [List.map_map]; exact rv)
      obtain ⟨vs, v1, v2⟩ := stand I T g2
      obtain ⟨o, n, ho, hcl, hd, hdat⟩ := pl
      have zl : (T.zip vs).length = T.length := by rw [List.length_zip, v1, Nat.min_self]
      have zat : ∀ (j : Nat) (p : Tri × Value), (T.zip vs)[j]? = some p → T[j]? = some p.1 ∧ vs[j]? = some p.2 := fun j p e => List.getElem?_zip_eq_some.mp e
      have key : ∀ t ∈ T, (tupleKind (mixKind X.prog X.w)).is s.heap t.2.2.1 t.2.1 := fun t ht => key_of I.hok (g2 t ht).2.1
      have P := PairArg.list (prog := X.prog) (w := X.w) l its.toArray (fun j => (T.getD j (0, 0, ([], .non))).1) ((T.zip vs).map fun p => (Value.ref p.1.2.1, p.2))
      refine call_dict_pairsH (knd := tupleKind (mixKind X.prog X.w)) (ps := (T.zip vs).map fun p => (p.1.2.2.1, p.1.2.1, p.2)) P (I.ok.hd hc) (by show X.A.units + 1 + 1 < cLine; omega) ⟨⟨o, n, ho, hcl, hd, hdat⟩, ?_, fun j k v hj => ?_⟩ ⟨?_, fun i key v hi => ?_⟩ (fun h' hk x hx => ?_) (by rw [List.length_map, zl]; exact gl) fun h' tk dd kp => ?_
      · rw [List.size_toArray, ei, List.length_map, List.length_map, List.length_map, zl]
      · rw [List.getElem?_map] at hj
        cases hp : (T.zip vs)[j]? with
        | none => rw [hp] at hj; cases hj
        | some p =>
          rw [hp] at hj
          obtain ⟨t1, t2⟩ := zat j p hp
          have hj : (Value.ref p.1.2.1, p.2) = (k, v) := Option.some.inj hj
          cases hj
          have gd : T.getD j (0, 0, ([], .non)) = p.1 := by rw [List.getD_eq_getElem?_getD, t1] <;> rfl
          refine ⟨?_, ?_⟩
          · rw [List.getElem?_toArray, ei, List.getElem?_map, List.getElem?_map, t1]
            show some (Value.ref p.1.1) = some (Value.ref (T.getD j (0, 0, ([], .non))).1)
            rw [gd]
          · show PairAt s.heap (T.getD j (0, 0, ([], .non))).1 _ _
            rw [gd]
            exact (v2 j p.1 p.2 t1 t2).2
      · rw [List.length_map, List.length_map]
      · have hi : ((T.zip vs).map fun p => (Value.ref p.1.2.1, p.2))[i]? = some (key, v) := hi
        rw [List.getElem?_map] at hi
        cases hp : (T.zip vs)[i]? with
        | none => rw [hp] at hi; cases hi
        | some p =>
          rw [hp] at hi
          cases Option.some.inj hi
          exact ⟨p.1.2.2.1, p.1.2.1, by rw [List.getElem?_map, hp] <;> rfl, rfl⟩
      · obtain ⟨p, hp, rfl⟩ := List.mem_map.mp hx
        obtain ⟨j, hj⟩ := List.getElem?_of_mem hp
        obtain ⟨o2, its2, n2, k1, k2, k3, k4⟩ := key p.1 (List.mem_of_getElem? (zat j p hj).1)
        exact ⟨o2, its2, n2, hk _ _ (Nat.ne_of_lt (Heap.lt_size k1)) (fun z => nomatch z) k1, k2, k3, k4⟩
      · have kk : ∀ b o, s.heap.get? b = some o → h'.get? b = some o := fun b o e => kp b o (fun z => nomatch z) e
        have hn : H s.heap.objs.size = none := I.hok.fresh Nat.le.refl
        have lm : (mergeT [] (T.map (·.2.2))).length ≤ sizeLine := Nat.le_trans (len_mergeT _ _) (by rw [List.length_map, List.length_nil, Nat.zero_add]; exact gl)
        have kt := kt_fold (H := H) T vs [] [] v1 (fun j t u e1 e2 => (v2 j t u e1 e2).1) (fun t ht => (g2 t ht).2.1) .nil
        have kt' : KT (upd H s.heap.objs.size (.dT (mergeT [] (T.map (·.2.2))))) (mergeT [] (T.map (·.2.2))) (storedAllH [] ((T.zip vs).map fun p => (p.1.2.2.1, p.1.2.1, p.2))) := kt.keeps fun b ys e => by rw [upd_ne (ne_of_none e hn)]; exact e
        have hm : (s.heap.objs.size == sysModules) = false := beq_eq_false_iff_ne.mpr fun z => Nat.ne_of_gt I.big z
        obtain ⟨o3, es, ep, d1, d2, d3, d4, _, d5⟩ := dd
        refine ⟨.ref s.heap.objs.size, upd H s.heap.objs.size (.dT (mergeT [] (T.map (·.2.2)))), I.laid (t' := tk) kk (Nat.le_refl _) ⟨lm, hm, _, kt', o3, es, ep, d1, d2, d3, d4, d5⟩, rfl, q _ _ (Same.upd hn) ?_⟩
        exact fresh_dT hn (mergeT_rep g3 .nil) lm (keys_mergeT (P := fun k => k.length ≤ sizeLine) _ _ (fun _ z => nomatch z) fun p hp => by
          obtain ⟨t, ht, rfl⟩ := List.mem_map.mp hp
          exact (g2 t ht).2.2)
  | _ => cases e
end
end Pu
end
section
set_option maxRecDepth 100000
set_option maxHeartbeats 2000000
namespace Pu
open PySem PySem.Spec L2
open PyProof.Rows hiding St
section
variable {prog : Program} {w : World} {A : Around} {Er : Value → Shared → Prop} {s : Shared}
theorem new_text {x : Str} {t : Tok} {Q : Value → Shared → Prop} (hh : A.handled = none) (hz : x.cps.size ≤ sizeLine)
    (h : ∀ (s1 : Shared) (its : Array Value), (∀ b o, s.heap.get? b = some o → s1.heap.get? b = some o) → s1.gens = s.gens → s1.drawn = s.drawn → s1.os = s.os → ItemsOf (SignAt x) its x.cps.size →
      Q (.ref s1.heap.objs.size) { s1 with heap := s1.heap.push { cls := .type "tuple", data := .seq its } }) :
    codeAny (model prog w) A (.call (.builtin "tuple.__new__") ⟨[.type "tuple", .str x t], []⟩) (wants Q Er) s := by
  refine codeAny_of_tree ?_
  show wpAny _ A.in1 (checkBuiltinCall "tuple.__new__" ⟨[.type "tuple", .str x t], []⟩ >>= fun _ => again (.builtin "tuple.__new__" ⟨[.type "tuple", .str x t], []⟩)) _ _ s
  refine wpAny_bind (wpAny_of_eq (PySem.F.newCall_tuple_1 _) (wpAny_pure ⟨plainId_quiet PySem.F.plain_tuple_new _, codeAny_builtin PySem.F.entry_tuple_new ?_⟩))
  rw [Around.under_plainId PySem.F.plain_tuple_new _]
  have k1 := sub_tuple_self
  have k2 := init_tuple_lookup
  have k3 := madeHere_tuple
  have ty : s.TypeIs (.str x t) "str" := rfl
  have quiet : A.in1.handled = none := hh
  wp_walk using wpAny_typeOf ty, wpAny_collect_str (A := A.in1) quiet x t
  intro s1 its g1 g2 g3 g4 hi
  show wpAny _ _ (Builtin.Tuple.tupleExact its.toList.toArray >>= fun v => ret v) _ _ _
  rw [show its.toList.toArray = its by simp]
  rw [Builtin.Tuple.tupleExact]
  exact wpAny_bind (wpAny_newObj_type (wpAny_pure (h s1 its g1 g2 g3 g4 hi)) (by show its.size ≤ sizeLine; rw [hi.1]; exact hz))
end
section
variable {X : Cx} {G : Gc}
theorem vals_signs {z : Str} {its : Array Value} (h : ItemsOf (SignAt z) its z.cps.size) : Vals (z.cps.toList.map fun c => V.str ⟨#[c]⟩) its.toList := by
  obtain ⟨h1, h2⟩ := h
  have go : ∀ (cs : List Nat) (vs : List Value), cs.length = vs.length → (∀ (j : Nat) (c : Nat) (v : Value), cs[j]? = some c → vs[j]? = some v → ∃ u, v = .str ⟨#[c]⟩ u) → Vals (cs.map fun c => V.str ⟨#[c]⟩) vs := fun cs => by
    induction cs with
    | nil => intro vs l _; cases vs with
      | nil => exact .nil
      | cons _ _ => cases l
    | cons c cs ih =>
      intro vs l k
      cases vs with
      | nil => cases l
      | cons v vs =>
        obtain ⟨u, e⟩ := k 0 c v rfl rfl
        exact .cons ⟨u, e⟩ (ih vs (by simpa using l) fun j c v e1 e2 => k (j + 1) c v (by simpa using e1) (by simpa using e2))
  refine go _ _ (by rw [Array.length_toList, Array.length_toList, h1]) fun j c v e1 e2 => ?_
  obtain ⟨c', u, e3, e4⟩ := h2 j v (by simpa using e2)
  have : z.cps[j]? = some c := by simpa using e1
  rw [this] at e3
  cases e3
  exact ⟨u, e4⟩
theorem signs_rep {fa : Nat → Option Addr} {K : PySem.W.Frag} {H : Hp} : ∀ cs : List Nat, RepL fa K H (cs.map fun c => V.str ⟨#[c]⟩) (cs.map fun c => D.str ⟨#[c]⟩)
  | [] => .nil
  | _ :: cs => .cons (.str _) (signs_rep cs)
theorem b1_tups (hc : X.calm = true) : CallR X (.type "tuple") (rF G X.K false (b1D .tups)) := by
  intro pins s σ H as us Q I r h
  obtain ⟨S, x, a, d, rfl, hS, ra, e, q⟩ := h
  cases a with
  | str z =>
    have e : (if z.length ≤ 1000 then R.ok (D.tup (z.cps.toList.map fun c => D.str ⟨#[c]⟩)) else .bad) = .ok d := e
    split at e
    case isFalse => cases e
    rename_i hz
    cases e
    cases ra
    cases r with | @cons _ u _ _ ru r0 => ?_
    cases r0
    obtain ⟨t, rfl⟩ := ru
    have hh : X.A.in1.handled = none := I.ok.hd hc
    have sz : z.cps.size ≤ sizeLine := Nat.le_trans hz (by rw [sizeLine_eq]; decide)
    refine callType_codes (Q₁ := fun obj s1 => s1.TypeIs obj "tuple" ∧ EP X pins σ Q obj s1) PySem.F.called_tuple (PySem.F.typeCall_tuple_1 _) PySem.F.entry_object_init
      (new_text (A := X.A.in1) hh sz fun s1 its g1 g2 g3 g4 hi => ?_) fun obj s1 h1 => ⟨h1.1, PySem.F.args_object_init_2 obj _, object_init_meets PySem.F.called_tuple.init.lookup PySem.F.called_tuple.made (by decide) X.prog X.w X.A.in1 _ s1 ⟨h1.1, rfl, h1.2⟩⟩
    obtain ⟨hp, gs, dr, tk, os'⟩ := s1
    dsimp only at g1 g2 g3 g4
    subst g2 g3 g4
    have I1 : Inv X pins σ H { s with heap := hp } := I.kept (t' := s.toks) g1
    have I2 : Inv X pins σ H { s with heap := hp, toks := tk } := I1.tok _
    have hfr := I2.hok.fresh (Nat.le_refl hp.objs.size)
    have rv := vals_signs hi
    refine ⟨⟨_, Heap.get?_push_size _ rfl, rfl⟩, .ref hp.objs.size, _, I2.laid (t' := tk) (o := .tup (z.cps.toList.map fun c => V.str ⟨#[c]⟩)) (fun _ _ z => Heap.get?_push_of_some _ z) (Nat.le_refl _) ⟨by rw [List.length_map, Array.length_toList]; exact sz, its.toList, rv, _, Heap.get?_push_size _ rfl, rfl, _, rfl⟩, rfl, q _ _ (Same.upd hfr) ?_⟩
    have hid1 : hid S (upd H hp.objs.size (.tup (z.cps.toList.map fun c => V.str ⟨#[c]⟩))) hp.objs.size = some (.tup (z.cps.toList.map fun c => V.str ⟨#[c]⟩)) := hid_iff.mpr ⟨fun z => (by
      obtain ⟨_, e, _⟩ := hS _ z
      rw [hfr] at e
      cases e), upd_same⟩
    exact Rep.tup hid1 (by rw [List.length_map, Array.length_toList]; exact sz) (signs_rep _)
  | _ => cases e
end
end Pu
end
section
set_option maxRecDepth 100000
set_option maxHeartbeats 1000000
namespace Pu
open PySem PySem.Spec L2
section
variable {G : Gc} {K : PySem.W.Frag} {S0 : Addr → Prop} {HF : Hp} {own : Nat → List Addr} {σ : St} {H H1 : Hp} {env env' : Env}
theorem set_get {α : Type} {xs : List α} {i j : Nat} {a b : α} (h : (xs.set i a)[j]? = some b) : (i = j ∧ b = a) ∨ (i ≠ j ∧ xs[j]? = some b) := by
  rw [List.getElem?_set] at h
  by_cases e : i = j
  · subst e
    rw [if_pos rfl] at h
    split at h
    · exact .inl ⟨rfl, (Option.some.inj h).symm⟩
    · cases h
  · rw [if_neg e] at h
    exact .inr ⟨e, h⟩
theorem ER.lt (er : ER G K S0 HF own σ H env) {i : Nat} (h : i < env.length) : i < σ.length := by rw [er.len]; exact h
theorem ER.put (er : ER G K S0 HF own σ H env) {i : Nat} (hi : i < env.length) (no : isOwn env[i]? = false) {v : V} {d : D} (r : Rep G.fa K (hid (SS S0 own) H) v d) : ER G K S0 HF own (σ.set i (some v)) H (env.set i (.sh d)) where
  len := by rw [List.length_set, List.length_set]; exact er.len
  sh := fun j d' e => by
    rcases set_get e with ⟨rfl, e'⟩ | ⟨ne, e'⟩
    · cases e'
      exact ⟨v, by rw [List.getElem?_set_self (er.lt hi)], r⟩
    · obtain ⟨v', h1, h2⟩ := er.sh j d' e'
      exact ⟨v', by rw [List.getElem?_set_ne ne]; exact h1, h2⟩
  ow := fun j d' e => by
    rcases set_get e with ⟨rfl, e'⟩ | ⟨ne, e'⟩
    · cases e'
    · obtain ⟨a, h1, h2, h3⟩ := er.ow j d' e'
      exact ⟨a, h1, by rw [List.getElem?_set_ne ne]; exact h2, h3⟩
  o2 := fun j d' e => by
    rcases set_get e with ⟨rfl, e'⟩ | ⟨ne, e'⟩
    · cases e'
    · obtain ⟨a, as, h1, h2, h3⟩ := er.o2 j d' e'
      exact ⟨a, as, h1, by rw [List.getElem?_set_ne ne]; exact h2, h3⟩
  no := fun j a z => by
    have h := er.no j a z
    by_cases e : i = j
    · subst e; rw [no] at h; cases h
    · rw [List.getElem?_set_ne e]; exact h
  nd := er.nd
  inj := er.inj
  hf := er.hf
  fr := er.fr
  tr := er.tr
  s0 := er.s0
theorem ER.clear (er : ER G K S0 HF own σ H env) {i : Nat} (hi : i < env.length) (no : isOwn env[i]? = false) : ER G K S0 HF own (σ.set i none) H (env.set i .em) where
  len := by rw [List.length_set, List.length_set]; exact er.len
  sh := fun j d' e => by
    rcases set_get e with ⟨rfl, e'⟩ | ⟨ne, e'⟩
    · cases e'
    · obtain ⟨v', h1, h2⟩ := er.sh j d' e'
      exact ⟨v', by rw [List.getElem?_set_ne ne]; exact h1, h2⟩
  ow := fun j d' e => by
    rcases set_get e with ⟨rfl, e'⟩ | ⟨ne, e'⟩
    · cases e'
    · obtain ⟨a, h1, h2, h3⟩ := er.ow j d' e'
      exact ⟨a, h1, by rw [List.getElem?_set_ne ne]; exact h2, h3⟩
  o2 := fun j d' e => by
    rcases set_get e with ⟨rfl, e'⟩ | ⟨ne, e'⟩
    · cases e'
    · obtain ⟨a, as, h1, h2, h3⟩ := er.o2 j d' e'
      exact ⟨a, as, h1, by rw [List.getElem?_set_ne ne]; exact h2, h3⟩
  no := fun j a z => by
    have h := er.no j a z
    by_cases e : i = j
    · subst e; rw [no] at h; cases h
    · rw [List.getElem?_set_ne e]; exact h
  nd := er.nd
  inj := er.inj
  hf := er.hf
  fr := er.fr
  tr := er.tr
  s0 := er.s0
def wipeE (env : Env) : List Nat → Env
  | [] => env
  | v :: vs => (wipeE env vs).set v .em
theorem wipeE_length (env : Env) : ∀ vs, (wipeE env vs).length = env.length
  | [] => rfl
  | v :: vs => by unfold wipeE; rw [List.length_set, wipeE_length env vs]
theorem wipeE_own {vs : List Nat} {j : Nat} (h : isOwn env[j]? = false) : isOwn (wipeE env vs)[j]? = false := by
  induction vs with
  | nil => exact h
  | cons v vs ih =>
    unfold wipeE
    rw [List.getElem?_set]
    split
    · split <;> rfl
    · exact ih
theorem wipeE_out {vs : List Nat} {j : Nat} (h : j ∉ vs) : (wipeE env vs)[j]? = env[j]? := by
  induction vs with
  | nil => rfl
  | cons v vs ih =>
    simp only [List.mem_cons, not_or] at h
    unfold wipeE
    rw [List.getElem?_set_ne fun z => h.1 z.symm]
    exact ih h.2
theorem ER.wipe (er : ER G K S0 HF own σ H env) {vs : List Nat} (hv : ∀ i ∈ vs, i < env.length ∧ isOwn env[i]? = false) : ER G K S0 HF own (wipe σ vs) H (wipeE env vs) := by
  induction vs with
  | nil => exact er
  | cons v vs ih =>
    unfold L2.wipe wipeE
    have h := hv v List.mem_cons_self
    exact (ih fun i hi => hv i (List.mem_cons_of_mem _ hi)).clear (by rw [wipeE_length]; exact h.1) (wipeE_own h.2)
def bindV (σ : St) : List Nat → List V → St
  | i :: is, v :: vs => bindV (σ.set i (some v)) is vs
  | _, _ => σ
theorem bindOne_ok {i : Nat} {d : D} (h : bindOne env i d = .ok env') : i < env.length ∧ isOwn env[i]? = false ∧ env' = env.set i (.sh d) := by
  unfold bindOne at h
  split at h
  · rename_i q
    cases h
    simp only [Bool.and_eq_true, decide_eq_true_eq, Bool.not_eq_true'] at q
    exact ⟨q.1, q.2, rfl⟩
  · cases h
theorem bindOne_ne {i : Nat} {d : D} (c p) : bindOne env i d ≠ .exc c p := by
  unfold bindOne
  split <;> first | exact ok_ne | exact bad_ne
theorem bindMany_ne : ∀ {is : List Nat} {ds : List D} {env : Env} (c p), bindMany env is ds ≠ .exc c p
  | [], [], _, _, _ => ok_ne
  | [], _ :: _, _, _, _ => bad_ne
  | _ :: _, [], _, _, _ => bad_ne
  | i :: is, d :: ds, env, c, p => by
    unfold bindMany
    exact bind_ne (fun c p => bindOne_ne c p) (fun _ c p => bindMany_ne c p) c p
theorem bindT_ne {tg : Tg} {d : D} (c p) : bindT env tg d ≠ .exc c p := by
  unfold bindT
  split
  · exact bindOne_ne c p
  · split
    · exact bindMany_ne c p
    · exact bad_ne
theorem bindMany_ok : ∀ {is : List Nat} {ds : List D} {vs : List V} {σ : St} {env : Env}, bindMany env is ds = .ok env' → RepL G.fa K (hid (SS S0 own) H) vs ds → ER G K S0 HF own σ H env → ER G K S0 HF own (bindV σ is vs) H env' ∧ is.length = ds.length
  | [], [], _, _, _, h, r, er => by cases h; cases r; exact ⟨er, rfl⟩
  | [], _ :: _, _, _, _, h, _, _ => by cases h
  | _ :: _, [], _, _, _, h, _, _ => by cases h
  | i :: is, d :: ds, _, σ, env, h, r, er => by
    cases r with
    | cons r1 r2 =>
    unfold bindMany at h
    cases e : bindOne env i d with
    | bad => rw [e] at h; cases h
    | exc c p => rw [e] at h; cases h
    | ok env1 =>
      rw [e] at h
      obtain ⟨h1, h2, rfl⟩ := bindOne_ok e
      obtain ⟨h3, h4⟩ := bindMany_ok h r2 (er.put h1 h2 r1)
      exact ⟨h3, by simp [h4]⟩
theorem bindMany_wipe : ∀ {is : List Nat} {ds : List D} {env envw : Env}, env.length = envw.length → (∀ j : Nat, j ∉ is → env[j]? = envw[j]?) → (∀ j : Nat, isOwn env[j]? = false → isOwn envw[j]? = false) → bindMany env is ds = .ok env' → bindMany envw is ds = .ok env'
  | [], [], env, envw, hl, h, _, e => by
    cases e
    have : envw = _ := List.ext_getElem? fun j => (h j (by simp)).symm
    rw [this]; rfl
  | [], _ :: _, _, _, _, _, _, e => by cases e
  | _ :: _, [], _, _, _, _, _, e => by cases e
  | i :: is, d :: ds, env, envw, hl, h, ho, e => by
    unfold bindMany at e ⊢
    cases e1 : bindOne env i d with
    | bad => rw [e1] at e; cases e
    | exc c p => rw [e1] at e; cases e
    | ok env1 =>
      rw [e1] at e
      obtain ⟨h1, h2, rfl⟩ := bindOne_ok e1
      have : bindOne envw i d = .ok (envw.set i (.sh d)) := by
        unfold bindOne
        rw [ho i h2, ← hl]
        simp [h1]
      rw [this, R.bind_ok]
      refine bindMany_wipe (by rw [List.length_set, List.length_set]; exact hl) (fun j hj => ?_) (fun j hj => ?_) e
      · by_cases q : i = j
        · subst q; rw [List.getElem?_set_self h1, List.getElem?_set_self (by rw [← hl]; exact h1)]
        · rw [List.getElem?_set_ne q, List.getElem?_set_ne q]; exact h j (by simp only [List.mem_cons, not_or]; exact ⟨fun z => q z.symm, hj⟩)
      · by_cases q : i = j
        · subst q; rw [List.getElem?_set_self (by rw [← hl]; exact h1)]; rfl
        · rw [List.getElem?_set_ne q] at hj ⊢; exact ho j hj
theorem bindMany_own : ∀ {is : List Nat} {ds : List D} {env : Env}, bindMany env is ds = .ok env' → ∀ i ∈ is, i < env.length ∧ isOwn env[i]? = false
  | [], _, _, _, _, z => nomatch z
  | _ :: _, [], _, e, _, _ => by cases e
  | i :: is, d :: ds, env, e, j, hj => by
    unfold bindMany at e
    cases e1 : bindOne env i d with
    | bad => rw [e1] at e; cases e
    | exc c p => rw [e1] at e; cases e
    | ok env1 =>
      rw [e1] at e
      obtain ⟨h1, h2, rfl⟩ := bindOne_ok e1
      by_cases q : i = j
      · subst q; exact ⟨h1, h2⟩
      · rcases List.mem_cons.mp hj with z | z
        · exact (q z.symm).elim
        · have := bindMany_own e j z
          rw [List.length_set, List.getElem?_set_ne q] at this
          exact this
def Tg.ids : Tg → List Nat
  | .one i => [i]
  | .many is => is
theorem bindT_own {tg : Tg} {d : D} (h : bindT env tg d = .ok env') : ∀ i ∈ tg.ids, i < env.length ∧ isOwn env[i]? = false := by
  cases tg with
  | one i => intro j hj; obtain ⟨h1, h2, _⟩ := bindOne_ok h; simp [Tg.ids] at hj; subst hj; exact ⟨h1, h2⟩
  | many is =>
    cases d with
    | tup ds => exact bindMany_own h
    | _ => cases h
theorem bindT_wipe {tg : Tg} {d : D} (h : bindT env tg d = .ok env') : bindT (wipeE env tg.ids) tg d = .ok env' := by
  cases tg with
  | one i =>
    have : bindMany env [i] [d] = .ok env' := by
      obtain ⟨h1, h2, rfl⟩ := bindOne_ok h
      unfold bindMany
      show (bindOne env i d).bind _ = _
      rw [show bindOne env i d = .ok (env.set i (.sh d)) from h]; rfl
    have := bindMany_wipe (envw := wipeE env [i]) (by rw [wipeE_length]) (fun j hj => (wipeE_out hj).symm) (fun j hj => wipeE_own hj) this
    unfold bindMany at this
    show bindOne (wipeE env [i]) i d = _
    cases e : bindOne (wipeE env [i]) i d with
    | ok x => rw [e] at this; exact this
    | bad => rw [e] at this; cases this
    | exc c p => rw [e] at this; cases this
  | many is =>
    cases d with
    | tup ds => exact bindMany_wipe (envw := wipeE env is) (by rw [wipeE_length]) (fun j hj => (wipeE_out hj).symm) (fun j hj => wipeE_own hj) h
    | _ => cases h
end
section
variable {c : Cfg} {G : Gc} {P : Pr} {X : Cx} {n : Nat} {W : WX}
def tG (G : Gc) (K : PySem.W.Frag) (env : Env) (tg : Tg) : TG := fun v σ H Q => ∃ S0 HF own d env', ER G K S0 HF own σ H env ∧ Rep G.fa K (hid (SS S0 own) H) v d ∧ bindT env tg d = .ok env' ∧
  ∀ σ', ER G K S0 HF own σ' H env' → σ'.length = σ.length → (∀ j, j ∉ tg.ids → σ'[j]? = σ[j]?) → Q σ' H
def tgB (N : List Str) (sc : Scope) (fnB : Str → Bool) (x : Str) (i : Nat) : Bool := decide (N[i]? = some x) && locB sc x && (fnB x || decide (sc.names.lookup x = some .local))
def tgsX (N : List Str) (sc : Scope) (fnB : Str → Bool) : List Nat → List Expr → Bool
  | [], [] => true
  | i :: is, .Name x _ :: xs => tgB N sc fnB x i && tgsX N sc fnB is xs
  | _, _ => false
def tgX (N : List Str) (sc : Scope) (fnB : Str → Bool) : Tg → Expr → Bool
  | .one i, .Name x _ => tgB N sc fnB x i
  | .many is, .Tuple xs _ _ => tgsX N sc fnB is xs
  | _, _ => false
theorem tg_name {fnB : Str → Bool} (nd : X.N.Nodup) (hf : ∀ x, fnB x = true → X.fn x = true) {x : Str} {i : Nat} {pos : Pos} (h : tgB X.N X.env.scope fnB x i = true) : PG X (.Name x pos) (gName i) := by
  simp only [tgB, Bool.and_eq_true, Bool.or_eq_true, decide_eq_true_eq] at h
  exact pg_name nd h.1.1 (loc_of h.1.2) (h.2.imp (hf x) id)
theorem bindV_length : ∀ {is : List Nat} {vs : List V} {σ : St}, (bindV σ is vs).length = σ.length
  | [], _, _ => by cases ‹List V› <;> rfl
  | _ :: _, [], _ => rfl
  | i :: is, v :: vs, σ => by unfold bindV; rw [bindV_length, List.length_set]
theorem bindV_out : ∀ {is : List Nat} {vs : List V} {σ : St} {j : Nat}, j ∉ is → (bindV σ is vs)[j]? = σ[j]?
  | [], vs, _, _, _ => by cases vs <;> rfl
  | _ :: _, [], _, _, _ => rfl
  | i :: is, v :: vs, σ, j, h => by
    simp only [List.mem_cons, not_or] at h
    unfold bindV
    rw [bindV_out h.2, List.getElem?_set_ne fun z => h.1 z.symm]
theorem assign_names {N : List Str} {sc : Scope} {fnB : Str → Bool} {env : PySem.Env} : ∀ {is : List Nat} {xs : List Expr}, tgsX N sc fnB is xs = true → (assignEach xs env).length = is.length ∧ (assignEach xs env).findIdx? (fun x => x.1) = none
  | [], [], _ => ⟨rfl, rfl⟩
  | i :: is, x :: xs, h => by
    cases x with
    | Name y p =>
      unfold tgsX at h
      rw [Bool.and_eq_true] at h
      obtain ⟨h1, h2⟩ := assign_names (env := env) h.2
      have e : assignEach (.Name y p :: xs) env = (false, PySem.assign (.Name y p) env) :: assignEach xs env := rfl
      rw [e]
      exact ⟨by rw [List.length_cons, h1, List.length_cons], by rw [List.findIdx?_cons]; simp [h2]⟩
    | _ => cases h
  | [], _ :: _, h => by cases h
  | _ :: _, [], h => by cases h
theorem tgs_ok {fnB : Str → Bool} (nd : X.N.Nodup) (hf : ∀ x, fnB x = true → X.fn x = true) : ∀ {is : List Nat} {xs : List Expr}, tgsX X.N X.env.scope fnB is xs = true →
    PGs X xs (fun vs σ H Q => vs.length = is.length ∧ Q (bindV σ is vs) H)
  | [], [], _ => PGs.imp pgs_nil fun vs σ H Q ⟨h, q⟩ => by
    cases vs with
    | nil => exact ⟨rfl, q⟩
    | cons _ _ => cases h
  | i :: is, x :: xs, h => by
    cases x with
    | Name y p =>
      unfold tgsX at h
      rw [Bool.and_eq_true] at h
      refine PGs.imp (pgs_cons (tg_name nd hf h.1) (tgs_ok nd hf h.2)) fun vs σ H Q ⟨hl, q⟩ => ?_
      cases vs with
      | nil => cases hl
      | cons v vs => exact ⟨v, vs, rfl, by simpa using hl, q⟩
    | _ => cases h
  | [], _ :: _, h => by cases h
  | _ :: _, [], h => by cases h
theorem L_tg {fnB : Str → Bool} (nd : X.N.Nodup) (hc : X.calm = true) (hf : ∀ x, fnB x = true → X.fn x = true) {tg : Tg} {x : Expr} (h : tgX X.N X.env.scope fnB tg x = true) (env : Env) : PG X x (tG G X.K env tg) := by
  cases tg with
  | one i =>
    cases x with
    | Name y p =>
      refine PG.imp (tg_name nd hf h) fun v σ H Q ⟨S0, HF, own, d, env', er, r, e, q⟩ => ?_
      obtain ⟨h1, h2, rfl⟩ := bindOne_ok e
      exact q _ (er.put h1 h2 r) (List.length_set ..) fun j hj => List.getElem?_set_ne fun z => hj (by simp [Tg.ids, z])
    | _ => cases h
  | many is =>
    cases x with
    | Tuple xs k p =>
      obtain ⟨h1, h2⟩ := assign_names (env := X.env) h
      refine PG.imp (pg_tup hc (tgs_ok nd hf h) h1 h2) fun v σ H Q ⟨S0, HF, own, d, env', er, r, e, q⟩ => ?_
      cases d with
      | tup ds =>
        cases r with
        | @tup a vs _ h3 h4 r =>
        obtain ⟨er', hl⟩ := bindMany_ok e r er
        exact ⟨a, vs, rfl, SqT.of (hid_same _ _ h3), by rw [r.length, hl], by rw [r.length, hl], q _ er' bindV_length fun j hj => bindV_out hj⟩
      | _ => cases e
    | _ => cases h
def Gives (fa : Nat → Option Addr) (K : PySem.W.Frag) (J : L2.It) (HF : Hp) (ds : List D) : Prop := ds.length ≤ sizeLine ∧ ∀ S' H, Same HF H → (∀ a, S' a → HF a = none) → (∀ a, S' a → NT H a) →
  (∀ i d, ds[i]? = some d → J.go i H ∧ ∀ x H', J.yld i H x H' → Same H H' ∧ Rep fa K (hid S' H') x d) ∧ J.stop ds.length H
def tI (G : Gc) (K : PySem.W.Frag) (W : WX) (env : Env) (r : R (List D)) : TI := fun σ H Q => ∃ S0 HF own, ER G K S0 HF own σ H env ∧ RT G W σ H r (fun J H' ds => Gives G.fa K J (hid (SS S0 own) H') ds) Q
theorem vis_hid {HF H : Hp} {S' : Addr → Prop} (s : Same HF H) (h : ∀ a, S' a → HF a = none) : Same HF (hid S' H) := fun a o e => by
  refine hid_iff.mpr ⟨fun z => ?_, s a o e⟩
  have := h a z
  rw [e] at this
  cases this
theorem len_sz {xs : List D} (h : xs.length ≤ 2000000) : xs.length ≤ sizeLine := Nat.le_trans h (by rw [sizeLine_eq]; decide)
theorem gives_list {K : PySem.W.Frag} {H : Hp} {a : Addr} {ds : List D} (r : Rep G.fa K H (.ref a) (.lst ds)) : Gives G.fa K (Itl K a) H ds := by
  cases r with | @lst _ vs _ h1 h2 h3 => ?_
  refine ⟨by rw [← h3.length]; exact h2, fun S' H' s hs hn => ?_⟩
  have q : SqL K H' a vs := SqL.of (s _ _ h1)
  refine ⟨fun i d e => ?_, vs, q, by rw [h3.length]; exact Nat.le_refl _⟩
  obtain ⟨v, e1, r1⟩ := h3.get e
  refine ⟨⟨vs, v, q, e1⟩, fun x H2 ⟨e2, h⟩ => ?_⟩
  subst e2
  have := h vs q
  rw [e1] at this
  cases this
  exact ⟨Same.refl _, r1.mono (Le.of (vis_hid s hs))⟩
theorem gives_tup {K : PySem.W.Frag} {H : Hp} {a : Addr} {ds : List D} (r : Rep G.fa K H (.ref a) (.tup ds)) : Gives G.fa K (Itt K a) H ds := by
  cases r with | @tup _ vs _ h1 h2 h3 => ?_
  refine ⟨by rw [← h3.length]; exact h2, fun S' H' s hs hn => ?_⟩
  have q : SqT K H' a vs := SqT.of (s _ _ h1)
  refine ⟨fun i d e => ?_, vs, q, by rw [h3.length]; exact Nat.le_refl _⟩
  obtain ⟨v, e1, r1⟩ := h3.get e
  refine ⟨⟨vs, v, q, e1⟩, fun x H2 ⟨e2, h⟩ => ?_⟩
  subst e2
  have := h vs q
  rw [e1] at this
  cases this
  exact ⟨Same.refl _, r1.mono (Le.of (vis_hid s hs))⟩
theorem gives_str {K : PySem.W.Frag} {H : Hp} {z : Str} (hz : z.length ≤ sizeLine) : Gives G.fa K (Its z) H (z.cps.toList.map fun c => .str ⟨#[c]⟩) := by
  have hl : (z.cps.toList.map fun c => D.str ⟨#[c]⟩).length = z.cps.size := by simp
  refine ⟨by rw [hl]; exact hz, fun S' H' s hs hn => ⟨fun i d e => ?_, by rw [hl]; exact Nat.le_refl _⟩⟩
  have hi : i < z.cps.size := by
    have := (List.getElem?_eq_some_iff.mp e).1
    rwa [hl] at this
  refine ⟨hi, fun x H2 ⟨e2, c, e3, e4⟩ => ?_⟩
  subst e2; subst e4
  rw [List.getElem?_map, Array.getElem?_toList, e3] at e
  cases e
  exact ⟨Same.refl _, .str _⟩
theorem gives_rng {K : PySem.W.Frag} {H : Hp} {i j : Int} (h : okR i j = true) : Gives G.fa K (Itr i (j - i).toNat) H (rng i j) := by
  simp only [okR, decide_eq_true_eq] at h
  have hl : (rng i j).length = (j - i).toNat := by simp [rng]
  refine ⟨len_sz (by rw [hl]; omega), fun S' H' s hs hn => ⟨fun k d e => ?_, by rw [hl]; exact Nat.le_refl _⟩⟩
  have hk : k < (j - i).toNat := by
    have := (List.getElem?_eq_some_iff.mp e).1
    rwa [hl] at this
  refine ⟨hk, fun x H2 ⟨e2, e3⟩ => ?_⟩
  subst e2; subst e3
  have : (rng i j)[k]? = some (.int (i + (k : Int))) := by simp [rng, hk]
  rw [this] at e
  cases e
  exact ⟨Same.refl _, .int _⟩
theorem gives_rngd {K : PySem.W.Frag} {H : Hp} {i j : Int} (h : okR i j = true) : Gives G.fa K (Itc i (-1) (i - j).toNat) H (rngD i j) := by
  simp only [okR, decide_eq_true_eq] at h
  have hl : (rngD i j).length = (i - j).toNat := by simp [rngD]
  refine ⟨len_sz (by rw [hl]; omega), fun S' H' s hs hn => ⟨fun k d e => ?_, by rw [hl]; exact Nat.le_refl _⟩⟩
  have hk : k < (i - j).toNat := by
    have := (List.getElem?_eq_some_iff.mp e).1
    rwa [hl] at this
  refine ⟨hk, fun x H2 ⟨e2, e3⟩ => ?_⟩
  subst e2; subst e3
  have : (rngD i j)[k]? = some (.int (i + (k : Int) * (-1))) := by simp [rngD, hk]
  rw [this] at e
  cases e
  exact ⟨Same.refl _, .int _⟩
theorem gives_enum {K : PySem.W.Frag} {H : Hp} {a : Addr} {ds : List D} (r : Rep G.fa K H (.ref a) (.lst ds)) : Gives G.fa K (Ite K a) H (ds.mapIdx fun i d => .tup [.int i, d]) := by
  cases r with | @lst _ vs _ h1 h2 h3 => ?_
  refine ⟨by rw [List.length_mapIdx, ← h3.length]; exact h2, fun S' H' s hs hn => ?_⟩
  have q : SqL K H' a vs := SqL.of (s _ _ h1)
  refine ⟨fun i d e => ?_, vs, q, by rw [List.length_mapIdx, h3.length]; exact Nat.le_refl _⟩
  rw [List.getElem?_mapIdx] at e
  cases e0 : ds[i]? with
  | none => rw [e0] at e; cases e
  | some d0 =>
  rw [e0] at e
  cases e
  obtain ⟨v, e1, r1⟩ := h3.get e0
  refine ⟨⟨vs, v, q, e1⟩, fun x H2 ⟨T, y, ex, hT, e2, h⟩ => ?_⟩
  subst e2; subst ex
  have := h vs q
  rw [e1] at this
  cases this
  exact ⟨Same.upd hT, new_tup hn hT (.cons (.int _) (.cons (r1.mono (Le.of (vis_hid s hs))) .nil)) (sz_words (show 2 ≤ 1000 by decide))⟩
theorem gives_zip {K : PySem.W.Frag} {H : Hp} {a b : Addr} {ds es : List D} (r : Rep G.fa K H (.ref a) (.lst ds)) (r' : Rep G.fa K H (.ref b) (.lst es)) : Gives G.fa K (Itz K a b) H ((ds.zip es).map fun p => .tup [p.1, p.2]) := by
  cases r with | @lst _ vs _ h1 h2 h3 => ?_
  cases r' with | @lst _ ws _ g1 g2 g3 => ?_
  refine ⟨by rw [List.length_map, List.length_zip, ← h3.length]; exact Nat.le_trans (Nat.min_le_left _ _) h2, fun S' H' s hs hn => ?_⟩
  have q : SqL K H' a vs := SqL.of (s _ _ h1)
  have q' : SqL K H' b ws := SqL.of (s _ _ g1)
  refine ⟨fun i d e => ?_, vs, ws, q, q', by rw [List.length_map, List.length_zip, h3.length, g3.length]; omega⟩
  rw [List.getElem?_map] at e
  cases e0 : (ds.zip es)[i]? with
  | none => rw [e0] at e; cases e
  | some p =>
  rw [e0] at e
  cases e
  rw [List.getElem?_zip_eq_some] at e0
  obtain ⟨v, e1, r1⟩ := h3.get e0.1
  obtain ⟨w, f1, r2⟩ := g3.get e0.2
  refine ⟨⟨vs, ws, v, w, q, q', e1, f1⟩, fun x H2 ⟨T, y, y', ex, hT, e2, h, h'⟩ => ?_⟩
  subst e2; subst ex
  have := h vs q
  rw [e1] at this
  cases this
  have := h' ws q'
  rw [f1] at this
  cases this
  exact ⟨Same.upd hT, new_tup hn hT (.cons (r1.mono (Le.of (vis_hid s hs))) (.cons (r2.mono (Le.of (vis_hid s hs))) .nil)) (sz_words (show 2 ≤ 1000 by decide))⟩
end
end Pu
end
section
set_option maxRecDepth 100000
set_option maxHeartbeats 1000000
namespace Pu
open PySem PySem.Spec L2
section
variable {G : Gc} {K : PySem.W.Frag} {S0 : Addr → Prop} {HF : Hp} {own : Nat → List Addr} {σ : St} {H H1 H2 : Hp} {env env' : Env}
abbrev OwnS (own : Nat → List Addr) (a : Addr) : Prop := ∃ i, a ∈ own i
theorem ER.ext (er : ER G K S0 HF own σ H1 env) (s : Same H1 H2) {Dl : Addr} (hD : H1 Dl = none) (lD : NT H2 Dl) : ER G K (fun a => S0 a ∨ a = Dl) (hid (OwnS own) H2) own σ H2 env := by
  have nD : ∀ a o, H1 a = some o → a ≠ Dl := fun a o e z => by subst z; rw [hD] at e; cases e
  have key : Same (hid (SS S0 own) H1) (hid (SS (fun a => S0 a ∨ a = Dl) own) H2) := hid_mono s fun a o e z => by
    rcases z with (z | z) | z
    · exact .inl z
    · exact (nD a o e z).elim
    · exact .inr z
  refine ⟨er.len, fun i d e => ?_, fun i d e => ?_, fun i xs e => ?_, er.no, er.nd, er.inj, hid_same, fun i a z => ?_, fun i a z => ?_, fun a z => ?_⟩
  · obtain ⟨v, h1, h2⟩ := er.sh i d e
    exact ⟨v, h1, h2.mono (Le.of key)⟩
  · obtain ⟨a, h1, h2, h3⟩ := er.ow i d e
    exact ⟨a, h1, h2, h3.mono (s a) (Le.of key)⟩
  · obtain ⟨a, as, h1, h2, h3, h4, h5, h6⟩ := er.o2 i xs e
    refine ⟨a, as, h1, h2, s _ _ h3, h4, h5, fun j b ds e1 e2 => ?_⟩
    obtain ⟨vs, g1, g2, g3⟩ := h6 j b ds e1 e2
    exact ⟨vs, s _ _ g1, g2, g3.mono (Le.of key)⟩
  · unfold hid; rw [if_pos ⟨i, z⟩]
  · obtain ⟨o, e, nt⟩ := er.tr i a z; exact ⟨o, s a o e, nt⟩
  · have hn : ∀ a o, H2 a = some o → (∀ xs, o ≠ .tup xs) → ¬ OwnS own a → NT (hid (OwnS own) H2) a := fun a o e nt hn => ⟨o, hid_iff.mpr ⟨hn, e⟩, nt⟩
    rcases z with z | z
    · obtain ⟨o, e, nt⟩ := er.s0 a z
      exact hn a o (s _ _ (er.hf _ _ e)) nt fun ⟨i, w⟩ => by have := er.fr i a w; rw [e] at this; cases this
    · subst z
      obtain ⟨o, e, nt⟩ := lD
      exact hn _ o e nt fun ⟨i, w⟩ => by
        obtain ⟨o', e', _⟩ := er.tr i _ w
        rw [hD] at e'; cases e'
theorem wipe_in {σ : St} {j : Nat} : ∀ {vs : List Nat}, j ∈ vs → j < σ.length → (L2.wipe σ vs)[j]? = some none
  | [], h, _ => nomatch h
  | v :: vs, h, hl => by
    unfold L2.wipe
    by_cases e : v = j
    · subst e
      rw [List.getElem?_set_self (by rw [wipe_length]; exact hl)]
    · rw [List.getElem?_set_ne e]
      cases List.mem_cons.mp h with | inl z => exact (e z.symm).elim | inr z => exact wipe_in z hl
theorem wipe_out' {σ : St} {j : Nat} : ∀ {vs : List Nat}, j ∉ vs → (L2.wipe σ vs)[j]? = σ[j]?
  | [], _ => rfl
  | v :: vs, h => by
    simp only [List.mem_cons, not_or] at h
    unfold L2.wipe
    rw [List.getElem?_set_ne fun z => h.1 z.symm]
    exact wipe_out' h.2
theorem wipe_eq {σ σ2 : St} {vs : List Nat} (hl : σ2.length = (L2.wipe σ vs).length) (h : ∀ j, j ∉ vs → σ2[j]? = (L2.wipe σ vs)[j]?) : L2.wipe σ2 vs = L2.wipe σ vs := by
  apply List.ext_getElem?
  intro j
  have hl' : σ2.length = σ.length := by rw [hl, wipe_length]
  by_cases hj : j ∈ vs
  · by_cases hlt : j < σ.length
    · rw [wipe_in hj hlt, wipe_in hj (by rw [hl']; exact hlt)]
    · rw [List.getElem?_eq_none (by rw [wipe_length, hl']; omega), List.getElem?_eq_none (by rw [wipe_length]; omega)]
  · rw [wipe_out' hj, h j hj]
end
section
variable {c : Cfg} {G : Gc} {P : Pr} {X : Cx} {n : Nat} {W : WX}
def cF (P : Pr) (env : Env) (elt : E) (tg : Tg) (cnd : OE) (d : D) : R (Option D) := (bindT env tg d).bind fun env' => (evC P env' cnd).bind fun b => if b then (evE P env' elt).bind fun x => .ok (some x) else .ok none
theorem compL_cons {f : D → R (Option D)} {d : D} {ds xs : List D} (h : compL f (d :: ds) = .ok xs) : ∃ o r, f d = .ok o ∧ compL f ds = .ok r ∧ xs = o.toList ++ r := by
  unfold compL at h
  split at h
  · rename_i e
    exact ⟨none, xs, e, h, rfl⟩
  · rename_i x e
    split at h
    · rename_i r e2
      cases h
      exact ⟨some x, r, e, e2, rfl⟩
    · cases h
  · cases h
theorem compL_ne {f : D → R (Option D)} : ∀ {ds : List D} (c p), compL f ds ≠ .exc c p
  | [], _, _ => ok_ne
  | d :: ds, c, p => by
    unfold compL
    split
    · exact compL_ne c p
    · split <;> first | exact ok_ne | exact bad_ne
    · exact bad_ne
theorem bind_ok {α β : Type} {r : R α} {f : α → R β} {b : β} (h : r.bind f = .ok b) : ∃ a, r = .ok a ∧ f a = .ok b := by
  cases r with
  | ok a => exact ⟨a, rfl, h⟩
  | exc c p => cases h
  | bad => cases h
def tgX1 (G : Gc) (K : PySem.W.Frag) (tg : Tg) : TG := fun v σ H Q => ∃ env, tG G K env tg v σ H Q
def teX (G : Gc) (K : PySem.W.Frag) (P : Pr) (elt : E) (fe : Bool) : TE := fun σ H Q => ∃ env, tE G K W0 env (evE P env elt) fe σ H Q
def tcX (G : Gc) (K : PySem.W.Frag) (P : Pr) (cnd : OE) : TT := fun σ H Q => ∃ env, tT G K W0 env (evC P env cnd) σ H Q
theorem lc_go {elt : E} {tg : Tg} {cnd : OE} {fe : Bool} {env : Env} {S0 : Addr → Prop} {HF : Hp} {own : Nat → List Addr} {σ : St} {H H1 : Hp} {J : L2.It} {ds xs : List D} {Dl : Addr} {Q : VK}
    (er : ER G X.K S0 HF own σ H1 env) (s0 : Same H H1) (gv : Gives G.fa X.K J (hid (SS S0 own) H1) ds) (hD : H1 Dl = none) (hx : compL (cF P env elt tg cnd) ds = .ok xs)
    (q : ∀ v H', Same H H' → Pst G X.K true (SS S0 own) H H' v (.lst xs) → Q v H') :
    ∃ Wv : Nat → Nat → Hp → Prop, (∃ m, Wv 0 m (upd H1 Dl (.lst []))) ∧ ∀ i m H, Wv i m H → (J.stop i H ∧ Q (.ref Dl) H) ∨ (J.go i H ∧ ∃ Nx : Hp → Prop, (∀ H', Nx H' → ∃ m', m' < m ∧ Wv (i + 1) m' H') ∧ ∀ x H', J.yld i H x H' →
      tgX1 G X.K tg x (L2.wipe σ tg.ids) H' fun σ2 H2 => L2.wipe σ2 tg.ids = L2.wipe σ tg.ids ∧ tcX G X.K P cnd σ2 H2 fun b H3 => if b = true then teX G X.K P elt fe σ2 H3 fun y H4 => ∃ acc, H4 Dl = some (.lst acc) ∧ acc.length < sizeLine ∧ Nx (upd H4 Dl (.lst (acc ++ [y]))) else Nx H3) := by
  let Pv : Nat → Hp → Prop := fun i H2 => i ≤ ds.length ∧ Same H1 H2 ∧ ∃ acc done rest, H2 Dl = some (.lst acc) ∧ RepL G.fa X.K (hid (fun a => SS S0 own a ∨ a = Dl) H2) acc done ∧ compL (cF P env elt tg cnd) (ds.drop i) = .ok rest ∧ done ++ rest = xs ∧ done.length ≤ i
  refine ⟨fun i m H2 => m = ds.length - i ∧ Pv i H2, ⟨ds.length, rfl, Nat.zero_le _, Same.upd hD, [], [], xs, upd_same, .nil, by rw [List.drop_zero]; exact hx, rfl, Nat.le_refl _⟩, fun i m H2 ⟨hm, hi, s1, acc, done, rest, h1, h2, h3, h4, h5⟩ => ?_⟩
  have nt2 : ∀ a, (SS S0 own a ∨ a = Dl) → NT H2 a := fun a z => by
    rcases z with z | z
    · exact (er.same s1).nt a z
    · subst z; exact ⟨_, h1, fun _ z => nomatch z⟩
  have g2 := gv.2 (fun a => SS S0 own a ∨ a = Dl) H2 (hid_same.trans s1) (fun a z => by
    unfold hid
    split
    · rfl
    · rename_i q
      rcases z with z | z
      · exact (q z).elim
      · subst z; exact hD) nt2
  by_cases hlt : i < ds.length
  · right
    have ed : ds[i]? = some ds[i] := List.getElem?_eq_getElem hlt
    obtain ⟨go, yl⟩ := g2.1 i _ ed
    rw [List.drop_eq_getElem_cons hlt] at h3
    obtain ⟨o, r, f1, f2, f3⟩ := compL_cons h3
    refine ⟨go, Pv (i + 1), fun H' p => ⟨_, by omega, rfl, p⟩, fun x H3 hy => ?_⟩
    obtain ⟨s2, rx⟩ := yl x H3 hy
    obtain ⟨env', b1, b2⟩ := bind_ok f1
    obtain ⟨b, b3, b4⟩ := bind_ok b2
    have er3 := (er.ext (s1.trans s2) hD ⟨_, s2 _ _ h1, fun _ z => nomatch z⟩).wipe (bindT_own b1)
    have conv : ∀ {H5 : Hp} {v : V} {d : D}, Rep G.fa X.K (hid (SS (fun a => S0 a ∨ a = Dl) own) H5) v d → Rep G.fa X.K (hid (fun a => SS S0 own a ∨ a = Dl) H5) v d := fun {H5 v d} r => r.mono (Le.of (hid_mono (Same.refl _) fun a o _ z => by
      rcases z with (z | z) | z
      · exact .inl (.inl z)
      · exact .inr z
      · exact .inl (.inr z)))
    refine ⟨_, _, _, _, _, env', er3, rx.mono (Le.of (hid_mono (Same.refl _) fun a o _ z => by
      rcases z with (z | z) | z
      · exact .inl (.inl z)
      · exact .inr z
      · exact .inl (.inr z))), bindT_wipe b1, fun σ' er4 hl ho => ⟨wipe_eq hl ho, env', _, _, _, er4, ?_⟩⟩
    rw [b3]
    intro b' H4 s3 eb
    subst eb
    cases b' with
    | false =>
      rw [if_neg (by decide)] at b4 ⊢
      cases b4
      exact ⟨hlt, s1.trans (s2.trans s3), acc, done, r, s3 _ _ (s2 _ _ h1), h2.mono (Le.of (hid_mono (s2.trans s3) fun _ _ _ z => z)), f2, by rw [← h4, f3]; rfl, by omega⟩
    | true =>
      rw [if_pos rfl] at b4 ⊢
      obtain ⟨y0, b5, b6⟩ := bind_ok b4
      cases b6
      refine ⟨env', _, _, _, er4.same s3, ?_⟩
      rw [b5]
      intro y H5 s4 py
      have ry := conv (py.rep (er4.same s3).nt)
      have hl2 : acc.length = done.length := h2.length
      refine ⟨acc, s4 _ _ (s3 _ _ (s2 _ _ h1)), by have := gv.1; omega, hlt, ?_, acc ++ [y], done ++ [y0], r, upd_same, ?_, f2, by rw [← h4, f3]; simp, by simp; omega⟩
      · intro a u e
        have ne : a ≠ Dl := fun z => by subst z; rw [hD] at e; cases e
        rw [upd_ne ne]
        exact s4 _ _ (s3 _ _ (s2 _ _ (s1 _ _ e)))
      · rw [hid_upd (S := fun a => SS S0 own a ∨ a = Dl) (.inr rfl)]
        exact (h2.mono (Le.of (hid_mono (s2.trans (s3.trans s4)) fun _ _ _ z => z))).append (.cons ry .nil)
  · left
    have ei : i = ds.length := by omega
    subst ei
    rw [List.drop_length] at h3
    cases h3
    rw [List.append_nil] at h4
    subst h4
    refine ⟨g2.2, q _ _ (s0.trans s1) ⟨Dl, rfl, none_of s0 hD, .inl ⟨acc, done, rfl, h1, ?_, h2⟩⟩⟩
    rw [h2.length]
    exact Nat.le_trans h5 gv.1
theorem comp_read {elt : E} {tg : Tg} {it : Pu.It} {cnd : OE} {fe : Bool} {env : Env} {σ : St} {H : Hp} {Q : VK} (h : tE G X.K W env (evE P env (.comp elt tg it cnd)) true σ H Q) :
    tLc (tI G X.K W env (evI P env it)) (tgX1 G X.K tg) (tcX G X.K P cnd) (teX G X.K P elt fe) tg.ids σ H Q := by
  obtain ⟨S0, HF, own, er, q⟩ := h
  rw [evE] at q
  refine ⟨S0, HF, own, er, ?_⟩
  cases e1 : evI P env it with
  | exc c p => rw [e1] at q; exact q
  | bad => rw [e1] at q; exact q.elim
  | ok ds =>
    rw [e1, R.bind_ok] at q
    cases e2 : compL (cF P env elt tg cnd) ds with
    | exc c p => exact (compL_ne c p e2).elim
    | bad => 
      have : compL (fun d => (bindT env tg d).bind fun env' => (evC P env' cnd).bind fun b => if b then (evE P env' elt).bind fun x => R.ok (some x) else R.ok none) ds = .bad := e2
      rw [this] at q; exact q.elim
    | ok xs =>
      have : compL (fun d => (bindT env tg d).bind fun env' => (evC P env' cnd).bind fun b => if b then (evE P env' elt).bind fun x => R.ok (some x) else R.ok none) ds = .ok xs := e2
      rw [this, R.bind_ok] at q
      intro J H1 s1 gv Dl hD
      exact lc_go (er.same s1) s1 gv hD e2 q
structure CompOk (G : Gc) (P : Pr) (X : Cx) (elt : E) (tg : Tg) (cnd : OE) (fe : Bool) (xe xt : Expr) (ifs : List Expr) (scope : Scope) (own' : List (Str × Nat)) : Prop where
  hb : BlkOk X.N X.env.scope scope own'
  ho : own'.map (·.2) = tg.ids
  hg : ∀ s H C cl fp env, PG (X.blk s H scope (compEnvC scope cl C X.env) fp) xt (tG G X.K env tg)
  hc : ∀ s H C cl fp env, PTs (X.blk s H scope (compEnvC scope cl C X.env) fp) ifs (tT G X.K W0 env (evC P env cnd))
  he : ∀ s H C cl fp env, PE (X.blk s H scope (compEnvC scope cl C X.env) fp) xe (tE G X.K W0 env (evE P env elt) fe)
section
variable {elt : E} {tg : Tg} {cnd : OE} {fe : Bool} {xe xt : Expr} {ifs : List Expr} {scope : Scope} {own' : List (Str × Nat)}
theorem CompOk.rg (h : CompOk G P X elt tg cnd fe xe xt ifs scope own') (s H C cl fp) : PG (X.blk s H scope (compEnvC scope cl C X.env) fp) xt (tgX1 G X.K tg) := ⟨fun pins s' σ H' v u Q I r ⟨env, q⟩ => (h.hg s H C cl fp env).run pins s' σ H' v u Q I r q⟩
theorem CompOk.rc (h : CompOk G P X elt tg cnd fe xe xt ifs scope own') (s H C cl fp) : PTs (X.blk s H scope (compEnvC scope cl C X.env) fp) ifs (tcX G X.K P cnd) := ⟨fun pins s' σ H' Q I ⟨env, q⟩ => (h.hc s H C cl fp env).run pins s' σ H' Q I q⟩
theorem CompOk.re (h : CompOk G P X elt tg cnd fe xe xt ifs scope own') (s H C cl fp) : PE (X.blk s H scope (compEnvC scope cl C X.env) fp) xe (teX G X.K P elt fe) := ⟨fun pins s' σ H' Q I ⟨env, q⟩ => (h.he s H C cl fp env).run pins s' σ H' Q I q⟩
theorem L_comp (ok : Cok c G P X n) {it : Pu.It} {env : Env} {xi : Expr} {pos : Pos} (hpi : PI X xt xi (tI G X.K W env (evI P env it))) (h : CompOk G P X elt tg cnd fe xe xt ifs scope own') (hx : plainX xi = true) :
    PE X (.ListComp xe [⟨xt, xi, ifs, 0⟩] scope pos) (tE G X.K W env (evE P env (.comp elt tg it cnd)) true) := by
  refine PE.imp (pe_lc (g := tgX1 G X.K tg) (tt := tcX G X.K P cnd) (te := teX G X.K P elt fe) ok.calm ok.nd hpi h.hb h.rg h.rc h.re (fold_of hx)) fun σ H Q q => ?_
  rw [h.ho]
  exact comp_read q
theorem L_compS (ok : Cok c G P X n) {it : Pu.It} {env : Env} {xi : Expr} {pos spos py : Pos} {i : Nat} {y : Str} (hi : X.N[i]? = some y) (hl : X.env.scope.names.lookup y = some .local) (hpi : PI X xt xi (tI G X.K W env (evI P env it))) (h : CompOk G P X elt tg cnd fe xe xt ifs scope own') (hx : plainX xi = true)
    (hs : swapsWith (.ListComp xe [⟨xt, xi, ifs, 0⟩] scope pos) (some (.Name y py)) spos.line X.env = pure true) :
    PS X (.Assign [.Name y py] (.ListComp xe [⟨xt, xi, ifs, 0⟩] scope pos) spos) (tAsg (tE G X.K W env (evE P env (.comp elt tg it cnd)) true) (gName i)) := by
  refine PS.imp (ps_setLc (g := tgX1 G X.K tg) (tt := tcX G X.K P cnd) (te := teX G X.K P elt fe) ok.calm ok.nd hi hl hs hpi h.hb h.rg h.rc h.re (fold_of hx)) fun D σ H q => ?_
  rw [h.ho]
  exact comp_read q
end
end
end Pu
end
section
set_option maxRecDepth 100000
set_option maxHeartbeats 1000000
namespace Pu
open PySem PySem.Spec L2
section
variable {G : Gc} {K : PySem.W.Frag} {S0 : Addr → Prop} {HF : Hp} {own : Nat → List Addr} {σ : St} {H H1 H2 : Hp} {env env' : Env}
theorem le_frz {a : Addr} {u : HO} {od : Obj} {S : Addr → Prop} (h : H a = some u) (hu : isDct (cont u) = true) (hu' : cont (.frz od u) = cont u) : Le (hid S H) (hid S (upd H a (.frz od u))) := fun b o e => by
  obtain ⟨n, e⟩ := hid_iff.mp e
  by_cases q : b = a
  · subst q
    rw [h] at e
    cases e
    exact .inr ⟨hu, _, hid_iff.mpr ⟨n, upd_same⟩, hu'⟩
  · exact .inl (hid_iff.mpr ⟨n, by rw [upd_ne q]; exact e⟩)
theorem le_unfrz {a : Addr} {u : HO} {od : Obj} {S : Addr → Prop} (h : H a = some (.frz od u)) (hu : isDct (cont u) = true) (hu' : cont (.frz od u) = cont u) : Le (hid S H) (hid S (upd H a u)) := fun b o e => by
  obtain ⟨n, e⟩ := hid_iff.mp e
  by_cases q : b = a
  · subst q
    rw [h] at e
    cases e
    exact .inr ⟨by rw [hu']; exact hu, _, hid_iff.mpr ⟨n, upd_same⟩, hu'.symm⟩
  · exact .inl (hid_iff.mpr ⟨n, by rw [upd_ne q]; exact e⟩)
theorem ER.swap (er : ER G K S0 HF own σ H env) {a : Addr} {o' : HO} (na : ¬ SS S0 own a) (l : ∀ S, ¬ S a → Le (hid S H) (hid S (upd H a o'))) :
    ER G K S0 (hid (OwnS own) (upd H a o')) own σ (upd H a o') env := by
  have ne : ∀ b, SS S0 own b → b ≠ a := fun b z e => na (e ▸ z)
  refine ⟨er.len, fun i d e => ?_, fun i d e => ?_, fun i xs e => ?_, er.no, er.nd, er.inj, hid_same, fun i b z => ?_, fun i b z => ?_, fun b z => ?_⟩
  · obtain ⟨v, h1, h2⟩ := er.sh i d e
    exact ⟨v, h1, h2.mono (l _ na)⟩
  · obtain ⟨b, h1, h2, h3⟩ := er.ow i d e
    exact ⟨b, h1, h2, h3.mono (fun o e => by rw [upd_ne (ne b (.inr ⟨i, by rw [h1]; exact List.mem_cons_self⟩))]; exact e) (l _ na)⟩
  · obtain ⟨b, as, h1, h2, h3, h4, h5, h6⟩ := er.o2 i xs e
    refine ⟨b, as, h1, h2, by rw [upd_ne (ne b (.inr ⟨i, by rw [h1]; exact List.mem_cons_self⟩))]; exact h3, h4, h5, fun j b' ds e1 e2 => ?_⟩
    obtain ⟨vs, g1, g2, g3⟩ := h6 j b' ds e1 e2
    exact ⟨vs, by rw [upd_ne (ne b' (.inr ⟨i, by rw [h1]; exact List.mem_cons_of_mem _ (List.mem_of_getElem? e1)⟩))]; exact g1, g2, g3.mono (l _ na)⟩
  · unfold hid; rw [if_pos ⟨i, z⟩]
  · obtain ⟨o, e, nt⟩ := er.tr i b z
    exact ⟨o, by rw [upd_ne (ne b (.inr ⟨i, z⟩))]; exact e, nt⟩
  · obtain ⟨o, e, nt⟩ := er.s0 b z
    exact ⟨o, hid_iff.mpr ⟨fun ⟨i, w⟩ => (by have := er.fr i b w; rw [e] at this; cases this), by rw [upd_ne (ne b (.inl z))]; exact er.hf _ _ e⟩, nt⟩
theorem gives_keys {t : Bool} {a : Addr} {o : Obj} {kvs : List (List Key × D)} {S : Addr → Prop} :
    (∀ kv0, H a = some (.frz o (.dK kv0)) → ¬ S a → kv0.length ≤ sizeLine → RepKV G.fa K (hid S H) (wrap kv0) kvs → Gives G.fa K (Itk a o kv0) (hid S H) (kvs.map fun kv => keyD false kv.1)) ∧
    (∀ kv0, H a = some (.frz o (.dT kv0)) → ¬ S a → kv0.length ≤ sizeLine → RepKV G.fa K (hid S H) kv0 kvs → (∀ p ∈ kv0, p.1.length ≤ sizeLine) → Gives G.fa K (Itkt a o kv0) (hid S H) (kvs.map fun kv => keyD true kv.1)) := by
  refine ⟨fun kv0 h na hz r => ?_, fun kv0 h na hz r hk => ?_⟩
  · have hl := r.length
    rw [List.length_map] at hl
    refine ⟨by rw [List.length_map, ← hl]; exact hz, fun S' H' s hs hn => ?_⟩
    have h' : H' a = some (.frz o (.dK kv0)) := s _ _ (hid_iff.mpr ⟨na, h⟩)
    refine ⟨fun i d e => ?_, h', by rw [List.length_map, hl]; exact Nat.le_refl _⟩
    have hi : i < kv0.length := by have := (List.getElem?_eq_some_iff.mp e).1; rw [List.length_map] at this; omega
    refine ⟨⟨h', hi⟩, fun x H2 ⟨e2, k, v, e3, e4⟩ => ?_⟩
    subst e2; subst e4
    have ek := r.keys
    have e5 : (kvs.map (·.1))[i]? = some [k] := by
      rw [← ek, List.map_map, List.getElem?_map, e3]; rfl
    have e6 : (kvs.map fun kv => keyD false kv.1) = (kvs.map (·.1)).map (keyD false) := by rw [List.map_map]; rfl
    rw [e6, List.getElem?_map, e5] at e
    cases e
    exact ⟨Same.refl _, rep_key k⟩
  · have hl := r.length
    refine ⟨by rw [List.length_map, ← hl]; exact hz, fun S' H' s hs hn => ?_⟩
    have h' : H' a = some (.frz o (.dT kv0)) := s _ _ (hid_iff.mpr ⟨na, h⟩)
    refine ⟨fun i d e => ?_, h', by rw [List.length_map, hl]; exact Nat.le_refl _⟩
    have hi : i < kv0.length := by have := (List.getElem?_eq_some_iff.mp e).1; rw [List.length_map] at this; omega
    refine ⟨⟨h', hi⟩, fun x H2 ⟨e2, k, v, q, e3, e4, e7⟩ => ?_⟩
    subst e2; subst e4
    have ek := r.keys
    have e5 : (kvs.map (·.1))[i]? = some k := by
      rw [← ek, List.getElem?_map, e3]; rfl
    have e6 : (kvs.map fun kv => keyD true kv.1) = (kvs.map (·.1)).map (keyD true) := by rw [List.map_map]; rfl
    rw [e6, List.getElem?_map, e5] at e
    cases e
    refine ⟨Same.refl _, .tup (hid_iff.mpr ⟨fun z => ?_, e7⟩) ?_ (rep_keys k)⟩
    · obtain ⟨o', e8, nt⟩ := hn _ z
      rw [e7] at e8
      exact nt _ (Option.some.inj e8).symm
    · rw [List.length_map]
      exact hk _ (List.mem_of_getElem? e3)
end
section
variable {c : Cfg} {G : Gc} {P : Pr} {X : Cx} {n : Nat} {W : WX}
theorem compK_read {elt : E} {tg : Tg} {i : Nat} {cnd : OE} {fe : Bool} {env : Env} {σ : St} {H : Hp} {Q : VK} (h : tE G X.K W env (evE P env (.comp elt tg (.keys i) cnd)) true σ H Q) :
    tLockE (tLc (iKeys (tVar i)) (tgX1 G X.K tg) (tcX G X.K P cnd) (teX G X.K P elt fe) tg.ids) σ H Q ∨ tLc (iKeys (tVar i)) (tgX1 G X.K tg) (tcX G X.K P cnd) (teX G X.K P elt fe) tg.ids σ H Q := by
  generalize htl : tLc (iKeys (tVar i)) (tgX1 G X.K tg) (tcX G X.K P cnd) (teX G X.K P elt fe) tg.ids = tl
  obtain ⟨S0, HF, own, er, q⟩ := h
  rw [evE, evI] at q
  unfold getE at q
  split at q
  case h_2 => exact q.elim
  rename_i d ed
  obtain ⟨v, e1, r⟩ := er.sh i d ed
  rw [R.bind_ok] at q
  cases d with
  | dct t kvs =>
    simp only [keysD, R.bind_ok] at q
    have go : ∀ ds xs, compL (cF P env elt tg cnd) ds = .ok xs → RT G W σ H ((compL (fun d => (bindT env tg d).bind fun env' => (evC P env' cnd).bind fun b => if b then (evE P env' elt).bind fun x => R.ok (some x) else R.ok none) ds).bind fun xs => .ok (.lst xs)) (fun v H' d => Pst G X.K true (SS S0 own) H H' v d) Q → ∀ v H', Same H H' → Pst G X.K true (SS S0 own) H H' v (.lst xs) → Q v H' := fun ds xs e q => by
      have : compL (fun d => (bindT env tg d).bind fun env' => (evC P env' cnd).bind fun b => if b then (evE P env' elt).bind fun x => R.ok (some x) else R.ok none) ds = .ok xs := e
      rw [this, R.bind_ok] at q
      exact q
    cases e2 : compL (cF P env elt tg cnd) (kvs.map fun kv => keyD t kv.1) with
    | exc c p => exact (compL_ne c p e2).elim
    | bad =>
      have : compL (fun d => (bindT env tg d).bind fun env' => (evC P env' cnd).bind fun b => if b then (evE P env' elt).bind fun x => R.ok (some x) else R.ok none) (kvs.map fun kv => keyD t kv.1) = .bad := e2
      rw [this] at q; exact q.elim
    | ok xs =>
      have q := go _ _ e2 q
      have core : ∀ (a : Addr) (o : Obj) (u : HO) (H0 : Hp) (HF0 : Hp) (Q0 : VK), v = .ref a → ER G X.K S0 HF0 own σ H0 env → H0 a = some (.frz o u) → ¬ SS S0 own a →
          ((∃ kv0, t = false ∧ u = .dK kv0 ∧ kv0.length ≤ sizeLine ∧ RepKV G.fa X.K (hid (SS S0 own) H0) (wrap kv0) kvs) ∨ (∃ kv0, t = true ∧ u = .dT kv0 ∧ kv0.length ≤ sizeLine ∧ RepKV G.fa X.K (hid (SS S0 own) H0) kv0 kvs ∧ ∀ p ∈ kv0, p.1.length ≤ sizeLine)) →
          (∀ v H', Same H0 H' → Pst G X.K true (SS S0 own) H0 H' v (.lst xs) → Q0 v H') →
          tl σ H0 Q0 := fun a o u H0 HF0 Q0 ev er0 h0 na hu q0 => by
        subst ev
        rw [← htl]
        refine ⟨_, e1, a, o, rfl, ?_⟩
        rcases hu with ⟨kv0, rfl, rfl, hz, rk⟩ | ⟨kv0, rfl, rfl, hz, rk, hk⟩
        · exact .inl ⟨kv0, h0, fun Dl hD => lc_go er0 (Same.refl _) ((gives_keys (t := false)).1 kv0 h0 na hz rk) hD e2 q0⟩
        · exact .inr ⟨kv0, h0, fun Dl hD => lc_go er0 (Same.refl _) ((gives_keys (t := true)).2 kv0 h0 na hz rk hk) hD e2 q0⟩
      have fin : ∀ (a : Addr) (u : HO), v = .ref a → Rd (hid (SS S0 own) H) a u → isDct (cont u) = true → (∀ od, cont (.frz od u) = cont u) → Mut (some u) →
          ((∃ kv0, t = false ∧ u = .dK kv0 ∧ kv0.length ≤ sizeLine ∧ RepKV G.fa X.K (hid (SS S0 own) H) (wrap kv0) kvs) ∨ (∃ kv0, t = true ∧ u = .dT kv0 ∧ kv0.length ≤ sizeLine ∧ RepKV G.fa X.K (hid (SS S0 own) H) kv0 kvs ∧ ∀ p ∈ kv0, p.1.length ≤ sizeLine)) →
          tLockE tl σ H Q ∨ tl σ H Q := fun a u ev rd du cu mu hu => by
        rcases rd with rd | ⟨o, rd⟩
        · obtain ⟨na, ha⟩ := hid_iff.mp rd
          refine .inl ⟨a, u, ha, mu, fun od => ?_⟩
          have lf := fun S (_ : ¬ S a) => le_frz (S := S) (od := od) ha du (cu od)
          refine core a od u _ _ _ ev (er.swap na lf) upd_same na ?_ fun v2 H' s2 p2 => ?_
          · rcases hu with ⟨kv0, h1, h2, h3, h4⟩ | ⟨kv0, h1, h2, h3, h4, h5⟩
            · exact .inl ⟨kv0, h1, h2, h3, h4.mono (lf _ na)⟩
            · exact .inr ⟨kv0, h1, h2, h3, h4.mono (lf _ na), h5⟩
          · have ha' : H' a = some (.frz od u) := s2 _ _ upd_same
            refine ⟨ha', q v2 _ (fun b w e => ?_) ?_⟩
            · by_cases z : b = a
              · subst z; rw [upd_same]; rw [ha] at e; exact e
              · rw [upd_ne z]; exact s2 _ _ (by rw [upd_ne z]; exact e)
            · obtain ⟨p, h1, h2, h3⟩ := p2
              have np : p ≠ a := fun z => by subst z; rw [upd_same] at h2; cases h2
              refine ⟨p, h1, by rw [upd_ne np] at h2; exact h2, h3.mono (fun o e => by rw [upd_ne np]; exact e) (le_unfrz ha' du (cu od))⟩
        · obtain ⟨na, ha⟩ := hid_iff.mp rd
          exact .inr (core a o u H HF Q ev er ha na hu q)
      cases r with
      | @dK a kv0 _ hr hz rk => exact fin a _ rfl hr rfl (fun _ => rfl) trivial (.inl ⟨kv0, rfl, rfl, hz, rk⟩)
      | @dT a kv0 _ hr hz rk hk => exact fin a _ rfl hr rfl (fun _ => rfl) trivial (.inr ⟨kv0, rfl, rfl, hz, rk, hk⟩)
  | _ => exact q.elim
section
variable {elt : E} {tg : Tg} {cnd : OE} {fe : Bool} {xe xt : Expr} {ifs : List Expr} {scope : Scope} {own' : List (Str × Nat)}
theorem L_compK (ok : Cok c G P X n) {i : Nat} {env : Env} {y : Str} {py pos : Pos} (hi : X.N[i]? = some y) (hv : visB X.env.scope y = true) (h : CompOk G P X elt tg cnd fe xe xt ifs scope own') :
    PE X (.ListComp xe [⟨xt, .Name y py, ifs, 0⟩] scope pos) (tE G X.K W env (evE P env (.comp elt tg (.keys i) cnd)) true) := by
  have base := pe_lc (pos := pos) (g := tgX1 G X.K tg) (tt := tcX G X.K P cnd) (te := teX G X.K P elt fe) ok.calm ok.nd (pi_keys (pe_var (pos := py) hi (vis_of hv).1 (vis_of hv).2.1 (vis_of hv).2.2)) h.hb h.rg h.rc h.re (fold_of rfl)
  rw [h.ho] at base
  exact ⟨fun pins s σ H Q I q => (compK_read q).elim (fun q => (pe_lock base).run pins s σ H Q I q) (fun q => base.run pins s σ H Q I q)⟩
theorem L_compKS (ok : Cok c G P X n) {j i : Nat} {env : Env} {y z : Str} {py pz pos spos : Pos} (hj : X.N[j]? = some z) (hl : X.env.scope.names.lookup z = some .local) (hi : X.N[i]? = some y) (hv : visB X.env.scope y = true) (h : CompOk G P X elt tg cnd fe xe xt ifs scope own')
    (hs : swapsWith (.ListComp xe [⟨xt, .Name y py, ifs, 0⟩] scope pos) (some (.Name z pz)) spos.line X.env = pure true) :
    PS X (.Assign [.Name z pz] (.ListComp xe [⟨xt, .Name y py, ifs, 0⟩] scope pos) spos) (tAsg (tE G X.K W env (evE P env (.comp elt tg (.keys i) cnd)) true) (gName j)) := by
  have base := ps_setLc (g := tgX1 G X.K tg) (tt := tcX G X.K P cnd) (te := teX G X.K P elt fe) ok.calm ok.nd hj hl hs (pi_keys (pe_var (pos := py) hi (vis_of hv).1 (vis_of hv).2.1 (vis_of hv).2.2)) h.hb h.rg h.rc h.re (fold_of rfl)
  rw [h.ho] at base
  exact ⟨fun pins s σ H D I q => (compK_read q).elim (fun q => (ps_lock base).run pins s σ H D I q) (fun q => base.run pins s σ H D I q)⟩
end
theorem L_seq {e : E} {x tg : Expr} {env : Env} {fa : Bool} (h : PE X x (tE G X.K W env (evE P env e) fa)) : PI X tg x (tI G X.K W env (evI P env (.seq e))) := by
  have none : ∀ {t : TI}, (∀ d, evE P env e = .ok d → seqD d = .bad) → (∀ c p, evE P env e ≠ .exc c p) → PI X tg x (tI G X.K W env (evI P env (.seq e))) := fun k1 k2 => ⟨fun pins s σ H Q I ⟨S0, HF, own, er, q⟩ => by
    rw [evI] at q
    exfalso
    cases e1 : evE P env e with
    | ok d => rw [e1, R.bind_ok, k1 d e1] at q; exact q
    | exc c p => exact k2 c p e1
    | bad => rw [e1] at q; exact q⟩
  cases e1 : evE P env e with
  | exc c p =>
    rw [e1] at h
    refine PI.imp (pi_list h) fun σ H Q ⟨S0, HF, own, er, q⟩ => ⟨S0, HF, own, er, ?_⟩
    rw [evI, e1] at q
    exact q
  | bad => exact none (t := fun _ _ _ => True) (fun d z => by rw [e1] at z; cases z) (fun c p z => by rw [e1] at z; cases z)
  | ok d =>
    have none' : seqD d = .bad → PI X tg x (tI G X.K W env (evI P env (.seq e))) := fun z => none (t := fun _ _ _ => True) (fun d' z' => by rw [e1] at z'; cases z'; exact z) (fun c p z => by rw [e1] at z; cases z)
    rw [e1] at h
    cases d with
    | lst ds =>
      refine PI.imp (pi_list h) fun σ H Q ⟨S0, HF, own, er, q⟩ => ⟨S0, HF, own, er, fun v H1 s1 p1 => ?_⟩
      rw [evI, e1] at q
      have r1 := p1.rep er.nt
      cases r1 with | @lst a vs _ h1 h2 h3 => ?_
      exact ⟨a, rfl, ⟨vs, SqL.of (hid_same _ _ h1)⟩, q _ H1 s1 (gives_list (.lst h1 h2 h3))⟩
    | tup ds =>
      refine PI.imp (pi_tup h) fun σ H Q ⟨S0, HF, own, er, q⟩ => ⟨S0, HF, own, er, fun v H1 s1 p1 => ?_⟩
      rw [evI, e1] at q
      have r1 := p1.rep er.nt
      cases r1 with | @tup a vs _ h1 h2 h3 => ?_
      exact ⟨a, rfl, ⟨vs, SqT.of (hid_same _ _ h1)⟩, q _ H1 s1 (gives_tup (.tup h1 h2 h3))⟩
    | str z =>
      refine PI.imp (pi_str h) fun σ H Q ⟨S0, HF, own, er, q⟩ => ⟨S0, HF, own, er, fun v H1 s1 p1 => ?_⟩
      rw [evI, e1, R.bind_ok] at q
      simp only [seqD] at q
      split at q
      · rename_i hz
        have r1 := p1.rep er.nt
        cases r1
        exact ⟨z, rfl, q _ H1 s1 (gives_str hz)⟩
      · exact q.elim
    | non => exact none' rfl
    | bl _ => exact none' rfl
    | int _ => exact none' rfl
    | fn _ => exact none' rfl
    | scr _ => exact none' rfl
    | dct _ _ => exact none' rfl
theorem rng_name : (Str.ofString "range" : Str) = Str.ofString "range" := rfl
theorem L_rng1 (ok : Cok c G P X n) {a : E} {x tg : Expr} {p pos : Pos} {env : Env} {fa : Bool} (hm : ("range" : Str) ∈ c.bis) (hg : glB X.env.scope "range" = true) (h : PE X x (tE G X.K W env (evE P env a) fa)) (hx : plainX x = true) :
    PI X tg (.Call (.Name "range" p) [x] [] pos) (tI G X.K W env (evI P env (.rng1 a))) :=
  PI.imp (pi_range1 (gl_of hg).1 (ok.bi _ hm) (pa_cons h pa_nil (star_of hx)) (star_of hx)) fun σ H Q ⟨S0, HF, own, er, q⟩ => by
    rw [evI] at q
    exact ⟨S0, HF, own, er, RT.step er q fun v d H1 e1 s1 r1 _ er1 q1 => by
      cases d with
      | int i =>
        cases r1
        simp only at q1
        split at q1
        · rename_i hz
          have hz' := hz
          simp only [okR, decide_eq_true_eq] at hz'
          have hz2 : okR 0 i = true := by simp only [okR, decide_eq_true_eq]; omega
          have gv := gives_rng (G := G) (K := X.K) (H := hid (SS S0 own) H1) hz2
          rw [Int.sub_zero] at gv
          exact ⟨i, rfl, by omega, by omega, RT.ok q1 gv⟩
        · exact q1.elim
      | _ => exact q1.elim⟩
theorem L_rng2 (ok : Cok c G P X n) {a b : E} {x y tg : Expr} {p pos : Pos} {env : Env} {fa fb : Bool} (hm : ("range" : Str) ∈ c.bis) (hg : glB X.env.scope "range" = true) (h : PE X x (tE G X.K W env (evE P env a) fa)) (h' : PE X y (tE G X.K W env (evE P env b) fb)) (hx : plainX x = true) (hy : plainX y = true) :
    PI X tg (.Call (.Name "range" p) [x, y] [] pos) (tI G X.K W env (evI P env (.rng2 a b))) :=
  PI.imp (pi_range2 (gl_of hg).1 (ok.bi _ hm) (pa_cons h (pa_cons h' pa_nil (star_of hy)) (star_of hx)) (by rw [star_of hx, star_of hy]; rfl) (star_of hy)) fun σ H Q ⟨S0, HF, own, er, q⟩ => by
    rw [evI] at q
    exact ⟨S0, HF, own, er, RT.step er q fun v d H1 e1 s1 r1 _ er1 q1 => ⟨S0, HF, own, er1, RT.step er1 q1 fun w d2 H2 e2 s2 r2 _ er2 q2 => by
      cases d with
      | int i =>
        cases d2 with
        | int j =>
          cases r1; cases r2
          simp only at q2
          split at q2
          · rename_i hz
            have gv := gives_rng (G := G) (K := X.K) (H := hid (SS S0 own) H2) hz
            simp only [okR, decide_eq_true_eq] at hz
            exact ⟨i, j, rfl, ⟨by omega, by omega, by omega, by omega⟩, RT.ok q2 gv⟩
          · exact q2.elim
        | _ => exact q2.elim
      | _ => exact q2.elim⟩⟩
theorem L_rngd (ok : Cok c G P X n) {a b : E} {x y tg : Expr} {k : Nat} {p1 p2 p pos : Pos} {env : Env} {fa fb : Bool} (hm : ("range" : Str) ∈ c.bis) (hg : glB X.env.scope "range" = true) (h : PE X x (tE G X.K W env (evE P env a) fa)) (h' : PE X y (tE G X.K W env (evE P env b) fb)) (hx : plainX x = true) (hy : plainX y = true) :
    PI X tg (.Call (.Name "range" p) [x, y, .UnaryOp .USub (.Constant (.int 1) k p1) p2] [] pos) (tI G X.K W env (evI P env (.rngd a b))) :=
  PI.imp (pi_range3 (gl_of hg).1 (ok.bi _ hm) (pa_cons h (pa_cons h' (pa_cons (pe_un un_neg pe_int) pa_nil rfl) (star_of hy)) (star_of hx)) (star_of hx) (star_none (es := [y, _]) (by rw [List.all_cons, hy]; rfl) pos)) fun σ H Q ⟨S0, HF, own, er, q⟩ => by
    rw [evI] at q
    exact ⟨S0, HF, own, er, RT.step er q fun v d H1 e1 s1 r1 _ er1 q1 => ⟨S0, HF, own, er1, RT.step er1 q1 fun w d2 H2 e2 s2 r2 _ er2 q2 => by
      cases d with
      | int i =>
        cases d2 with
        | int j =>
          cases r1; cases r2
          simp only at q2
          split at q2
          · rename_i hz
            have gv := gives_rngd (G := G) (K := X.K) (H := hid (SS S0 own) H2) hz
            simp only [okR, decide_eq_true_eq] at hz
            exact ⟨1, rfl, i, j, -1, _, rfl, RgC.neg (by omega) (by omega) (by omega) (by omega), RT.ok q2 gv⟩
          · exact q2.elim
        | _ => exact q2.elim
      | _ => exact q2.elim⟩⟩
theorem L_enm (ok : Cok c G P X n) {a : E} {x : Expr} {p pos tpos : Pos} {elts : List Expr} {kk : Nat} {env : Env} {fa : Bool} (hm : ("enumerate" : Str) ∈ c.bis) (hg : glB X.env.scope "enumerate" = true) (h : PE X x (tE G X.K W env (evE P env a) fa)) (hx : plainX x = true)
    (nt : ∀ ds, evE P env a ≠ .ok (.tup ds)) :
    PI X (.Tuple elts kk tpos) (.Call (.Name "enumerate" p) [x] [] pos) (tI G X.K W env (evI P env (.enm a))) :=
  PI.imp (pi_enum (gl_of hg).1 (ok.bi _ hm) (pa_cons h pa_nil (star_of hx)) (star_of hx)) fun σ H Q ⟨S0, HF, own, er, q⟩ => by
    rw [evI] at q
    exact ⟨S0, HF, own, er, RT.step er q fun v d H1 e1 s1 r1 _ er1 q1 => by
      cases d with
      | lst ds =>
        cases r1 with | @lst a vs _ h1 h2 h3 => ?_
        exact ⟨a, vs, rfl, SqL.of (hid_same _ _ h1), RT.ok q1 (gives_enum (.lst h1 h2 h3))⟩
      | tup ds => exact (nt ds e1).elim
      | _ => exact q1.elim⟩
end
end Pu
end
section
set_option maxRecDepth 100000
set_option maxHeartbeats 1000000
namespace Pu
open PySem PySem.Spec L2
def IteT (K : PySem.W.Frag) (a : Addr) : L2.It where
  go i H := ∃ xs x, SqT K H a xs ∧ xs[i]? = some x
  yld i H v H' := ∃ T x, v = .ref T ∧ H T = none ∧ H' = upd H T (.tup [.int (i : Nat), x]) ∧ ∀ xs, SqT K H a xs → xs[i]? = some x
  stop i H := ∃ xs, SqT K H a xs ∧ xs.length = i
def AtT (a e it : Addr) (i : Nat) (h : Heap) : Prop := (∃ old, IsEnum h e it ((i : Nat) : Int) old) ∧ h.IsTupleIter it a i ∧ e ≠ it
theorem AtT.low {a e it : Addr} {i : Nat} {h : Heap} (t : AtT a e it i h) : ∀ b ∈ [e, it], b < h.objs.size := fun b m => by
  obtain ⟨⟨_, q⟩, ⟨_, r, _⟩, _⟩ := t
  simp only [List.mem_cons, List.not_mem_nil, or_false] at m
  cases m with
  | inl z => subst z; exact Heap.lt_size q
  | inr z => subst z; exact Heap.lt_size r
theorem AtT.off {a e it : Addr} {i : Nat} {h : Heap} {its : Array Value} (t : AtT a e it i h) (p : h.IsTuple a its) : a ∉ [e, it] := fun m => by
  obtain ⟨⟨_, q⟩, ⟨_, r, rc, _⟩, _⟩ := t
  obtain ⟨_, u, uc, _⟩ := p
  simp only [List.mem_cons, List.not_mem_nil, or_false] at m
  cases m with
  | inl z =>
    subst z
    cases q.symm.trans u
    exact absurd (Value.type.inj uc) (by decide)
  | inr z =>
    subst z
    cases r.symm.trans u
    exact absurd (Value.type.inj (rc.symm.trans uc)) (by decide)
theorem walkT {P : Program} {w : World} {A : Around} {a e it : Addr} {i : Nat} {h : Heap} {its : Array Value} (hh : A.handled = none) (t : AtT a e it i h) (p : h.IsTuple a its) :
    ∃ S M, WalksT P w A e [e, it, a] [e, it] its.size (fun i vs => ∃ tk x, its[i]? = some x ∧ vs = #[.int i tk, x]) S M ∧ (∀ j h, AtT a e it j h → h.IsTuple a its → S j h) ∧ ∀ j h, S j h → AtT a e it j h := by
  have o := t.off p
  simp only [List.mem_cons, List.not_mem_nil, or_false, not_or] at o
  refine ⟨_, _, WalksT.enumerateD (Draws.tuple (A := A.in1) hh it a o.2 its) e t.2.2 (by simpa using ⟨t.2.2, Ne.symm o.1⟩) (by simp), fun j h u v => ⟨u.1, u.2.1, v⟩, fun j h u => ⟨u.1, u.2.1, t.2.2⟩⟩
theorem turn_enumT {P : Program} {w : World} {K : PySem.W.Frag} {elts : List Expr} {kk : Nat} {tpos : Pos} (a e it : Addr) : Turn P w K (.Tuple elts kk tpos) (IteT K a) [e, it] e (AtT a e it) where
  mem := List.mem_cons_self ..
  obj i h t b m := by
    obtain ⟨⟨_, q⟩, ⟨o, r, _, rd⟩, _⟩ := t
    simp only [List.mem_cons, List.not_mem_nil, or_false] at m
    cases m with
    | inl z => subst z; exact ⟨_, q, fun _ => Data.noConfusion⟩
    | inr z => subst z; exact ⟨o, r, fun _ y => by rw [rd] at y; exact Data.noConfusion y⟩
  keep i h h' t k := ⟨t.1.imp fun _ q => k e (by simp) _ q, t.2.1.at fun o q => k it (by simp) o q, t.2.2⟩
  item X eP ew eK hc i pins s σ H E I hf t hg := by
    cases eP; cases ew; cases eK
    obtain ⟨xs, x, sq, ex⟩ := hg
    obtain ⟨its, vals, p, -⟩ := I.tuple sq
    obtain ⟨u, eu, ru⟩ := vals.get ex
    obtain ⟨S, M, W, hin, hout⟩ := walkT (P := X.prog) (w := X.w) (I.ok.hd hc) t p
    refine W.item i s _ E (by have := (List.getElem?_eq_some_iff.mp eu).1; simpa using this) (hin _ _ t p) fun T vs h1 tk hvs hT hTup hM keep1 => ⟨_, rfl, W.go elts kk tpos i T { s with heap := h1, toks := tk } _ E hM fun h2 hS keep2 => ?_⟩
    obtain ⟨tk', y, ey, rfl⟩ := hvs
    cases (show some u = some y by rw [← eu, ← ey]; simp)
    have far : T ∉ [e, it] := W.apart i T h1 hM
    have I2 : Inv X pins σ (upd H T (.tup [.int (i : Nat), x])) { s with heap := h2, toks := tk } :=
      I.turnedNew (fun b o m q => keep2 b o m (keep1 b o m q)) hf hT ⟨show 2 ≤ sizeLine by decide, _, .cons ⟨_, rfl⟩ (.cons ru .nil), hTup.at fun o q => keep2 T o far q⟩
    exact ⟨.ref T, _, I2, rfl, ⟨T, x, rfl, I.hok.fresh hT, rfl, fun ys sy => by rw [I.tuple_inj sy sq]; exact ex⟩, hout _ _ hS, fun b m => by rw [upd_ne fun z => far (by rw [← z]; exact m)]; exact (hf b m).1⟩
  done X eP ew eK hc i pins s σ H E I hf t hg := by
    cases eP; cases ew; cases eK
    obtain ⟨xs, sq, le⟩ := hg
    obtain ⟨its, vals, p, -⟩ := I.tuple sq
    obtain ⟨S, M, W, hin, -⟩ := walkT (P := X.prog) (w := X.w) (I.ok.hd hc) t p
    have en : its.toArray.size = i := by rw [← le, vals.length]; simp
    exact W.done s _ E (hin _ _ (en ▸ t) p) fun h1 tk k => ⟨rfl, I.turnedL (fun b o m q => k b o m q) hf⟩
  self A i s Q E t q := wpAny_pyIter_enum t.1.choose_spec q
theorem enum_new1 {v : Value} {o : Obj} {B0 : Heap → Prop} (B : Begins v o B0) :
    Meets (Builtin.«enumerate.__new__» ⟨[.type "enumerate", v], []⟩) fun _ R s => B0 s.heap ∧
      R (.ok (.ret (.ref (s.heap.push o).objs.size))) { s with heap := (s.heap.push o).push { cls := .type "enumerate", data := .fields #[.none, .bool false, .ref s.heap.objs.size, rawInt 0, .none, .none] } } := by
  refine .of_wp fun P w A R s hr => ?_
  have sub := sub_enumerate
  rcases s with ⟨m, g, d, tk, os⟩
  have it : ∀ {A1 : Around} {E Q : Value → Shared → Prop}, Q (.ref m.objs.size) ⟨m.push o, g, d, tk, os⟩ → wpAny (model P w) A1 (pyIter v) Q E ⟨m, g, d, tk, os⟩ := fun z => B.iter P w _ _ _ _ hr.1 z
  wp_walk using it
  refine wpAny_stack_any fun _ => wpAny_pure ?_
  split <;> try (rename_i cl _ _ _ _ _; cases cl == Value.type "enumerate")
  all_goals (wp_walk using it; exact ⟨_, rfl, hr.2⟩)
theorem enum_tuple {P : Program} {w : World} {A : Around} {E Q : Value → Shared → Prop} {s : Shared} {a : Addr} {its : Array Value} (p : s.heap.IsTuple a its)
    (h : ∀ m, AtT a (s.heap.objs.size + 1) s.heap.objs.size 0 m → (∀ b o, s.heap.get? b = some o → m.get? b = some o) → Q (.ref (s.heap.objs.size + 1)) { s with heap := m }) :
    wpAny (model P w) A (call (.type "enumerate") [.ref a]) Q E s := by
  have B := begins_tuple a its
  have z : (s.heap.push { cls := .type "tuple_iterator", data := .fields #[.ref a, .int 0 0] }).objs.size = s.heap.objs.size + 1 := Heap.size_push ..
  refine callType_new F.called_enumerate (by decide) (F.typeCall_enumerate_1 _) (F.newCall_enumerate_1 _) (fun q => F.args_object_init_2 q _) F.entry_enumerate_new (enum_new1 B) ⟨p, ?_⟩
  rw [z]
  have at1 := Heap.get?_push_size (s.heap.push { cls := .type "tuple_iterator", data := .fields #[.ref a, .int 0 0] }) (o := { cls := .type "enumerate", data := .fields #[.none, .bool false, .ref s.heap.objs.size, rawInt 0, .none, .none] }) rfl
  rw [z] at at1
  exact ⟨⟨_, at1, rfl⟩, h _ ⟨⟨_, at1⟩, ⟨_, Heap.get?_push_of_some _ (Heap.get?_push_size _ B.free), rfl, rfl⟩, Nat.succ_ne_self _⟩ fun b o q => Heap.get?_push_of_some _ (Heap.get?_push_of_some _ q)⟩
def iEnumT (K : PySem.W.Frag) (ta : TA) : TI := fun σ H R => ta σ H fun vs H1 => ∃ a xs, vs = [.ref a] ∧ SqT K H1 a xs ∧ R (IteT K a) H1
theorem pi_enumT {X : Cx} {e : Expr} {ta : TA} {p pos tpos : Pos} {elts : List Expr} {kk : Nat} (hg : Gl X "enumerate") (hm : X.mg "enumerate" = none) (ha : PA X [e] ta) (hs : starEach [e] X.env = [(false, eval e X.env)]) :
    PI X (.Tuple elts kk tpos) (.Call (.Name "enumerate" p) [e] [] pos) (iEnumT X.K ta) where
  run pins s σ H R I h := by
    refine PyProof.Rows.Call_ (ld_blt I hg hm PyProof.Rows.boot_enumerate (PyProof.Rows.callWith_type1 (thn (ha.run pos pins s σ H _ I h) ?_) hs rfl))
    rintro us s1 ⟨_, H1, I1, r, a, xs, rfl, sq, q⟩
    cases r with | cons r0 r1 => ?_
    cases r1
    cases r0
    obtain ⟨its, -, tu, -⟩ := I1.tuple sq
    refine enum_tuple tu fun m t k => wpAny_pyIter_enum t.1.choose_spec ⟨_, _, _, _, H1, rfl, I1.kept (t' := s1.toks) k, turn_enumT a _ _, t, fun b mb => ?_, q⟩
    have hi : s1.heap.objs.size ≤ b := by
      simp only [List.mem_cons, List.not_mem_nil, or_false] at mb
      cases mb with
      | inl z => subst z; exact Nat.le_succ _
      | inr z => subst z; exact Nat.le_refl _
    exact I1.fpOk hi (I1.hok.fresh hi)
section
variable {c : Cfg} {G : Gc} {P : Pr} {X : Cx} {n : Nat} {W : WX}
theorem gives_enumT {K : PySem.W.Frag} {H : Hp} {a : Addr} {ds : List D} (r : Rep G.fa K H (.ref a) (.tup ds)) : Gives G.fa K (IteT K a) H (ds.mapIdx fun i d => .tup [.int i, d]) := by
  cases r with | @tup _ vs _ h1 h2 h3 => ?_
  refine ⟨by rw [List.length_mapIdx, ← h3.length]; exact h2, fun S' H' s hs hn => ?_⟩
  have q : SqT K H' a vs := SqT.of (s _ _ h1)
  refine ⟨fun i d e => ?_, vs, q, by rw [List.length_mapIdx, h3.length]⟩
  rw [List.getElem?_mapIdx] at e
  cases e0 : ds[i]? with
  | none => rw [e0] at e; cases e
  | some d0 =>
  rw [e0] at e
  cases e
  obtain ⟨v, e1, r1⟩ := h3.get e0
  refine ⟨⟨vs, v, q, e1⟩, fun x H2 ⟨T, y, ex, hT, e2, h⟩ => ?_⟩
  subst e2; subst ex
  have := h vs q
  rw [e1] at this
  cases this
  exact ⟨Same.upd hT, new_tup hn hT (.cons (.int _) (.cons (r1.mono (Le.of (vis_hid s hs))) .nil)) (sz_words (show 2 ≤ 1000 by decide))⟩
theorem L_enum (ok : Cok c G P X n) {a : E} {x : Expr} {p pos tpos : Pos} {elts : List Expr} {kk : Nat} {env : Env} {fa : Bool} (hm : ("enumerate" : Str) ∈ c.bis) (hg : glB X.env.scope "enumerate" = true) (h : PE X x (tE G X.K W env (evE P env a) fa)) (hx : plainX x = true) :
    PI X (.Tuple elts kk tpos) (.Call (.Name "enumerate" p) [x] [] pos) (tI G X.K W env (evI P env (.enm a))) := by
  by_cases nt : ∃ ds, evE P env a = .ok (.tup ds)
  · obtain ⟨ds, e⟩ := nt
    refine PI.imp (pi_enumT (gl_of hg).1 (ok.bi _ hm) (pa_cons h pa_nil (star_of hx)) (star_of hx)) fun σ H Q ⟨S0, HF, own, er, q⟩ => ?_
    rw [evI] at q
    refine ⟨S0, HF, own, er, RT.step er q fun v d H1 e1 s1 r1 _ er1 q1 => ?_⟩
    rw [e] at e1
    cases e1
    cases r1 with | @tup a vs _ h1 h2 h3 => ?_
    exact ⟨a, vs, rfl, SqT.of (hid_same _ _ h1), RT.ok q1 (gives_enumT (.tup h1 h2 h3))⟩
  · exact L_enm ok hm hg h hx fun ds e => nt ⟨ds, e⟩
end
end Pu
end
section
set_option maxRecDepth 100000
set_option maxHeartbeats 1000000
namespace Pu
open PySem PySem.Spec L2
def SqQ (t : Bool) (K : PySem.W.Frag) (H : Hp) (a : Addr) (xs : List V) : Prop := match t with
  | false => SqL K H a xs
  | true => SqT K H a xs
def InQ (t : Bool) (h : Heap) (a : Addr) (its : Array Value) : Prop := match t with
  | false => h.IsList a its
  | true => h.IsTuple a its
def AtQ (t : Bool) (it a : Addr) (i : Nat) (h : Heap) : Prop := match t with
  | false => h.IsListIter it a i
  | true => h.IsTupleIter it a i
def objQ (t : Bool) (a : Addr) : Obj := match t with
  | false => { cls := .type "list_iterator", data := .fields #[.ref a, .int 0 0] }
  | true => { cls := .type "tuple_iterator", data := .fields #[.ref a, .int 0 0] }
theorem drawsQ {P : Program} {w : World} {A : Around} (t : Bool) (hh : A.handled = none) (it a : Addr) (ne : a ≠ it) (its : Array Value) : Draws P w A it [it, a] its.size (fun i v => its[i]? = some v) (fun i h => AtQ t it a i h ∧ InQ t h a its) := by
  cases t
  · exact Draws.list hh it a ne its
  · exact Draws.tuple hh it a ne its
theorem beginsQ (t : Bool) (a : Addr) (its : Array Value) : Begins (.ref a) (objQ t a) fun h => InQ t h a its := by
  cases t
  · exact begins_list a its
  · exact begins_tuple a its
theorem AtQ.live {t : Bool} {it a : Addr} {i : Nat} {h : Heap} (q : AtQ t it a i h) : ∃ o, h.get? it = some o ∧ ∀ v, o.data ≠ .cell v := by
  cases t <;> (obtain ⟨o, r, _, d⟩ := q; exact ⟨o, r, fun _ y => by rw [d] at y; exact Data.noConfusion y⟩)
theorem AtQ.stay {t : Bool} {it a : Addr} {i : Nat} {h h' : Heap} (q : AtQ t it a i h) (k : ∀ o, h.get? it = some o → h'.get? it = some o) : AtQ t it a i h' := by
  cases t
  · exact Heap.IsListIter.at q k
  · exact Heap.IsTupleIter.at q k
theorem AtQ.new {t : Bool} {it a : Addr} {h : Heap} (q : h.get? it = some (objQ t a)) : AtQ t it a 0 h := by
  cases t
  · exact ⟨_, q, rfl, rfl⟩
  · exact ⟨_, q, rfl, rfl⟩
theorem InQ.lt {t : Bool} {a : Addr} {h : Heap} {its : Array Value} (q : InQ t h a its) : @LT.lt Nat instLTNat a h.objs.size := by
  cases t <;> (obtain ⟨_, e, _⟩ := q; exact Heap.lt_size e)
section
variable {X : Cx} {pins : List (Addr × Obj)} {σ : L2.St} {H : Hp} {s : Shared} {a : Addr} {xs ys : List V} {t : Bool}
theorem SqQ.at (I : Inv X pins σ H s) (h : SqQ t X.K H a xs) : ∃ its : List Value, Vals xs its ∧ InQ t s.heap a its.toArray := by
  cases t
  · obtain ⟨its, r, p, _⟩ := I.list h; exact ⟨its, r, p.isList⟩
  · obtain ⟨its, r, p, _⟩ := I.tuple h; exact ⟨its, r, p⟩
theorem SqQ.inj (I : Inv X pins σ H s) (h : SqQ t X.K H a xs) (h' : SqQ t X.K H a ys) : xs = ys := by
  cases t
  · exact I.list_inj h h'
  · exact I.tuple_inj h h'
end
def ItQ (t u : Bool) (K : PySem.W.Frag) (a b : Addr) : L2.It where
  go i H := ∃ xs ys x y, SqQ t K H a xs ∧ SqQ u K H b ys ∧ xs[i]? = some x ∧ ys[i]? = some y
  yld i H v H' := ∃ T x y, v = .ref T ∧ H T = none ∧ H' = upd H T (.tup [x, y]) ∧ (∀ xs, SqQ t K H a xs → xs[i]? = some x) ∧ ∀ ys, SqQ u K H b ys → ys[i]? = some y
  stop i H := ∃ xs ys, SqQ t K H a xs ∧ SqQ u K H b ys ∧ min xs.length ys.length = i
def AtZ (t u : Bool) (a b z TI TO i1 i2 : Addr) (i : Nat) (h : Heap) : Prop := IsZip h z TI TO .none ∧ IsTupOf2 h TI (.ref i1) (.ref i2) ∧ (∃ x y, IsTupOf2 h TO x y) ∧ AtQ t i1 a i h ∧ AtQ u i2 b i h
theorem walkQ {P : Program} {w : World} {A : Around} {t u : Bool} {a b z TI TO i1 i2 : Addr} {its jts : Array Value} (hh : A.handled = none) (D : ZipSep2 z TI TO i1 i2 [i1, a] [i2, b]) (n1 : a ≠ i1) (n2 : b ≠ i2) :
    ∃ fp S M, WalksT P w A z fp [z, TO, i1, i2] (min its.size jts.size) (fun i vs => ∃ x1 x2, its[i]? = some x1 ∧ jts[i]? = some x2 ∧ vs = #[x1, x2]) S M ∧
      (∀ j h, AtZ t u a b z TI TO i1 i2 j h → InQ t h a its → InQ u h b jts → S j h) ∧ ∀ j h, S j h → AtZ t u a b z TI TO i1 i2 j h :=
  ⟨_, _, _, WalksT.zipD2 D (drawsQ (A := A.in1) t hh i1 a n1 its) (drawsQ (A := A.in1) u hh i2 b n2 jts), fun j h q p1 p2 => ⟨q.1, q.2.1, q.2.2.1, ⟨q.2.2.2.1, p1⟩, q.2.2.2.2, p2⟩, fun j h q => ⟨q.1, q.2.1, q.2.2.1, q.2.2.2.1.1, q.2.2.2.2.1⟩⟩
theorem turn_zipQ {P : Program} {w : World} {K : PySem.W.Frag} {elts : List Expr} {kk : Nat} {tpos : Pos} {t u : Bool} {a b z TI TO i1 i2 : Addr} (D : ZipSep2 z TI TO i1 i2 [i1, a] [i2, b]) (n1 : a ≠ i1) (n2 : b ≠ i2) :
    Turn P w K (.Tuple elts kk tpos) (ItQ t u K a b) [z, TI, TO, i1, i2] z (AtZ t u a b z TI TO i1 i2) where
  mem := List.mem_cons_self ..
  obj i h q c m := by
    obtain ⟨hz, hTI, ⟨x, y, hTO⟩, h1, h2⟩ := q
    simp only [List.mem_cons, List.not_mem_nil, or_false] at m
    rcases m with e | e | e | e | e <;> subst e
    · exact ⟨_, hz, fun _ => Data.noConfusion⟩
    · exact ⟨_, hTI, fun _ => Data.noConfusion⟩
    · exact ⟨_, hTO, fun _ => Data.noConfusion⟩
    · exact h1.live
    · exact h2.live
  keep i h h' q k := ⟨k z (by simp) _ q.1, k TI (by simp) _ q.2.1, let ⟨x, y, e⟩ := q.2.2.1; ⟨x, y, k TO (by simp) _ e⟩, q.2.2.2.1.stay (k i1 (by simp)), q.2.2.2.2.stay (k i2 (by simp))⟩
  item X eP ew eK hc i pins s σ H E I hf q hg := by
    cases eP; cases ew; cases eK
    obtain ⟨xs, ys, x, y, sx, sy, ex, ey⟩ := hg
    obtain ⟨its, v1, p1⟩ := sx.at I
    obtain ⟨jts, v2, p2⟩ := sy.at I
    obtain ⟨ux, fx, rx⟩ := v1.get ex
    obtain ⟨uy, fy, ry⟩ := v2.get ey
    obtain ⟨fp, S, M, W, hin, hout⟩ := walkQ (P := X.prog) (w := X.w) (t := t) (u := u) (its := its.toArray) (jts := jts.toArray) (I.ok.hd hc) D n1 n2
    have l1 := (List.getElem?_eq_some_iff.mp fx).1
    have l2 := (List.getElem?_eq_some_iff.mp fy).1
    refine W.item i s _ E (by simp only [List.size_toArray]; omega) (hin _ _ q p1 p2) fun T vs h1 tk hvs hT hTup hM keep1 => ⟨_, rfl, W.go elts kk tpos i T { s with heap := h1, toks := tk } _ E hM fun h2 hS keep2 => ?_⟩
    obtain ⟨x1, x2, e1, e2, rfl⟩ := hvs
    cases (show some ux = some x1 by rw [← fx, ← e1]; simp)
    cases (show some uy = some x2 by rw [← fy, ← e2]; simp)
    have far : T ∉ [z, TO, i1, i2] := W.apart i T h1 hM
    have up : ∀ c, c ∈ [z, TO, i1, i2] → c ∈ [z, TI, TO, i1, i2] := fun c m => by
      simp only [List.mem_cons, List.not_mem_nil, or_false] at m ⊢
      rcases m with e | e | e | e <;> simp [e]
    have I2 : Inv X pins σ (upd H T (.tup [x, y])) { s with heap := h2, toks := tk } :=
      I.turnedNew (fun c o m e => keep2 c o (fun w => m (up c w)) (keep1 c o (fun w => m (up c w)) e)) hf hT ⟨show 2 ≤ sizeLine by decide, _, .cons rx (.cons ry .nil), hTup.at fun o e => keep2 T o far e⟩
    refine ⟨.ref T, _, I2, rfl, ⟨T, x, y, rfl, I.hok.fresh hT, rfl, fun zs sz => by rw [SqQ.inj I sz sx]; exact ex, fun zs sz => by rw [SqQ.inj I sz sy]; exact ey⟩, hout _ _ hS, fun c m => ?_⟩
    have hlt : c < s.heap.objs.size := by
      obtain ⟨hz, hTI, ⟨x, y, hTO⟩, h1, h2⟩ := q
      simp only [List.mem_cons, List.not_mem_nil, or_false] at m
      rcases m with e | e | e | e | e <;> subst e
      · exact Heap.lt_size hz
      · exact Heap.lt_size hTI
      · exact Heap.lt_size hTO
      · exact Heap.lt_size h1.live.choose_spec.1
      · exact Heap.lt_size h2.live.choose_spec.1
    rw [upd_ne (Nat.ne_of_lt (Nat.lt_of_lt_of_le hlt hT))]
    exact (hf c m).1
  done X eP ew eK hc i pins s σ H E I hf q hg := by
    cases eP; cases ew; cases eK
    obtain ⟨xs, ys, sx, sy, le⟩ := hg
    obtain ⟨its, v1, p1⟩ := sx.at I
    obtain ⟨jts, v2, p2⟩ := sy.at I
    obtain ⟨fp, S, M, W, hin, -⟩ := walkQ (P := X.prog) (w := X.w) (t := t) (u := u) (its := its.toArray) (jts := jts.toArray) (I.ok.hd hc) D n1 n2
    have en : min its.toArray.size jts.toArray.size = i := by rw [← le, v1.length, v2.length]; simp
    refine W.done s _ E (hin _ _ (en ▸ q) p1 p2) fun h1 tk k => ⟨rfl, I.turnedL (fun c o m e => k c o (fun w => m ?_) e) hf⟩
    simp only [List.mem_cons, List.not_mem_nil, or_false] at w ⊢
    rcases w with e | e | e | e <;> simp [e]
  self A i s Q E q h := wpAny_pyIter_zip q.1 h
def iZipQ (K : PySem.W.Frag) (ta : TA) : TI := fun σ H R => ta σ H fun vs H1 => ∃ t u a b xs ys, vs = [.ref a, .ref b] ∧ SqQ t K H1 a xs ∧ SqQ u K H1 b ys ∧ R (ItQ t u K a b) H1
theorem pi_zipQ {X : Cx} {e e2 : Expr} {ta : TA} {p pos tpos : Pos} {elts : List Expr} {kk : Nat} (hg : Gl X "zip") (hm : X.mg "zip" = none) (ha : PA X [e, e2] ta)
    (hs : starEach [e, e2] X.env = (false, eval e X.env) :: starEach [e2] X.env) (hpl : (backTo pos (starEach [e2] X.env)).any (·.1) = false) : PI X (.Tuple elts kk tpos) (.Call (.Name "zip" p) [e, e2] [] pos) (iZipQ X.K ta) where
  run pins s σ H R I h := by
    refine PyProof.Rows.Call_ (ld_blt I hg hm PyProof.Rows.boot_zip (PyProof.Rows.callWith_type1 (thn (ha.run pos pins s σ H _ I h) ?_) hs hpl))
    rintro us s1 ⟨_, H1, I1, r, t, u, a, b, xs, ys, rfl, sx, sy, q⟩
    cases r with | cons r0 r1 => ?_
    cases r1 with | cons r1 r2 => ?_
    cases r2; cases r0; cases r1
    obtain ⟨its, v1, p1⟩ := sx.at I1
    obtain ⟨jts, v2, p2⟩ := sy.at I1
    have la := p1.lt
    have lb := p2.lt
    refine zip_begins2 (beginsQ t a its.toArray) (beginsQ u b jts.toArray) p1 p2 fun m hz hTI hTO o1 o2 hsz k => wpAny_pyIter_zip hz ⟨_, _, _, _, H1, rfl, I1.kept (t' := s1.toks) k, turn_zipQ (t := t) (u := u) ?_ ?_ ?_, ⟨hz, hTI, ⟨_, _, hTO⟩, AtQ.new o1, AtQ.new o2⟩, fun c mc => ?_, q⟩
    · refine ⟨?_, ?_, ?_, ?_, by simp, ?_, ?_, ?_, by simp, ?_, ?_, ?_, ?_⟩ <;> intro h <;> first
        | (have h' : @Eq Nat _ _ := h; omega)
        | (simp only [List.mem_cons, List.not_mem_nil, or_false] at h; rcases h with h | h <;> (have h' : @Eq Nat _ _ := h; omega))
    · exact Nat.ne_of_lt la
    · exact Nat.ne_of_lt (Nat.lt_succ_of_lt lb)
    · have hi : s1.heap.objs.size ≤ c := by
        simp only [List.mem_cons, List.not_mem_nil, or_false] at mc
        rcases mc with e | e | e | e | e <;> (subst e; first | exact Nat.le_add_right _ _ | exact Nat.le_refl _)
      exact I1.fpOk hi (I1.hok.fresh hi)
section
variable {c : Cfg} {G : Gc} {P : Pr} {X : Cx} {n : Nat} {W : WX}
theorem gives_zipQ {K : PySem.W.Frag} {H : Hp} {t u : Bool} {a b : Addr} {vs ws : List V} {ds es : List D} (h1 : H a = some (if t then .tup vs else .lst vs)) (h2 : vs.length ≤ sizeLine) (h3 : RepL G.fa K H vs ds) (g1 : H b = some (if u then .tup ws else .lst ws)) (g3 : RepL G.fa K H ws es) :
    Gives G.fa K (ItQ t u K a b) H ((ds.zip es).map fun p => .tup [p.1, p.2]) := by
  refine ⟨by rw [List.length_map, List.length_zip, ← h3.length]; exact Nat.le_trans (Nat.min_le_left _ _) h2, fun S' H' s hs hn => ?_⟩
  have sq : ∀ {t : Bool} {a : Addr} {vs : List V}, H a = some (if t then .tup vs else .lst vs) → SqQ t K H' a vs := fun {t a vs} h => by
    cases t
    · exact SqL.of (s _ _ h)
    · exact SqT.of (s _ _ h)
  have q := sq h1
  have q' := sq g1
  refine ⟨fun i d e => ?_, vs, ws, q, q', by rw [List.length_map, List.length_zip, h3.length, g3.length]⟩
  rw [List.getElem?_map] at e
  cases e0 : (ds.zip es)[i]? with
  | none => rw [e0] at e; cases e
  | some p =>
  rw [e0] at e
  cases e
  rw [List.getElem?_zip_eq_some] at e0
  obtain ⟨v, e1, r1⟩ := h3.get e0.1
  obtain ⟨w, f1, r2⟩ := g3.get e0.2
  refine ⟨⟨vs, ws, v, w, q, q', e1, f1⟩, fun x H2 ⟨T, y, y', ex, hT, e2, h, h'⟩ => ?_⟩
  subst e2; subst ex
  have := h vs q
  rw [e1] at this
  cases this
  have := h' ws q'
  rw [f1] at this
  cases this
  exact ⟨Same.upd hT, new_tup hn hT (.cons (r1.mono (Le.of (vis_hid s hs))) (.cons (r2.mono (Le.of (vis_hid s hs))) .nil)) (sz_words (show 2 ≤ 1000 by decide))⟩
def seqB : D → Option (Bool × List D)
  | .lst xs => some (false, xs)
  | .tup xs => some (true, xs)
  | _ => none
theorem seq_of {fa : Nat → Option Addr} {K : PySem.W.Frag} {H : Hp} {v : V} {d : D} {t : Bool} {ds : List D} (r : Rep fa K H v d) (e : seqB d = some (t, ds)) : ∃ a vs, v = .ref a ∧ H a = some (if t then .tup vs else .lst vs) ∧ vs.length ≤ sizeLine ∧ RepL fa K H vs ds := by
  cases r <;> first | (cases e; done) | skip
  · rename_i a vs ds h1 h2 h3; cases e; exact ⟨a, vs, rfl, h1, h2, h3⟩
  · rename_i a vs ds h1 h2 h3; cases e; exact ⟨a, vs, rfl, h1, h2, h3⟩
theorem L_zip (ok : Cok c G P X n) {a b : E} {x y : Expr} {p pos tpos : Pos} {elts : List Expr} {kk : Nat} {env : Env} {fa fb : Bool} (hm : ("zip" : Str) ∈ c.bis) (hg : glB X.env.scope "zip" = true) (h : PE X x (tE G X.K W env (evE P env a) fa)) (h' : PE X y (tE G X.K W env (evE P env b) fb)) (hx : plainX x = true) (hy : plainX y = true) :
    PI X (.Tuple elts kk tpos) (.Call (.Name "zip" p) [x, y] [] pos) (tI G X.K W env (evI P env (.zip a b))) :=
  PI.imp (pi_zipQ (gl_of hg).1 (ok.bi _ hm) (pa_cons h (pa_cons h' pa_nil (star_of hy)) (star_of hx)) (star_of hx) (star_none (es := [y]) (by rw [List.all_cons, hy]; rfl) pos)) fun σ H Q ⟨S0, HF, own, er, q⟩ => by
    rw [evI] at q
    refine ⟨S0, HF, own, er, RT.step er q fun v d H1 e1 s1 r1 _ er1 q1 => ⟨S0, HF, own, er1, RT.step er1 q1 fun w d2 H2 e2 s2 r2 o2 er2 q2 => ?_⟩⟩
    have key : ∃ t u ds es, seqB d = some (t, ds) ∧ seqB d2 = some (u, es) ∧ zipD d d2 = .ok ((ds.zip es).map fun p => .tup [p.1, p.2]) := by
      cases d <;> first | exact q2.elim | skip
      all_goals (cases d2 <;> first | exact q2.elim | exact ⟨_, _, _, _, rfl, rfl, rfl⟩)
    obtain ⟨t, u, ds, es, ed, ed2, ez⟩ := key
    obtain ⟨a, vs, ea, h1, h2, h3⟩ := seq_of (r1.later s2) ed
    obtain ⟨b, ws, eb, g1, g2, g3⟩ := seq_of r2 ed2
    subst ea eb
    rw [ez] at q2
    have sq : ∀ {t : Bool} {a : Addr} {vs : List V}, hid (SS S0 own) H2 a = some (if t then .tup vs else .lst vs) → SqQ t X.K H2 a vs := fun {t a vs} h => by
      cases t
      · exact SqL.of (hid_same _ _ h)
      · exact SqT.of (hid_same _ _ h)
    exact ⟨t, u, a, b, vs, ws, rfl, sq h1, sq g1, RT.ok q2 (gives_zipQ h1 h2 h3 g1 g3)⟩
end
end Pu
end
section
set_option maxRecDepth 100000
set_option maxHeartbeats 1000000
namespace Pu
open PySem PySem.Spec L2
def lens (ds : List D) : Nat → Nat := fun i => (lenL (ds.getD i .non)).getD 0
section
variable {P : Program} {w : World} {A : Around} {s : Shared} {l : Addr} {its : Array Value} {sz : Nat → Nat}
theorem min_by_len {Q : Value → Shared → Prop} {E : Value → Shared → Prop} (hh : A.handled = none) (hl : s.heap.IsList l its) (h0 : 0 < its.size) (hi : ∀ i v, its[i]? = some v → ∃ a xs, v = .ref a ∧ s.heap.IsList a xs ∧ xs.size = sz i ∧ (xs.size : Int) < 2 ^ 63)
    (h : ∀ v h' tk, its[argBest (fun i j => decide ((sz i : Int) < (sz j : Int))) (its.size - 1)]? = some v → (∀ b o, s.heap.get? b = some o → h'.get? b = some o) → Q v { s with heap := h', toks := tk }) :
    wpAny (model P w) A (call (.builtin "min") [.ref l] [(Str.ofString "key", .builtin "len")]) Q E s := by
  refine call_min_walkKB (PySem.W.iter_listW (A := A.in1) (by simpa using hh) hl fun s2 e W st hfp hw hk => ?_)
  have hs2 : s2.heap.objs.size = s.heap.objs.size + 1 := by rw [e]; exact Heap.size_push ..
  have old : ∀ b o, s.heap.get? b = some o → b ∉ s2.heap.objs.size :: [s.heap.objs.size] := fun b o q m => by
    have hb : @LT.lt Nat instLTNat b s.heap.objs.size := Heap.lt_size q
    simp only [List.mem_cons, List.not_mem_nil, or_false] at m
    rcases m with m | m
    · rw [hs2] at m; have m' : @Eq Nat _ _ := m; omega
    · have m' : @Eq Nat _ _ := m; omega
  refine ⟨_, _, _, _, _, _, _, fun s' => ∃ h' tk, s' = { s with heap := h', toks := tk } ∧ ∀ b o, s.heap.get? b = some o → h'.get? b = some o, fun i k s' => ∃ tk, k = .int (sz i) tk, fun i j => decide ((sz i : Int) < (sz j : Int)), rfl, W, st, hfp, h0, ?_, ⟨s2.heap, s2.toks, by rw [e], hk⟩, fun v s' hv ⟨h', tk, e', k⟩ => by rw [e']; exact h v h' tk hv k⟩
  refine ⟨fun s1 s' ⟨h1, tk, e1, k1⟩ m => ⟨s'.heap, s'.toks, ?_, fun b o q => m.heap b o (old b o q) (by rw [e1]; exact k1 b o q)⟩, fun i k s1 s' v m => v, fun i v s1 o Q' E' hin hv ⟨h1, tk, e1, k1⟩ hst hS go => ?_, fun i j ki kj s1 Q' E' _ ⟨t1, q1⟩ ⟨t2, q2⟩ go => ?_⟩
  · obtain ⟨hp, g, d, tk', os⟩ := s'
    have g1 : g = s1.gens := m.gens
    have g2 : d = s1.drawn := m.drawn
    have g3 : os = s1.os := m.os
    subst g1 g2 g3
    rw [e1]
  · obtain ⟨a, xs, ev, hx, hsz, hfit⟩ := hi i v hv
    subst ev
    have hx1 : s1.heap.IsList a xs := by
      obtain ⟨oa, ea, r⟩ := hx
      exact ⟨oa, by rw [e1]; exact k1 _ _ ea, r⟩
    refine Calls.call_len_list hx1 hfit (go _ _ ⟨h1, _, by rw [e1], k1⟩ ?_ hS ⟨_, by rw [hsz]⟩ fun j k' z => z)
    exact W.frame (i + 1) s1 s1.heap _ hst (by omega) fun _ _ _ q => q
  · exact CmpOf.ints_lt (prog := P) (w := w) (A := A.in1) (P := fun i v => ∃ t, v = .int ((sz i : Nat) : Int) t) (fun i => ((sz i : Nat) : Int)) (fun i v h => h) i j _ _ s1 Q' E' ⟨t1, q1⟩ ⟨t2, q2⟩ go
end
section
variable {X : Cx} {G : Gc} {n : Nat}
theorem minLen_ok {xs : List D} {d : D} (e : minLen xs = .ok d) : (∀ x ∈ xs, (lenL x).isSome = true) ∧ 0 < xs.length ∧ xs[argBest (fun i j => decide ((lens xs i : Int) < (lens xs j : Int))) (xs.length - 1)]? = some d := by
  cases xs with
  | nil => cases e
  | cons x r =>
    have e : (if (x :: r).all (fun d => (lenL d).isSome) = true then R.ok (r.foldl (fun m y => if (lenL y).getD 0 < (lenL m).getD 0 then y else m) x) else .bad) = .ok d := e
    split at e
    · rename_i hk
      rw [List.all_eq_true] at hk
      cases e
      have ab := PySem.W.argBest_fold (fun a b => decide (((lenL a).getD 0 : Int) < ((lenL b).getD 0 : Int))) D.non x r r.length (Nat.le_refl _)
      refine ⟨hk, Nat.succ_pos _, ?_⟩
      have e1 : (x :: r).length - 1 = r.length := rfl
      rw [e1]
      have e2 : (fun i j => decide ((lens (x :: r) i : Int) < (lens (x :: r) j : Int))) = fun i j => decide (((lenL ((x :: r).getD i D.non)).getD 0 : Int) < ((lenL ((x :: r).getD j D.non)).getD 0 : Int)) := rfl
      rw [e2]
      obtain ⟨a1, a2⟩ := ab
      rw [List.take_length] at a2
      have hlt : argBest (fun i j => decide (((lenL ((x :: r).getD i D.non)).getD 0 : Int) < ((lenL ((x :: r).getD j D.non)).getD 0 : Int))) r.length < (x :: r).length := Nat.lt_succ_of_le a1
      rw [List.getElem?_eq_getElem hlt]
      rw [List.getD_eq_getElem?_getD, List.getElem?_eq_getElem hlt, Option.getD_some] at a2
      rw [a2]
      simp only [decide_eq_true_eq, Int.ofNat_lt]
    · cases e
theorem minlen_ne (d : D) (c p) : b1D .minlen d ≠ .exc c p := by
  cases d <;> first | exact bad_ne | skip
  rename_i xs
  show minLen xs ≠ _
  cases xs with
  | nil => exact bad_ne
  | cons x r =>
    show (if (x :: r).all (fun d => (lenL d).isSome) = true then _ else _) ≠ _
    split <;> first | exact ok_ne | exact bad_ne
end
section
variable {c : Cfg} {G : Gc} {P : Pr} {X : Cx} {n : Nat} {W : WX}
theorem L_minlen (ok : Cok c G P X n) {a : E} {xa : Expr} {p p2 kp pos : Pos} {env : Env} {fa : Bool} (hm : ("min" : Str) ∈ c.bis) (hg : glB X.env.scope "min" = true) (hm2 : ("len" : Str) ∈ c.bis) (hg2 : glB X.env.scope "len" = true)
    (ha : PE X xa (tE G X.K W env (evE P env a) fa)) (hx : plainX xa = true) : PE X (.Call (.Name "min" p) [xa] [⟨some "key", .Name "len" p2, kp⟩] pos) (tE G X.K W env (evE P env (.b1 .minlen a)) false) := by
  refine ⟨fun pins s σ H Q I ⟨S0, HF, own, er, q⟩ => ?_⟩
  rw [evE] at q
  have h : tE G X.K W env (evE P env a) fa σ H fun x H1 => ∃ ds d, (∀ z, SS S0 own z → NT H1 z) ∧ Rep G.fa X.K (hid (SS S0 own) H1) x (.lst ds) ∧ minLen ds = .ok d ∧ ∀ v, Rep G.fa X.K (hid (SS S0 own) H1) v d → Q v H1 :=
    ⟨S0, HF, own, er, RT.step er q fun x d H1 e1 s1 r1 _ er1 q1 => by
      obtain ⟨dd, e2, q2⟩ := q1.fin (minlen_ne d)
      cases d <;> first | (cases e2; done) | skip
      exact ⟨_, dd, er1.nt, r1, e2, fun v r => q2 v _ (Same.refl _) r⟩⟩
  refine wpAny_Call_Name_kw (ld_blt I (gl_of hg).1 (ok.bi _ hm) PyProof.Rows.boot_min ?_)
  refine PyProof.Rows.callWith_kw (thn ((pa_cons ha pa_nil (star_of hx)).run pos pins s σ H (fun vs H1 => ∃ x, vs = [x] ∧ ∃ ds d, (∀ z, SS S0 own z → NT H1 z) ∧ Rep G.fa X.K (hid (SS S0 own) H1) x (.lst ds) ∧ minLen ds = .ok d ∧ ∀ v, Rep G.fa X.K (hid (SS S0 own) H1) v d → Q v H1) I ?_) ?_) (by rw [star_of (es := []) hx]; rfl) (by rw [star_of (es := []) hx]; rfl)
  · obtain ⟨S1, HF1, own1, er1, q1⟩ := h
    exact ⟨S1, HF1, own1, er1, q1.imp fun a ea k v H' s r => ⟨v, rfl, k v H' s r⟩⟩
  rintro us s1 ⟨vs, H1, I1, rv, x, rfl, ds, d, hS, r, ed, q1⟩
  refine PyProof.Rows.kws_cons (ld_blt I1 (gl_of hg2).1 (ok.bi _ hm2) boot_len (PyProof.Rows.kws_nil ?_))
  cases r with | @lst l ws _ h1 n1 r1 => ?_
  obtain ⟨u, eu, ru⟩ := vals1 rv
  subst eu
  obtain rfl : u = Value.ref l := ru
  obtain ⟨its, tv, hl, hz⟩ := I1.list (SqL.of (hid_same _ _ h1))
  obtain ⟨m1, m2, m3⟩ := minLen_ok ed
  have len1 : its.length = ds.length := by rw [← tv.length, r1.length]
  refine min_by_len (sz := lens ds) (I1.ok.hd ok.calm) hl.isList (by simpa [len1] using m2) (fun i v hv => ?_) fun v h' tk hv k => ?_
  · have hv' : its[i]? = some v := by simpa using hv
    have il := (List.getElem?_eq_some_iff.mp hv').1
    have iw : i < ws.length := by rw [r1.length]; omega
    have ew : ws[i]? = some ws[i] := List.getElem?_eq_getElem iw
    obtain ⟨u, e3, e4⟩ := tv.get ew
    rw [hv'] at e3
    cases e3
    obtain ⟨di, ed, rd⟩ := r1.get' ew
    have mi := m1 di (List.mem_of_getElem? ed)
    cases di <;> first | (cases mi; done) | skip
    rename_i zs
    have el : lens ds i = zs.length := by
      unfold lens
      rw [List.getD_eq_getElem?_getD, ed]; rfl
    generalize ws[i] = wi at rd e4
    cases rd with | @lst b us _ g1 g2 g3 => ?_
    obtain rfl : v = Value.ref b := e4
    obtain ⟨jts, tj, hj, hz2⟩ := I1.list (SqL.of (hid_same _ _ g1))
    refine ⟨b, _, rfl, hj.isList, ?_, ?_⟩
    · rw [el, ← g3.length, tj.length]; simp
    · have : us.length ≤ sizeLine := g2
      rw [List.size_toArray, ← tj.length]
      have z : sizeLine < 2 ^ 63 := by rw [sizeLine_eq]; decide
      omega
  · have hv' : its[argBest (fun i j => decide ((lens ds i : Int) < (lens ds j : Int))) (ds.length - 1)]? = some v := by simpa [len1] using hv
    obtain ⟨wv, ew, rw'⟩ := r1.get m3
    obtain ⟨u, e3, e4⟩ := tv.get ew
    rw [hv'] at e3
    cases e3
    exact ⟨wv, H1, I1.kept (t' := tk) k, e4, q1 wv rw'⟩
end
end Pu
end
section
set_option maxRecDepth 100000
set_option maxHeartbeats 1000000
namespace Pu
open PySem PySem.Spec L2
section
variable {X : Cx} {G : Gc} {n : Nat}
def rCntD (G : Gc) (K : PySem.W.Frag) : V → List V → Hp → VK → Prop := fun x xs H Q => ∃ l vs ds y d, x = .ref l ∧ xs = [y] ∧ H l = some (.lst vs) ∧ RepL G.fa K H vs ds ∧ Rep G.fa K H y d ∧ (ck 8 d.py && ds.all (fun y => ck 8 y.py)) = true ∧ Q (.int (ds.countP fun y => PyData.eqv y.py d.py : Nat)) H
theorem mt_cntD (hr : Room n X.A) : MtR X "list.count" (rCntD G X.K) := by
  intro pins s σ H x xs v us Q I rx rxs hyp
  obtain ⟨l, vs, ds, y, d, ex, ey, hH, rl, ry, hc, q⟩ := hyp
  subst ex ey
  cases rx
  obtain ⟨u, eu, ru⟩ := vals1 rxs
  subst eu
  have hu : X.A.units + 200 < cLine := by have := hr.un; omega
  rw [Bool.and_eq_true, List.all_eq_true] at hc
  obtain ⟨c1, c2⟩ := ck_plain _ _ hc.1
  have pa : PyData.plainAll (D.pys ds) = true := by
    rw [D.pys_eq, plainAll_all, List.all_map, List.all_eq_true]
    exact fun z hz => (ck_plain _ _ (hc.2 z hz)).1
  obtain ⟨its, r, hl, _⟩ := I.list (SqL.of hH)
  obtain ⟨as, ra⟩ := Dp.readsAll I _ _ _ (rl.dp pa) r
  obtain ⟨bs, rb⟩ := dp_reads I ry ru c1
  refine SeqAt.count_list_data (vs := its.toArray) hl.isList (by simpa using ra) rb pa c1 (Nat.lt_of_le_of_lt (Nat.add_le_add_left (Nat.le_trans (Nat.min_le_right _ _) c2) _) (by omega)) ?_
  refine ⟨.int _, H, I.tok _, ⟨s.toks, rfl⟩, ?_⟩
  rw [D.pys_eq, List.countP_map]
  exact q
end
def baseX2 : Expr → Bool
  | .Call _ [] _ _ => false
  | _ => true
theorem base_of2 {o : Expr} {m : Str} {env : PySem.Env} (h : baseX2 o = true) (whole : Sem Value) : attributeBase o m env whole = whole := by
  cases o with
  | Call f xs ks p =>
    cases xs with
    | nil => cases h
    | cons x xs => cases f <;> rfl
  | _ => rfl
section
variable {c : Cfg} {G : Gc} {P : Pr} {X : Cx} {n : Nat} {W : WX}
theorem few_of' {x : Expr} {env : PySem.Env} {cpos : Pos} (h : plainX x = true) : ((((backTo cpos (starEach [x] env)).all fun x => !x.1) && (backToKw cpos (keywordEach [] env)).all fun x => x.1.isSome) && decide (([x].length + ([] : List Keyword).length + if ([] : List Keyword).isEmpty = true then 0 else 1) < 30)) = true := by
  rw [star_of (es := []) h]; rfl
theorem L_count (ok : Cok c G P X n) {a b : E} {xa xb : Expr} {ap cp : Pos} {env : Env} {fa fb : Bool} (h : PE X xa (tE G X.K W env (evE P env a) fa)) (h' : PE X xb (tE G X.K W env (evE P env b) fb)) (bx : baseX2 xa = true) (hx : plainX xb = true) (hl : (ap.endLine == cp.line) = true) :
    PE X (.Call (.Attribute xa "count" ap) [xb] [] cp) (tE G X.K W env (evE P env (.m1 .count a b)) false) :=
  PE.imp (pe_bm PySem.F.plainAttrs_list PySem.F.slot_list_count PySem.F.type_list_count (mt_cntD (G := G) ok.room) h (pa_cons h' pa_nil (star_of hx)) (base_of2 bx _) (few_of' hx) hl (star_of hx) rfl) fun σ H Q ⟨S0, HF, own, er, q⟩ => by
    rw [evE] at q
    refine ⟨S0, HF, own, er, RT.step er q fun x d H1 e1 s1 r1 _ er1 q1 => ?_⟩
    cases d with
    | lst ds =>
      cases r1 with | @lst l vs _ g1 g2 g3 => ?_
      rw [show m1A M1.count (D.lst ds) = true from rfl, if_pos rfl] at q1
      refine ⟨.inl ⟨rfl, vs, SqL.of (hid_same _ _ g1)⟩, S0, HF, own, er1, RT.step er1 q1 fun y d2 H2 e2 s2 r2 _ er2 q2 => ?_⟩
      have q2 : RT G W σ H2 (m1D .count (.lst ds) d2) (fun v H' d => Pst G X.K false (SS S0 own) H H' v d) Q := q2
      unfold m1D at q2
      simp only at q2
      split at q2
      · rename_i hc
        exact ⟨l, vs, ds, y, d2, rfl, rfl, s2 _ _ (hid_same _ _ g1), un_hidL (g3.later s2), un_hid r2, hc, RT.ok q2 (.int _)⟩
      · exact q2.elim
    | _ => exact q1.elim
end
end Pu
end
section
set_option maxRecDepth 100000
set_option maxHeartbeats 1000000
namespace Pu
open PySem PySem.Spec L2
section
variable {c : Cfg} {G : Gc} {P : Pr} {X : Cx} {n : Nat} {W : WX}
theorem PE.plain {r : R D} {x : Expr} {env : Env} {fa : Bool} (h : PE X x (tE G X.K W env r fa)) : PE X x (tE G X.K W env r false) :=
  PE.imp h fun σ H Q ⟨S0, HF, own, er, q⟩ => ⟨S0, HF, own, er, q.imp fun d e k v H' s p => k v H' s (p.rep er.nt)⟩
theorem PT.of {x : Expr} {t : TT} (h : PW X x t) : PT X x t := ⟨fun pins s σ H Q I q => h.run _ pins s σ H Q I q⟩
inductive RelD : V → D → Prop | int (i : Int) : RelD (.int i) (.int i)
theorem evAnd2 (env : Env) (e e2 : E) (es : EL) : evAnd P env (.cons e (.cons e2 es)) = (evE P env e).bind fun d => (asB d).bind fun b => if b then evAnd P env (.cons e2 es) else .ok (.bl false) := by
  rw [evAnd]; intro h; cases h
theorem evOr2 (env : Env) (e e2 : E) (es : EL) : evOr P env (.cons e (.cons e2 es)) = (evE P env e).bind fun d => (asB d).bind fun b => if b then .ok (.bl true) else evOr P env (.cons e2 es) := by
  rw [evOr]; intro h; cases h
theorem L_and1 {e : E} {x : Expr} {pos : Pos} {env : Env} {fa : Bool} (h : PE X x (tE G X.K W env (evE P env e) fa)) : PE X (.BoolOp .And [x] pos) (tE G X.K W env (evAnd P env (.cons e .nil)) false) := by
  rw [evAnd]; exact pe_one (PE.plain h)
theorem L_or1 {e : E} {x : Expr} {pos : Pos} {env : Env} {fa : Bool} (h : PE X x (tE G X.K W env (evE P env e) fa)) : PE X (.BoolOp .Or [x] pos) (tE G X.K W env (evOr P env (.cons e .nil)) false) := by
  rw [evOr]; exact pe_one (PE.plain h)
theorem L_andC {e e2 : E} {es : EL} {x y : Expr} {ys : List Expr} {pos : Pos} {env : Env} {fa : Bool} (h : PE X x (tE G X.K W env (evE P env e) fa)) (t : PE X (.BoolOp .And (y :: ys) pos) (tE G X.K W env (evAnd P env (.cons e2 es)) false)) :
    PE X (.BoolOp .And (x :: y :: ys) pos) (tE G X.K W env (evAnd P env (.cons e (.cons e2 es))) false) :=
  PE.imp (pe_and h t) fun σ H Q ⟨S0, HF, own, er, q⟩ => by
    rw [evAnd2] at q
    exact ⟨S0, HF, own, er, RT.step er q fun v d H1 e1 s1 r1 _ er1 q1 => by
      cases d with
      | bl b =>
        cases r1
        refine ⟨b, rfl, ?_⟩
        cases b with
        | true => exact ⟨S0, HF, own, er1, q1⟩
        | false => exact RT.ok q1 (.bl _)
      | _ => exact q1.elim⟩
theorem L_orC {e e2 : E} {es : EL} {x y : Expr} {ys : List Expr} {pos : Pos} {env : Env} {fa : Bool} (h : PE X x (tE G X.K W env (evE P env e) fa)) (t : PE X (.BoolOp .Or (y :: ys) pos) (tE G X.K W env (evOr P env (.cons e2 es)) false)) :
    PE X (.BoolOp .Or (x :: y :: ys) pos) (tE G X.K W env (evOr P env (.cons e (.cons e2 es))) false) :=
  PE.imp (pe_or h t) fun σ H Q ⟨S0, HF, own, er, q⟩ => by
    rw [evOr2] at q
    exact ⟨S0, HF, own, er, RT.step er q fun v d H1 e1 s1 r1 _ er1 q1 => by
      cases d with
      | bl b =>
        cases r1
        refine ⟨b, rfl, ?_⟩
        cases b with
        | true => exact RT.ok q1 (.bl _)
        | false => exact ⟨S0, HF, own, er1, q1⟩
      | _ => exact q1.elim⟩
theorem L_andT1 {e : E} {x : Expr} {pos : Pos} {env : Env} (h : PT X x (tT G X.K W env ((evE P env e).bind asB))) : PW X (.BoolOp .And [x] pos) (tT G X.K W env ((evAnd P env (.cons e .nil)).bind asB)) := by
  rw [evAnd]; exact pw_and1 h
theorem L_orT1 {e : E} {x : Expr} {pos : Pos} {env : Env} (h : PT X x (tT G X.K W env ((evE P env e).bind asB))) : PW X (.BoolOp .Or [x] pos) (tT G X.K W env ((evOr P env (.cons e .nil)).bind asB)) := by
  rw [evOr]; exact pw_or1 h
theorem L_andTC {e e2 : E} {es : EL} {x y : Expr} {ys : List Expr} {pos : Pos} {env : Env} (h : PT X x (tT G X.K W env ((evE P env e).bind asB))) (t : PW X (.BoolOp .And (y :: ys) pos) (tT G X.K W env ((evAnd P env (.cons e2 es)).bind asB))) :
    PW X (.BoolOp .And (x :: y :: ys) pos) (tT G X.K W env ((evAnd P env (.cons e (.cons e2 es))).bind asB)) :=
  PW.imp (pw_and h t) fun σ H Q ⟨S0, HF, own, er, q⟩ => by
    rw [evAnd2, R.bind_assoc] at q
    have q : RT G W σ H (((evE P env e).bind asB).bind fun b => (if b then evAnd P env (.cons e2 es) else .ok (.bl false)).bind asB) (fun b _ d => b = d) Q := by
      rw [R.bind_assoc]
      cases e1 : evE P env e with
      | ok d => rw [e1] at q; cases d <;> exact q
      | exc c p => rw [e1] at q; exact q
      | bad => rw [e1] at q; exact q
    exact ⟨S0, HF, own, er, RT.stepB er q fun b H1 e1 s1 er1 q1 => by
      cases b with
      | true => exact ⟨S0, HF, own, er1, q1⟩
      | false => exact RT.ok (d := false) q1 rfl⟩
theorem L_orTC {e e2 : E} {es : EL} {x y : Expr} {ys : List Expr} {pos : Pos} {env : Env} (h : PT X x (tT G X.K W env ((evE P env e).bind asB))) (t : PW X (.BoolOp .Or (y :: ys) pos) (tT G X.K W env ((evOr P env (.cons e2 es)).bind asB))) :
    PW X (.BoolOp .Or (x :: y :: ys) pos) (tT G X.K W env ((evOr P env (.cons e (.cons e2 es))).bind asB)) :=
  PW.imp (pw_or h t) fun σ H Q ⟨S0, HF, own, er, q⟩ => by
    rw [evOr2, R.bind_assoc] at q
    have q : RT G W σ H (((evE P env e).bind asB).bind fun b => (if b then .ok (.bl true) else evOr P env (.cons e2 es)).bind asB) (fun b _ d => b = d) Q := by
      rw [R.bind_assoc]
      cases e1 : evE P env e with
      | ok d => rw [e1] at q; cases d <;> exact q
      | exc c p => rw [e1] at q; exact q
      | bad => rw [e1] at q; exact q
    exact ⟨S0, HF, own, er, RT.stepB er q fun b H1 e1 s1 er1 q1 => by
      cases b with
      | true => exact RT.ok (d := true) q1 rfl
      | false => exact ⟨S0, HF, own, er1, q1⟩⟩
theorem L_bool {r : R D} {x : Expr} {env : Env} (h : PE X x (tE G X.K W env r false)) : True := trivial
theorem chain_asB (r : R Bool) (b : Bool) : True := trivial
theorem L_chain (ok : Cok c G P X n) {o o2 : CO} {a b e : E} {xa xb xe : Expr} {pos : Pos} {env : Env} {fa fb fe : Bool} (ha : PE X xa (tE G X.K W env (evE P env a) fa)) (hb : PE X xb (tE G X.K W env (evE P env b) fb)) (he : PE X xe (tE G X.K W env (evE P env e) fe))
    (hx : lastMarks [cop o, cop o2] [xb, xe] = false) :
    PE X (.Compare xa [cop o, cop o2] [xb, xe] pos) (tE G X.K W env (evE P env (.chain o o2 a b e)) false) :=
  PE.imp (pe_chain (or_cmp (G := G) ok.room o) (or_cmp (G := G) ok.room o2) ha hb he hx) fun σ H Q ⟨S0, HF, own, er, q⟩ => by
    rw [evE] at q
    exact ⟨S0, HF, own, er, RT.step er q fun x d H1 e1 s1 r1 _ er1 q1 => ⟨S0, HF, own, er1, RT.step er1 q1 fun y d2 H2 e2 s2 r2 _ er2 q2 => by
      cases e4 : cmpD o d d2 with
      | exc c p => exact (cmpD_ne o d d2 c p e4).elim
      | bad => rw [e4] at q2; exact q2.elim
      | ok dd =>
        rw [e4, R.bind_ok] at q2
        refine ⟨_, d, d2, dd, er2.nt, r1.later s2, r2, e4, dd, rfl, ?_⟩
        cases dd with
        | false => exact RT.ok q2 (.bl _)
        | true =>
          rw [if_pos rfl] at q2 ⊢
          exact ⟨S0, HF, own, er2, RT.step er2 q2 fun z d3 H3 e3 s3 r3 _ er3 q3 => by
            cases e5 : cmpD o2 d2 d3 with
            | exc c p => exact (cmpD_ne o2 d2 d3 c p e5).elim
            | bad => rw [e5] at q3; exact q3.elim
            | ok d5 => rw [e5] at q3; exact ⟨_, d2, d3, d5, er3.nt, r2.later s3, r3, e5, RT.ok q3 (.bl _)⟩⟩⟩⟩
theorem L_chainT (ok : Cok c G P X n) {o o2 : CO} {a b e : E} {xa xb xe : Expr} {pos : Pos} {env : Env} {fa fb fe : Bool} (ha : PE X xa (tE G X.K W env (evE P env a) fa)) (hb : PE X xb (tE G X.K W env (evE P env b) fb)) (he : PE X xe (tE G X.K W env (evE P env e) fe))
    (hx : lastMarks [cop o, cop o2] [xb, xe] = false) :
    PT X (.Compare xa [cop o, cop o2] [xb, xe] pos) (tT G X.K W env ((evE P env (.chain o o2 a b e)).bind asB)) :=
  PT.imp (pt_chain (or_cmp (G := G) ok.room o) (or_cmp (G := G) ok.room o2) ha hb he hx) fun σ H Q ⟨S0, HF, own, er, q⟩ => by
    rw [evE, R.bind_assoc] at q
    exact ⟨S0, HF, own, er, RT.step er q fun x d H1 e1 s1 r1 _ er1 q1 => by
      rw [R.bind_assoc] at q1
      exact ⟨S0, HF, own, er1, RT.step er1 q1 fun y d2 H2 e2 s2 r2 _ er2 q2 => by
        cases e4 : cmpD o d d2 with
        | exc c p => exact (cmpD_ne o d d2 c p e4).elim
        | bad => rw [e4] at q2; exact q2.elim
        | ok dd =>
          rw [e4, R.bind_ok] at q2
          refine ⟨_, d, d2, dd, er2.nt, r1.later s2, r2, e4, dd, rfl, ?_⟩
          cases dd with
          | false => exact ⟨false, rfl, RT.ok (d := false) q2 rfl⟩
          | true =>
            rw [if_pos rfl] at q2 ⊢
            rw [R.bind_assoc] at q2
            exact ⟨S0, HF, own, er2, RT.step er2 q2 fun z d3 H3 e3 s3 r3 _ er3 q3 => by
              cases e5 : cmpD o2 d2 d3 with
              | exc c p => exact (cmpD_ne o2 d2 d3 c p e5).elim
              | bad => rw [e5] at q3; exact q3.elim
              | ok d5 => rw [e5] at q3; exact ⟨_, d2, d3, d5, er3.nt, r2.later s3, r3, e5, d5, rfl, RT.ok (d := d5) q3 rfl⟩⟩⟩⟩
theorem L_b1f {o : B1} {a : E} {xa : Expr} {g : Str} {p pos : Pos} {env : Env} {fa fr : Bool} {id : String} (hc : CallR X (.builtin id) (rF G X.K fr (b1D o))) (hb : bootBuiltins g = some (.builtin id)) (hm : X.mg g = none) (hg : glB X.env.scope g = true)
    (ha : PE X xa (tE G X.K W env (evE P env a) fa)) (hx : plainX xa = true) (ne : ∀ d c p, b1D o d ≠ .exc c p) : PE X (.Call (.Name g p) [xa] [] pos) (tE G X.K W env (evE P env (.b1 o a)) fr) :=
  PE.imp (pe_callB hc (gl_of hg).1 hm hb (pa_cons ha pa_nil (star_of hx)) (gl_of hg).2.2 (gl_of hg).2.1 (star_of hx) rfl) fun σ H Q ⟨S0, HF, own, er, q⟩ => by
    rw [evE] at q
    exact ⟨S0, HF, own, er, RT.step er q fun x d H1 e1 s1 r1 _ er1 q1 => by
      obtain ⟨dd, e2, q2⟩ := q1.fin (ne d)
      exact ⟨_, x, d, dd, rfl, er1.nt, r1, e2, fun v H' s p => q2 v H' s (p.back s1)⟩⟩
theorem L_b1t {o : B1} {a : E} {xa : Expr} {g : Str} {p pos : Pos} {env : Env} {fa fr : Bool} {id : String} (hc : CallR X (.type id) (rF G X.K fr (b1D o))) (hb : bootBuiltins g = some (.type id)) (hm : X.mg g = none) (hg : glB X.env.scope g = true)
    (ha : PE X xa (tE G X.K W env (evE P env a) fa)) (hx : plainX xa = true) (ne : ∀ d c p, b1D o d ≠ .exc c p) : PE X (.Call (.Name g p) [xa] [] pos) (tE G X.K W env (evE P env (.b1 o a)) fr) :=
  PE.imp (pe_callTy hc (gl_of hg).1 hm hb (pa_cons ha pa_nil (star_of hx)) (gl_of hg).2.2 (gl_of hg).2.1 (star_of hx) rfl) fun σ H Q ⟨S0, HF, own, er, q⟩ => by
    rw [evE] at q
    exact ⟨S0, HF, own, er, RT.step er q fun x d H1 e1 s1 r1 _ er1 q1 => by
      obtain ⟨dd, e2, q2⟩ := q1.fin (ne d)
      exact ⟨_, x, d, dd, rfl, er1.nt, r1, e2, fun v H' s p => q2 v H' s (p.back s1)⟩⟩
theorem b1_tuple : CallR X (.type "tuple") (rF G X.K false (fun a => match a with
    | .lst xs => .ok (.tup xs)
    | .tup xs => .ok (.tup xs)
    | _ => .bad)) := by
  intro pins s σ H as us Q I r h
  obtain ⟨S, x, a, d, rfl, hS, ra, e, q⟩ := h
  cases a with
  | lst xs =>
    cases e
    cases ra with | lst h1 n1 r1 => ?_
    exact call_tuple_of pins s σ H _ us Q I r ⟨_, _, rfl, .inl ⟨SqL.of (hid_same _ _ h1), fun l hl => q _ _ (Same.upd hl) (new_tup hS hl r1 n1)⟩⟩
  | tup xs =>
    cases e
    cases ra with | tup h1 n1 r1 => ?_
    exact call_tuple_of pins s σ H _ us Q I r ⟨_, _, rfl, .inr ⟨SqT.of (hid_same _ _ h1), q _ H (Same.refl H) (.tup h1 n1 r1)⟩⟩
  | _ => cases e
theorem b1_int : CallR X (.type "int") (rF G X.K false (fun a => match a with
    | .bl b => .ok (.int (if b then 1 else 0))
    | .int i => .ok (.int i)
    | _ => .bad)) := by
  intro pins s σ H as us Q I r h
  obtain ⟨S, x, a, d, rfl, hS, ra, e, q⟩ := h
  cases a with
  | bl b =>
    cases e
    cases ra
    exact call_int1 pins s σ H _ us Q I r (.inr ⟨b, rfl, q _ H (Same.refl H) (.int _)⟩)
  | int i =>
    cases e
    cases ra
    exact call_int1 pins s σ H _ us Q I r (.inl ⟨i, rfl, q _ H (Same.refl H) (.int _)⟩)
  | _ => cases e
theorem L_b2 (ok : Cok c G P X n) {o : B2} {a b : E} {xa xb : Expr} {p pos : Pos} {env : Env} {fa fb : Bool} (hm : (match o with | .max => ("max" : Str) | .min => "min") ∈ c.bis) (hg : glB X.env.scope (match o with | .max => ("max" : Str) | .min => "min") = true)
    (ha : PE X xa (tE G X.K W env (evE P env a) fa)) (hb : PE X xb (tE G X.K W env (evE P env b) fb)) (hx : plainX xa = true) (hy : plainX xb = true) :
    PE X (.Call (.Name (match o with | .max => ("max" : Str) | .min => "min") p) [xa, xb] [] pos) (tE G X.K W env (evE P env (.b2 o a b)) false) := by
  have pa := pa_cons ha (pa_cons hb pa_nil (star_of hy)) (star_of (es := [xb]) hx)
  have key : ∀ {σ H Q}, tE G X.K W env (evE P env (.b2 o a b)) false σ H Q → ∃ S0 HF own, ER G X.K S0 HF own σ H env ∧ RT G W σ H (evE P env a) (fun v H' d => Pst G X.K fa (SS S0 own) H H' v d) fun x H1 => tE G X.K W env (evE P env b) fb σ H1 fun y H2 => ∃ i j d, x = .int i ∧ y = .int j ∧ b2D o (.int i) (.int j) = .ok d ∧ ∀ v, RelD v d → Q v H2 := fun {σ H Q} ⟨S0, HF, own, er, q⟩ => by
    rw [evE] at q
    exact ⟨S0, HF, own, er, RT.step er q fun x d H1 e1 s1 r1 _ er1 q1 => ⟨S0, HF, own, er1, RT.step er1 q1 fun y d2 H2 e2 s2 r2 _ er2 q2 => by
      cases d with
      | int i =>
        cases d2 with
        | int j =>
          cases r1; cases r2
          cases o with
          | max => exact ⟨i, j, _, rfl, rfl, rfl, fun v r => by cases r; exact RT.ok q2 (.int _)⟩
          | min => exact ⟨i, j, _, rfl, rfl, rfl, fun v r => by cases r; exact RT.ok q2 (.int _)⟩
        | _ => cases o <;> exact q2.elim
      | _ => cases o <;> exact q2.elim⟩⟩
  cases o with
  | max =>
    refine PE.imp (pe_callB (call_max2 ok.calm) (gl_of hg).1 (ok.bi _ hm) (by rfl) pa (gl_of hg).2.2 (gl_of hg).2.1 (star_of hx) (star_none (es := [xb]) (by rw [List.all_cons, hy]; rfl) pos)) fun σ H Q h => ?_
    obtain ⟨S0, HF, own, er, q⟩ := key h
    refine ⟨S0, HF, own, er, q.imp fun d e k v H' s p => ?_⟩
    obtain ⟨S1, HF1, own1, er1, q1⟩ := k v H' s p
    exact ⟨S1, HF1, own1, er1, q1.imp fun d2 e2 k2 v2 H2 s2 p2 => by
      obtain ⟨i, j, d3, h1, h2, h3, h4⟩ := k2 v2 H2 s2 p2
      subst h1; subst h2; cases h3
      exact ⟨i, j, rfl, h4 _ (.int _)⟩⟩
  | min =>
    refine PE.imp (pe_callB (call_min2 ok.calm) (gl_of hg).1 (ok.bi _ hm) (by rfl) pa (gl_of hg).2.2 (gl_of hg).2.1 (star_of hx) (star_none (es := [xb]) (by rw [List.all_cons, hy]; rfl) pos)) fun σ H Q h => ?_
    obtain ⟨S0, HF, own, er, q⟩ := key h
    refine ⟨S0, HF, own, er, q.imp fun d e k v H' s p => ?_⟩
    obtain ⟨S1, HF1, own1, er1, q1⟩ := k v H' s p
    exact ⟨S1, HF1, own1, er1, q1.imp fun d2 e2 k2 v2 H2 s2 p2 => by
      obtain ⟨i, j, d3, h1, h2, h3, h4⟩ := k2 v2 H2 s2 p2
      subst h1; subst h2; cases h3
      exact ⟨i, j, rfl, h4 _ (.int _)⟩⟩
end
end Pu
end
section
set_option maxRecDepth 100000
set_option maxHeartbeats 1000000
namespace Pu
open PySem PySem.Spec L2
section
variable {c : Cfg} {G : Gc} {P : Pr} {X : Cx} {n : Nat} {W : WX}
theorem reps_str {fa : Nat → Option Addr} {K : PySem.W.Frag} {H : Hp} : ∀ xs : List Str, RepL fa K H (xs.map V.str) (xs.map D.str)
  | [] => .nil
  | x :: xs => .cons (.str x) (reps_str xs)
theorem gives_gl {K : PySem.W.Frag} {H : Hp} {a : Addr} {ws : List Str} (hz : ws.length ≤ sizeLine) (q0 : ∀ H, SqT K H a (ws.map V.str)) : Gives G.fa K (Itt K a) H (ws.map .str) := by
  refine ⟨by rw [List.length_map]; exact hz, fun S' H' s hs hn => ⟨fun i d e => ?_, _, q0 H', by rw [List.length_map, List.length_map]; exact Nat.le_refl _⟩⟩
  rw [List.getElem?_map] at e
  cases e1 : ws[i]? with
  | none => rw [e1] at e; cases e
  | some w =>
    rw [e1] at e
    cases e
    have e2 : (ws.map V.str)[i]? = some (.str w) := by rw [List.getElem?_map, e1] <;> rfl
    refine ⟨⟨_, .str w, q0 H', e2⟩, fun x H2 ⟨e3, h⟩ => ?_⟩
    subst e3
    have := h _ (q0 H2)
    rw [e2] at this
    cases this
    exact ⟨Same.refl _, .str _⟩
theorem L_gseq (ok : Cok c G P X n) {j : Nat} {y : Str} {p : Pos} {tg : Expr} {env : Env} (hm : (j, y) ∈ c.tgs) (hg : glB X.env.scope y = true) : PI X tg (.Name y p) (tI G X.K W env (evI P env (.gseq j))) := by
  obtain ⟨a, ws, h1, h2, hz, h3⟩ := ok.tg j y hm
  have pe : PE X (.Name y p) (tC (V.ref a)) := pe_glob (gl_of hg).1 h1 rfl (gl_of hg).2.1
  refine PI.imp (pi_tup pe) fun σ H Q ⟨S0, HF, own, er, q⟩ => ?_
  rw [evI, h2] at q
  exact ⟨a, rfl, ⟨_, h3 H⟩, RT.ok q (gives_gl (sz_words (by omega)) h3)⟩
theorem gives_glz {K : PySem.W.Frag} {H : Hp} {u : Bool} {a b : Addr} {ws : List Str} {vs : List V} {es : List D} (hz : ws.length ≤ sizeLine) (q0 : ∀ H, SqT K H a (ws.map V.str)) (g1 : H b = some (if u then .tup vs else .lst vs)) (g3 : RepL G.fa K H vs es) :
    Gives G.fa K (ItQ true u K a b) H (((ws.map D.str).zip es).map fun p => .tup [p.1, p.2]) := by
  refine ⟨by rw [List.length_map, List.length_zip, List.length_map]; exact Nat.le_trans (Nat.min_le_left _ _) hz, fun S' H' s hs hn => ?_⟩
  have q' : SqQ u K H' b vs := by
    cases u
    · exact SqL.of (s _ _ g1)
    · exact SqT.of (s _ _ g1)
  have q : SqQ true K H' a (ws.map V.str) := q0 H'
  refine ⟨fun i d e => ?_, _, vs, q, q', by simp [g3.length]⟩
  rw [List.getElem?_map] at e
  cases e0 : ((ws.map D.str).zip es)[i]? with
  | none => rw [e0] at e; cases e
  | some p =>
  rw [e0] at e
  cases e
  rw [List.getElem?_zip_eq_some] at e0
  obtain ⟨v, e1, r1⟩ := (reps_str (fa := G.fa) (K := K) (H := H) ws).get e0.1
  obtain ⟨w, f1, r2⟩ := g3.get e0.2
  refine ⟨⟨_, vs, v, w, q, q', e1, f1⟩, fun x H2 ⟨T, y, y', ex, hT, e2, h, h'⟩ => ?_⟩
  subst e2; subst ex
  have := h _ q
  rw [e1] at this
  cases this
  have := h' vs q'
  rw [f1] at this
  cases this
  exact ⟨Same.upd hT, new_tup hn hT (.cons (r1.mono (Le.of (vis_hid s hs))) (.cons (r2.mono (Le.of (vis_hid s hs))) .nil)) (sz_words (show 2 ≤ 1000 by decide))⟩
theorem L_gzip (ok : Cok c G P X n) {j : Nat} {b : E} {y : Str} {xb : Expr} {p p2 pos tpos : Pos} {elts : List Expr} {kk : Nat} {env : Env} {fb : Bool} (hm : ("zip" : Str) ∈ c.bis) (hg : glB X.env.scope "zip" = true) (hm2 : (j, y) ∈ c.tgs) (hg2 : glB X.env.scope y = true)
    (h' : PE X xb (tE G X.K W env (evE P env b) fb)) (hy : plainX xb = true) : PI X (.Tuple elts kk tpos) (.Call (.Name "zip" p) [.Name y p2, xb] [] pos) (tI G X.K W env (evI P env (.gzip j b))) := by
  obtain ⟨a, ws, h1, h2, hz, h3⟩ := ok.tg j y hm2
  have pe : PE X (.Name y p2) (tC (V.ref a)) := pe_glob (gl_of hg2).1 h1 rfl (gl_of hg2).2.1
  have hx : plainX (.Name y p2) = true := rfl
  refine PI.imp (pi_zipQ (gl_of hg).1 (ok.bi _ hm) (pa_cons pe (pa_cons h' pa_nil (star_of hy)) (star_of hx)) (star_of hx) (star_none (es := [xb]) (by rw [List.all_cons, hy]; rfl) pos)) fun σ H Q ⟨S0, HF, own, er, q⟩ => ?_
  rw [evI, h2] at q
  refine ⟨S0, HF, own, er, RT.step er q fun w d2 H2 e2 s2 r2 o2 er2 q2 => ?_⟩
  have key : ∃ u es, seqB d2 = some (u, es) ∧ zipD (.tup (ws.map .str)) d2 = .ok (((ws.map D.str).zip es).map fun p => .tup [p.1, p.2]) := by
    cases d2 <;> first | exact q2.elim | exact ⟨_, _, rfl, rfl⟩
  obtain ⟨u, es, ed2, ez⟩ := key
  obtain ⟨b, vs, eb, g1, g2, g3⟩ := seq_of r2 ed2
  subst eb
  rw [ez] at q2
  have sq : SqQ u X.K H2 b vs := by
    cases u
    · exact SqL.of (hid_same _ _ g1)
    · exact SqT.of (hid_same _ _ g1)
  exact ⟨true, u, a, b, _, vs, rfl, h3 H2, sq, RT.ok q2 (gives_glz (sz_words (by omega)) h3 g1 g3)⟩
theorem L_join (ok : Cok c G P X n) {a b : E} {xa xb : Expr} {ap cp : Pos} {env : Env} {fa fb : Bool} (h : PE X xa (tE G X.K W env (evE P env a) fa)) (h' : PE X xb (tE G X.K W env (evE P env b) fb)) (bx : baseX2 xa = true) (hx : plainX xb = true) (hl : (ap.endLine == cp.line) = true) :
    PE X (.Call (.Attribute xa "join" ap) [xb] [] cp) (tE G X.K W env (evE P env (.m1 .join a b)) false) :=
  PE.imp (pe_bm PySem.F.plainAttrs_str PySem.F.slot_str_join PySem.F.type_str_join mt_join h (pa_cons h' pa_nil (star_of hx)) (base_of2 bx _) (few_of' hx) hl (star_of hx) rfl) fun σ H Q ⟨S0, HF, own, er, q⟩ => by
    rw [evE] at q
    refine ⟨S0, HF, own, er, RT.step er q fun x d H1 e1 s1 r1 _ er1 q1 => ?_⟩
    cases d with
    | str z =>
      cases r1
      rw [show m1A M1.join (D.str z) = true from rfl, if_pos rfl] at q1
      refine ⟨rfl, S0, HF, own, er1, RT.step er1 q1 fun y d2 H2 e2 s2 r2 _ er2 q2 => ?_⟩
      cases d2 with
      | lst xs =>
        have q2 : RT G W σ H2 ((R.ofO (strsD xs)).bind fun ys => if (ys.map (·.length)).sum + ys.length * z.length ≤ 1000000 then R.ok (.str (Txt.join z ys)) else .bad) (fun v H' d => Pst G X.K false (SS S0 own) H H' v d) Q := q2
        cases e3 : strsD xs with
        | none => rw [e3] at q2; exact q2.elim
        | some ys =>
          rw [e3, R.ofO_some, R.bind_ok] at q2
          split at q2
          · rename_i hz
            cases r2 with | @lst l vs _ g1 g2 g3 => ?_
            have ev := strs_rep g3 e3
            subst ev
            exact ⟨z, l, ys, rfl, rfl, .inl (SqL.of (hid_same _ _ g1)), by omega, RT.ok q2 (.str _)⟩
          · exact q2.elim
      | _ => exact q2.elim
    | _ => exact q1.elim
theorem L_split (ok : Cok c G P X n) {a b : E} {xa xb : Expr} {ap cp : Pos} {env : Env} {fa fb : Bool} (h : PE X xa (tE G X.K W env (evE P env a) fa)) (h' : PE X xb (tE G X.K W env (evE P env b) fb)) (bx : baseX2 xa = true) (hx : plainX xb = true) (hl : (ap.endLine == cp.line) = true) :
    PE X (.Call (.Attribute xa "split" ap) [xb] [] cp) (tE G X.K W env (evE P env (.m1 .split a b)) false) :=
  PE.imp (pe_bm PySem.F.plainAttrs_str PySem.F.slot_str_split PySem.F.type_str_split mt_split h (pa_cons h' pa_nil (star_of hx)) (base_of2 bx _) (few_of' hx) hl (star_of hx) rfl) fun σ H Q ⟨S0, HF, own, er, q⟩ => by
    rw [evE] at q
    refine ⟨S0, HF, own, er, RT.step er q fun x d H1 e1 s1 r1 _ er1 q1 => ?_⟩
    cases d with
    | str z =>
      cases r1
      rw [show m1A M1.split (D.str z) = true from rfl, if_pos rfl] at q1
      refine ⟨rfl, S0, HF, own, er1, RT.step er1 q1 fun y d2 H2 e2 s2 r2 _ er2 q2 => ?_⟩
      cases d2 with
      | str w =>
        have q2 : RT G W σ H2 (if (w.length == 0) = false ∧ z.length ≤ 1000000 then R.ok (.lst ((Txt.split z w).map .str)) else .bad) (fun v H' d => Pst G X.K false (SS S0 own) H H' v d) Q := q2
        split at q2
        · rename_i hz
          cases r2
          have zl : z.length + 2 ≤ sizeLine := by have := hz.2; rw [sizeLine_eq]; omega
          refine ⟨z, w, rfl, rfl, hz.1, zl, fun p hp => ?_⟩
          refine q2 _ _ (Same.upd hp) ?_
          exact new_lst er2.nt hp (reps_str _) (by rw [List.length_map]; exact Nat.le_trans (PyProof.Rows.split_le z w) zl)
        · exact q2.elim
      | _ => exact q2.elim
    | _ => exact q1.elim
theorem L_part (ok : Cok c G P X n) {a b : E} {xa xb : Expr} {ap cp : Pos} {env : Env} {fa fb : Bool} (h : PE X xa (tE G X.K W env (evE P env a) fa)) (h' : PE X xb (tE G X.K W env (evE P env b) fb)) (bx : baseX2 xa = true) (hx : plainX xb = true) (hl : (ap.endLine == cp.line) = true) :
    PE X (.Call (.Attribute xa "partition" ap) [xb] [] cp) (tE G X.K W env (evE P env (.m1 .part a b)) false) :=
  PE.imp (pe_bm PySem.F.plainAttrs_str PySem.F.slot_str_partition PySem.F.type_str_partition mt_partition h (pa_cons h' pa_nil (star_of hx)) (base_of2 bx _) (few_of' hx) hl (star_of hx) rfl) fun σ H Q ⟨S0, HF, own, er, q⟩ => by
    rw [evE] at q
    refine ⟨S0, HF, own, er, RT.step er q fun x d H1 e1 s1 r1 _ er1 q1 => ?_⟩
    cases d with
    | str z =>
      cases r1
      rw [show m1A M1.part (D.str z) = true from rfl, if_pos rfl] at q1
      refine ⟨rfl, S0, HF, own, er1, RT.step er1 q1 fun y d2 H2 e2 s2 r2 _ er2 q2 => ?_⟩
      cases d2 with
      | str w =>
        have q2 : RT G W σ H2 (if (w.length == 0) = false ∧ z.length ≤ 1000000 then R.ok (.tup [.str (Txt.partition z w).1, .str (Txt.partition z w).2.1, .str (Txt.partition z w).2.2]) else .bad) (fun v H' d => Pst G X.K false (SS S0 own) H H' v d) Q := q2
        split at q2
        · rename_i hz
          cases r2
          have zl : z.length ≤ sizeLine := by have := hz.2; rw [sizeLine_eq]; omega
          refine ⟨z, w, rfl, rfl, hz.1, zl, fun p hp => ?_⟩
          refine q2 _ _ (Same.upd hp) ?_
          exact new_tup er2.nt hp (.cons (.str _) (.cons (.str _) (.cons (.str _) .nil))) (sz_words (show 3 ≤ 1000 by decide))
        · exact q2.elim
      | _ => exact q2.elim
    | _ => exact q1.elim
theorem digit_text : ∀ k : Nat, k < 10 → (toString (k : Int) : Str) = ⟨#[48 + k]⟩ := by decide +kernel
theorem text_digit : ∀ k : Nat, k < 10 → PySem.intText? ⟨#[48 + k]⟩ = some (k : Int) := by decide +kernel
theorem b1_strI : CallR X (.type "str") (rF G X.K false (b1D .str)) := by
  intro pins s σ H as us Q I r h
  obtain ⟨S, x, a, d, rfl, hS, ra, e, q⟩ := h
  cases a with
  | int i =>
    have e : (if 0 ≤ i ∧ i ≤ 9 then R.ok (D.str ⟨#[48 + i.toNat]⟩) else .bad) = .ok d := e
    split at e
    · rename_i hz
      cases e
      cases ra
      obtain ⟨k, rfl⟩ := Int.eq_ofNat_of_zero_le hz.1
      have hk : k < 10 := by omega
      refine call_str_int pins s σ H _ us Q I r ⟨_, rfl, ?_, ?_⟩
      · have : ∀ k : Nat, k < 10 → (k : Int).natAbs.log2 < 1920 := by decide +kernel
        exact this k hk
      · rw [digit_text k hk]
        exact q _ H (Same.refl H) (.str _)
    · cases e
  | _ => cases e
theorem b1_intS : CallR X (.type "int") (rF G X.K false (b1D .intd)) := by
  intro pins s σ H as us Q I r h
  obtain ⟨S, x, a, d, rfl, hS, ra, e, q⟩ := h
  cases a with
  | str z =>
    have e : (match z.cps.toList with | [c] => if 48 ≤ c ∧ c ≤ 57 then R.ok (D.int ((c : Int) - 48)) else .bad | _ => .bad) = .ok d := e
    split at e
    · rename_i c hc
      split at e
      · rename_i hz
        cases e
        cases ra
        obtain ⟨k, hk⟩ : ∃ k, c = 48 + k := ⟨c - 48, by omega⟩
        subst hk
        have ez : z = ⟨#[48 + k]⟩ := by
          obtain ⟨cp⟩ := z
          have : cp = #[48 + k] := Array.toList_inj.mp hc
          rw [this]
        subst ez
        refine call_int_str pins s σ H _ us Q I r ⟨_, (k : Int), rfl, text_digit k (by omega), ?_, ?_⟩
        · show 1 ≤ 640
          decide
        · have := q (.int (((48 + k : Nat) : Int) - 48)) H (Same.refl H) (.int _)
          rw [show (((48 + k : Nat) : Int) - 48) = (k : Int) by omega] at this
          exact this
      · cases e
    · cases e
  | _ => cases e
end
end Pu
end
section
set_option maxRecDepth 100000
set_option maxHeartbeats 1000000
namespace Pu
open PySem PySem.Spec L2
section
variable {c : Cfg} {G : Gc} {P : Pr} {X : Cx} {n : Nat} {W : WX}
theorem L_callx (ok : Cok c G P X n) (hp : ∀ σ, PassesAt (L2N.CX X.prog X.w) X σ (WE W σ)) {f : E} {u v : Expr} {q0 pos : Pos} {es : EL} {x : Expr} {xs : List Expr} {env : Env} {ff : Bool} (hf : PE X (.Subscript u v q0) (tE G X.K W env (evE P env f) ff))
    (h : PA X (x :: xs) (tL G X.K W env (evL P env es))) (hx : (x :: xs).all plainX = true) : PE X (.Call (.Subscript u v q0) (x :: xs) [] pos) (tE G X.K W env (evE P env (.callv f es)) false) := by
  simp only [List.all_cons, Bool.and_eq_true] at hx
  refine ⟨fun pins s σ H Q I ⟨S0, HF, own, er, q⟩ => ?_⟩
  rw [evE] at q
  have h0 : tE G X.K W env (evE P env f) ff σ H fun y H1 => ∃ k a, y = .ref a ∧ G.fa k = some a ∧ ER G X.K S0 HF own σ H1 env ∧ RT G W σ H1 ((evL P env es).bind fun ds => P.call k ds) (fun v H' d => Pst G X.K false (SS S0 own) H H' v d) Q :=
    ⟨S0, HF, own, er, RT.step er q fun y d H1 e1 s1 r1 _ er1 q1 => by
      cases d with
      | fn k =>
        cases r1 with | fn _ hk => ?_
        exact ⟨k, _, rfl, hk, er1, q1⟩
      | _ => exact q1.elim⟩
  refine PyProof.Rows.Call_ (thn (hf.run pins s σ H _ I h0) fun y s1 ⟨z, H1, I1, r1, k, a, ez, hk, er1, q1⟩ => ?_)
  subst ez
  cases r1
  obtain ⟨g, hg⟩ := ok.fv k a hk
  obtain ⟨a', ea, _, kp, fd, ps, F, b⟩ := ok.fn k g hg
  rw [hk] at ea
  cases ea
  refine PySem.W.callWith_K (h₀ := X.base) I1.ok.mod.kin kp (thn (h.run pos pins s1 σ H1 (fun vs H2 => spF G X.K P.call k vs H2 Q (WE W σ)) I1 ⟨S0, HF, own, er1, RT.stepL er1 q1 fun vs ds H2 e1 s2 r2 er2 q2 => ⟨_, ds, er2.nt, r2, ?_⟩⟩) fun us s2 ⟨vs, H2, I2, r2, q2⟩ => ⟨I2.kIn, run_fnS F ok.room b (hp σ) I2 r2 q2⟩) (star_of hx.1) (star_none hx.2 pos)
  cases ec : P.call k ds <;> rw [ec] at q2 <;> exact q2
end
end Pu
end
section
set_option maxRecDepth 100000
set_option maxHeartbeats 1000000
namespace Pu
open PySem PySem.Spec L2
def tyN : Ty → String
  | .str => "str" | .int => "int" | .bool => "bool" | .tuple => "tuple" | .list => "list"
def dTy : D → String
  | .non => "NoneType" | .bl _ => "bool" | .int _ => "int" | .str _ => "str" | .tup _ => "tuple" | .lst _ => "list" | _ => ""
section
variable {c : Cfg} {G : Gc} {P : Pr} {X : Cx} {n : Nat} {W : WX}
theorem isiD_kit {t : Ty} {a : D} {r : Bool} (h : isiD t a = .ok r) : kitB (dTy a) (tyN t) = some r ∧ (dTy a = "" → False) := by
  cases t <;> cases a <;> (first | (cases h; done) | (cases h; refine ⟨?_, by simp [dTy]⟩; simp only [dTy, tyN]; decide +kernel))
theorem isiD_ne (t : Ty) (a : D) (c p) : isiD t a ≠ .exc c p := by
  cases t <;> cases a <;> first | exact ok_ne | exact bad_ne
theorem ty_rep {fa : Nat → Option Addr} {K : PySem.W.Frag} {H : Hp} {v : V} {a : D} (r : Rep fa K H v a) (h : dTy a = "" → False) : TyX K H v (.type (dTy a)) := by
  cases r with
  | non => exact .base .non
  | bl b => exact .base (.bl b)
  | int i => exact .base (.int i)
  | str x => exact .base (.str x)
  | tup h1 _ _ => exact .base (.tup h1)
  | lst h1 _ _ => exact .base (.lst h1)
  | fn _ => exact (h rfl).elim
  | scr _ _ => exact (h rfl).elim
  | dK _ _ _ => exact (h rfl).elim
  | dT _ _ _ _ => exact (h rfl).elim
theorem TyX.same {K : PySem.W.Frag} {H H' : Hp} {v : V} {n : String} (h : TyX K H v (.type n)) (s : Same H H') : TyX K H' v (.type n) := by
  generalize e : Value.type n = t at h
  cases h with
  | base h =>
    cases h with
    | non => exact .base .non
    | bl b => exact .base (.bl b)
    | int i => exact .base (.int i)
    | str x => exact .base (.str x)
    | flt x => exact .base (.flt x)
    | lst h => exact .base (.lst (s _ _ h))
    | frz h => exact .base (.frz (s _ _ h))
    | tup h => exact .base (.tup (s _ _ h))
    | dK h => exact .base (.dK (s _ _ h))
    | dT h => exact .base (.dT (s _ _ h))
    | ins h _ _ _ _ _ => cases e
  | byt b => exact .byt b
  | set h => exact .set (s _ _ h)
  | kList h1 h2 => exact .kList h1 h2
  | kTuple h1 h2 => exact .kTuple h1 h2
  | kDict h1 h2 => exact .kDict h1 h2
  | fTuple h => exact .fTuple (s _ _ h)
  | fDict h => exact .fDict (s _ _ h)
theorem boot_ty (t : Ty) : bootBuiltins (Str.ofString (tyN t)) = some (.type (tyN t)) ∧ (Str.ofString (tyN t)) ≠ Str.ofString "__name__" ∧ (Str.ofString (tyN t) == Str.ofString "__debug__") = false := by
  cases t <;> decide +kernel
theorem L_isi (ok : Cok c G P X n) {t : Ty} {a : E} {xa : Expr} {p p2 pos : Pos} {env : Env} {fa : Bool} (hm : ("isinstance" : Str) ∈ c.bis) (hg : glB X.env.scope "isinstance" = true) (hm2 : Str.ofString (tyN t) ∈ c.bis) (hg2 : glB X.env.scope (Str.ofString (tyN t)) = true)
    (ha : PE X xa (tE G X.K W env (evE P env a) fa)) (hx : plainX xa = true) : PE X (.Call (.Name "isinstance" p) [xa, .Name (Str.ofString (tyN t)) p2] [] pos) (tE G X.K W env (evE P env (.isi t a)) false) := by
  have h2 : PE X (.Name (Str.ofString (tyN t)) p2) (tC (.ty (tyN t))) := pe_bltn (gl_of hg2).1 (ok.bi _ hm2) (boot_ty t).1 rfl (boot_ty t).2.1 (boot_ty t).2.2
  refine PE.imp (pe_callB call_isi (gl_of hg).1 (ok.bi _ hm) (by rfl) (pa_cons ha (pa_cons h2 pa_nil rfl) (star_of (es := [.Name _ p2]) hx)) (gl_of hg).2.2 (gl_of hg).2.1 (star_of hx) rfl) fun σ H Q ⟨S0, HF, own, er, q⟩ => ?_
  rw [evE] at q
  exact ⟨S0, HF, own, er, RT.step er q fun x d H1 e1 s1 r1 _ er1 q1 => by
    cases e2 : isiD t d with
    | exc c p => exact (isiD_ne t d c p e2).elim
    | bad => rw [e2] at q1; exact q1.elim
    | ok r =>
      rw [e2] at q1
      obtain ⟨k1, k2⟩ := isiD_kit e2
      exact ⟨x, .ty (tyN t), _, _, r, rfl, .ty _, ty_rep (un_hid r1) k2, kit_ty k1, RT.ok q1 (.bl r)⟩⟩
def baseX : Expr → Bool
  | .Call _ _ _ _ => false
  | _ => true
theorem base_of {o : Expr} {m : Str} {env : PySem.Env} (h : baseX o = true) (whole : Sem Value) : attributeBase o m env whole = whole := by
  cases o <;> first | rfl | cases h
theorem L_dget (ok : Cok c G P X n) {d k x : E} {xd xk xx : Expr} {apos cpos : Pos} {env : Env} {fd fk fx : Bool} (hd : PE X xd (tE G X.K W env (evE P env d) fd)) (hk : PE X xk (tE G X.K W env (evE P env k) fk)) (hx : PE X xx (tE G X.K W env (evE P env x) fx))
    (bd : baseX xd = true) (pk : plainX xk = true) (px : plainX xx = true) (hl : (apos.endLine == cpos.line) = true) :
    PE X (.Call (.Attribute xd "get" apos) [xk, xx] [] cpos) (tE G X.K W env (evE P env (.dget d k x)) false) := by
  have m : M2 X xd (Str.ofString "get") apos xk xx cpos := by
    refine ⟨base_of bd _, ?_, hl, ?_⟩
    · rw [star_of (es := [xx]) pk, star_of (es := []) px]; rfl
    · rw [star_of (es := [xx]) pk, star_of (es := []) px]; rfl
  refine PE.imp (pe_dget2 ok.hu hd hk hx m) fun σ H Q ⟨S0, HF, own, er, q⟩ => ?_
  rw [evE] at q
  exact ⟨S0, HF, own, er, RT.step er q fun x1 d1 H1 e1 s1 r1 _ er1 q1 => by
    have isD : ∀ t kvs, d1 = .dct t kvs → ∃ a, x1 = .ref a ∧ IsD H1 a := fun t kvs e => by
      subst e
      cases r1 with
      | @dK a kv0 _ h _ _ => exact ⟨a, rfl, .inl ⟨_, (Le.of hid_same).rd rfl h⟩⟩
      | @dT a kv0 _ h _ _ _ => exact ⟨a, rfl, .inr ⟨_, (Le.of hid_same).rd rfl h⟩⟩
    have tail : ∀ t kvs a, d1 = .dct t kvs → x1 = .ref a → tE G X.K W env (evE P env k) fk σ H1 fun y H2 => tE G X.K W env (evE P env x) fx σ H2 fun z H3 => ∃ o, DGet H3 a y o ∧ Q (o.getD z) H3 := fun t kvs a ed ex => by
      subst ed; subst ex
      exact ⟨S0, HF, own, er1, RT.step er1 q1 fun y d2 H2 e2 s2 r2 _ er2 q2 => ⟨S0, HF, own, er2, RT.step er2 q2 fun z d3 H3 e3 s3 r3 _ er3 q3 => by
        obtain ⟨kk, e4, q4⟩ := RT.ofO q3
        obtain ⟨p, o, h1, h2, h3, h4⟩ := dget_of (r1.later (s2.trans s3)) (r2.later s3) e4
        cases h1
        refine ⟨o, h2, ?_⟩
        rcases h4 with ⟨h5, h6⟩ | ⟨v, dd, h5, h6, h7⟩
        · subst h5
          refine RT.ok q4 ?_
          rw [h6]
          exact r3
        · subst h5
          refine RT.ok q4 ?_
          rw [h6]
          exact h7⟩⟩
    cases d1 with
    | dct t kvs =>
      obtain ⟨a, ea, ha⟩ := isD t kvs rfl
      exact ⟨a, ea, ha, tail t kvs a rfl ea⟩
    | _ =>
      exact q1.elim⟩
end
end Pu
end
section
set_option maxRecDepth 100000
namespace Pu
open PySem PySem.Spec L2
theorem sLt_iff {x y : Str} : sLt x y = true ↔ x.cps.toList < y.cps.toList := by simp [sLt]
theorem str_ext {x y : Str} (h : x.cps.toList = y.cps.toList) : x = y := by
  obtain ⟨a⟩ := x
  obtain ⟨b⟩ := y
  have : a = b := Array.ext' h
  rw [this]
theorem sLt_irrefl (x : Str) : sLt x x = false := by
  cases h : sLt x x with
  | false => rfl
  | true => exact absurd (sLt_iff.mp h) (List.lt_irrefl _)
theorem sLt_trans {x y z : Str} (h : sLt x y = true) (h' : sLt y z = true) : sLt x z = true := sLt_iff.mpr (List.lt_trans (sLt_iff.mp h) (sLt_iff.mp h'))
theorem sLt_tri (x y : Str) : sLt x y = true ∨ x = y ∨ sLt y x = true := by
  by_cases h : x.cps.toList < y.cps.toList
  · exact .inl (sLt_iff.mpr h)
  · by_cases h' : y.cps.toList < x.cps.toList
    · exact .inr (.inr (sLt_iff.mpr h'))
    · exact .inr (.inl (str_ext (List.le_antisymm (List.not_lt.mp h') (List.not_lt.mp h))))
theorem sLt_asymm {x y : Str} (h : sLt x y = true) : sLt y x = false := by
  cases h' : sLt y x with
  | false => rfl
  | true => have := sLt_trans h h'; rw [sLt_irrefl] at this; cases this
abbrev Rise (l : List Str) : Prop := l.Pairwise fun a b => sLt a b = true
theorem mem_insU {x k : Str} : ∀ {l : List Str}, k ∈ insU x l ↔ k = x ∨ k ∈ l
  | [] => by simp [insU]
  | y :: r => by
    unfold insU
    split
    · simp
    · split
      · rename_i e; subst e; simp
      · rw [List.mem_cons, mem_insU, List.mem_cons]
        constructor
        · rintro (h | h | h)
          · exact .inr (.inl h)
          · exact .inl h
          · exact .inr (.inr h)
        · rintro (h | h | h)
          · exact .inr (.inl h)
          · exact .inl h
          · exact .inr (.inr h)
theorem rise_insU {x : Str} : ∀ {l : List Str}, Rise l → Rise (insU x l)
  | [], _ => List.pairwise_singleton _ _
  | y :: r, h => by
    have ⟨h1, h2⟩ := List.pairwise_cons.mp h
    unfold insU
    split
    · rename_i e
      exact List.pairwise_cons.mpr ⟨fun z hz => by
        rcases List.mem_cons.mp hz with q | q
        · subst q; exact e
        · exact sLt_trans e (h1 z q), h⟩
    · rename_i e
      split
      · exact h
      · rename_i ne
        refine List.pairwise_cons.mpr ⟨fun z hz => ?_, rise_insU h2⟩
        rcases mem_insU.mp hz with q | q
        · subst q
          rcases sLt_tri z y with a | a | a
          · exact absurd a e
          · exact absurd a ne
          · exact a
        · exact h1 z q
theorem mem_usort {k : Str} : ∀ {l : List Str}, k ∈ usort l ↔ k ∈ l
  | [] => by simp [usort]
  | x :: l => by
    show k ∈ insU x (usort l) ↔ _
    rw [mem_insU, mem_usort, List.mem_cons]
theorem rise_usort : ∀ (l : List Str), Rise (usort l)
  | [] => List.Pairwise.nil
  | x :: l => rise_insU (rise_usort l)
theorem rise_uniq : ∀ {l l' : List Str}, Rise l → Rise l' → (∀ k, k ∈ l ↔ k ∈ l') → l = l'
  | [], [], _, _, _ => rfl
  | [], y :: r, _, _, h => by have := (h y).mpr List.mem_cons_self; cases this
  | x :: l, [], _, _, h => by have := (h x).mp List.mem_cons_self; cases this
  | x :: l, y :: r, h1, h2, h => by
    obtain ⟨a1, a2⟩ := List.pairwise_cons.mp h1
    obtain ⟨b1, b2⟩ := List.pairwise_cons.mp h2
    have e : x = y := by
      rcases List.mem_cons.mp ((h x).mp List.mem_cons_self) with q | q
      · exact q
      · rcases List.mem_cons.mp ((h y).mpr List.mem_cons_self) with q' | q'
        · exact q'.symm
        · have := sLt_asymm (b1 x q)
          rw [a1 y q'] at this; cases this
    subst e
    have : l = r := rise_uniq a2 b2 fun k => by
      constructor
      · intro hk
        rcases List.mem_cons.mp ((h k).mp (List.mem_cons_of_mem _ hk)) with q | q
        · subst q; have := a1 k hk; rw [sLt_irrefl] at this; cases this
        · exact q
      · intro hk
        rcases List.mem_cons.mp ((h k).mpr (List.mem_cons_of_mem _ hk)) with q | q
        · subst q; have := b1 k hk; rw [sLt_irrefl] at this; cases this
        · exact q
    rw [this]
theorem rise_nodup {l : List Str} (h : Rise l) : l.Nodup := h.imp fun {a b} q e => by subst e; rw [sLt_irrefl] at q; cases q
theorem rise_sorted : ∀ {l : List Str}, PyProof.Rows.sortedS l = true → l.Nodup → Rise l
  | [], _, _ => .nil
  | x :: l, h, nd => by
    have go : ∀ (l : List Str) (x : Str), PyProof.Rows.risingS x l = true → (x :: l).Nodup → Rise (x :: l) := fun l => by
      induction l with
      | nil => intro x _ _; exact List.pairwise_singleton _ _
      | cons y r ih =>
        intro x h nd
        have h : (!PySem.Spec.ltCps y.cps.toList x.cps.toList && PyProof.Rows.risingS y r) = true := h
        rw [Bool.and_eq_true, Bool.not_eq_true', PyProof.Rows.ltCps_eq, decide_eq_false_iff_not] at h
        have ⟨n1, n2⟩ := List.nodup_cons.mp nd
        have r2 := ih y h.2 n2
        have xy : sLt x y = true := by
          rcases sLt_tri x y with a | a | a
          · exact a
          · subst a; exact absurd List.mem_cons_self n1
          · exact absurd (sLt_iff.mp a) h.1
        refine List.pairwise_cons.mpr ⟨fun z hz => ?_, r2⟩
        rcases List.mem_cons.mp hz with q | q
        · subst q; exact xy
        · exact sLt_trans xy ((List.pairwise_cons.mp r2).1 z q)
    exact go l x h nd
theorem loose_sorted : ∀ {l : List Str}, PyProof.Rows.sortedS l = true → l.Pairwise fun a b => sLt b a = false
  | [], _ => .nil
  | x :: l, h => by
    have go : ∀ (l : List Str) (x : Str), PyProof.Rows.risingS x l = true → (x :: l).Pairwise fun a b => sLt b a = false := fun l => by
      induction l with
      | nil => intro x _; exact List.pairwise_singleton _ _
      | cons y r ih =>
        intro x h
        have h : (!PySem.Spec.ltCps y.cps.toList x.cps.toList && PyProof.Rows.risingS y r) = true := h
        rw [Bool.and_eq_true, Bool.not_eq_true', PyProof.Rows.ltCps_eq, decide_eq_false_iff_not] at h
        have r2 := ih y h.2
        have xy : sLt y x = false := by
          cases z : sLt y x with
          | false => rfl
          | true => exact absurd (sLt_iff.mp z) h.1
        refine List.pairwise_cons.mpr ⟨fun z hz => ?_, r2⟩
        rcases List.mem_cons.mp hz with q | q
        · subst q; exact xy
        · have yz := (List.pairwise_cons.mp r2).1 z q
          cases w : sLt z x with
          | false => rfl
          | true =>
            rcases sLt_tri y x with v | v | v
            · rw [xy] at v; cases v
            · rw [v, w] at yz; cases yz
            · rw [sLt_trans w v] at yz; cases yz
    exact go l x h
theorem loose_uniq : ∀ {A B : List Str}, A.Perm B → A.Pairwise (fun a b => sLt b a = false) → B.Pairwise (fun a b => sLt b a = false) → A = B
  | [], B, h, _, _ => (List.nil_perm.mp h).symm
  | a :: A, [], h, _, _ => nomatch (List.perm_nil.mp h)
  | a :: A, b :: B, h, hA, hB => by
    obtain ⟨a1, a2⟩ := List.pairwise_cons.mp hA
    obtain ⟨b1, b2⟩ := List.pairwise_cons.mp hB
    have e : a = b := by
      rcases List.mem_cons.mp (h.mem_iff.mp List.mem_cons_self : a ∈ b :: B) with z | z
      · exact z
      · rcases List.mem_cons.mp (h.mem_iff.mpr List.mem_cons_self : b ∈ a :: A) with w | w
        · exact w.symm
        · have v1 := a1 b w
          have v2 := b1 a z
          rcases sLt_tri a b with u | u | u
          · rw [v2] at u; cases u
          · exact u
          · rw [v1] at u; cases u
    subst e
    congr 1
    exact loose_uniq ((List.perm_cons a).mp h) a2 b2
theorem loose_merge (xs : List Str) : (xs.mergeSort fun a b => !sLt b a).Pairwise fun a b => sLt b a = false := by
  have tr : ∀ a b c : Str, (!sLt b a) = true → (!sLt c b) = true → (!sLt c a) = true := fun a b c h1 h2 => by
    rw [Bool.not_eq_true'] at h1 h2 ⊢
    cases w : sLt c a with
    | false => rfl
    | true =>
      rcases sLt_tri b a with v | v | v
      · rw [h1] at v; cases v
      · rw [v, w] at h2; cases h2
      · rw [sLt_trans w v] at h2; cases h2
  have to : ∀ a b : Str, (!sLt b a || !sLt a b) = true := fun a b => by
    cases h : sLt b a with
    | false => rfl
    | true => rw [sLt_asymm h] <;> rfl
  exact (List.pairwise_mergeSort (le := fun a b => !sLt b a) tr to xs).imp fun {a b} h => by rwa [Bool.not_eq_true'] at h
theorem sortU_of {l xs : List Str} (h : PyProof.Rows.sortedS l = true) (p : l.Perm xs) : l = sortU xs := by
  unfold sortU
  split
  · rename_i nd
    exact rise_uniq (rise_sorted h (p.nodup_iff.mpr nd)) (rise_usort xs) fun k => p.mem_iff.trans mem_usort.symm
  · exact loose_uniq (p.trans (List.mergeSort_perm xs _).symm) (loose_sorted h) (loose_merge xs)
theorem sortU_len (xs : List Str) : (sortU xs).length ≤ xs.length := by
  unfold sortU
  split
  · have insl : ∀ (x : Str) (l : List Str), (insU x l).length ≤ l.length + 1 := fun x l => by
      induction l with
      | nil => exact Nat.le_refl _
      | cons y r ih =>
        unfold insU
        split
        · exact Nat.le_refl _
        · split
          · exact Nat.le_succ _
          · exact Nat.succ_le_succ ih
    have : ∀ l : List Str, (usort l).length ≤ l.length := fun l => by
      induction l with
      | nil => exact Nat.le_refl _
      | cons x l ih => exact Nat.le_trans (insl x (usort l)) (Nat.succ_le_succ ih)
    exact this xs
  · rw [(List.mergeSort_perm xs _).length_eq]
    exact Nat.le_refl _
theorem usort_of {l xs : List Str} (h : PyProof.Rows.sortedS l = true) (nd : l.Nodup) (hm : ∀ k, k ∈ l ↔ k ∈ xs) : l = usort xs :=
  rise_uniq (rise_sorted h nd) (rise_usort xs) fun k => (hm k).trans mem_usort.symm
end Pu
end
section
set_option maxRecDepth 100000
set_option maxHeartbeats 1000000
namespace Pt
open PySem PySem.Spec PyProof.Rows L2
abbrev stO (es : Array (Int × Value)) (ep : Nat) (t : SetTable) : Obj := { cls := .type "set", dict := none, data := .set es ep t }
def txt : Value → Str
  | .str x _ => x
  | _ => Str.empty
def words (es : Array (Int × Value)) : List Str := es.toList.map fun e => txt e.2
structure Tab (w : World) (t : SetTable) (n : Nat) : Prop where
  fit : t.fits n = true
  up : Ris t.place.toList
  led : t.led = true ∨ w.params.followText "set-order" = true
theorem Tab.dull {w : World} {t : SetTable} {n : Nat} (T : Tab w t n) (b : Bool) : Tab w (if b = true then t else { t with plain := false }) n := by
  cases b with
  | true => exact T
  | false => exact ⟨SetTable.fits_plain_off T.fit, T.up, T.led⟩
def TxE (w : World) (es : Array (Int × Value)) : Prop := ∀ e ∈ es.toList, ∃ x tk, e = (hashStr w x, Value.str x tk)
structure Rowed (w : World) (es : Array (Int × Value)) (t : SetTable) (ks : List Str) : Prop where
  all : TxE w es
  mem : (words es).Perm ks
  nd : ks.Nodup
  few : ks.length ≤ 64
  tab : Tab w t es.size
theorem Rowed.size {w : World} {es : Array (Int × Value)} {t : SetTable} {ks : List Str} (B : Rowed w es t ks) : es.size = ks.length := by
  have e := B.mem.length_eq
  rwa [words, List.length_map, Array.length_toList] at e
theorem Rowed.scan {w : World} {es : Array (Int × Value)} {t : SetTable} {ks : List Str} (B : Rowed w es t ks) : es.size < scanBound := by
  have := B.few
  have z : scanBound = 4096 := rfl
  rw [B.size]
  omega
def Bag (w : World) (h : Heap) (a : Addr) (ks : List Str) : Prop := ∃ es ep t, h.get? a = some (stO es ep t) ∧ Rowed w es t ks
theorem Bag.move {w : World} {h h' : Heap} {a : Addr} {ks : List Str} (B : Bag w h a ks) (k : ∀ o, h.get? a = some o → h'.get? a = some o) : Bag w h' a ks :=
  match B with
  | ⟨es, ep, t, e, r⟩ => ⟨es, ep, t, k _ e, r⟩
theorem is_txt {P : Program} {w : World} {e : Int × Value} (g : ∃ x tk, e = (hashStr w x, Value.str x tk)) (k : Str) : (PySem.strKind P w).is k e.2 = decide (txt e.2 = k) := by
  obtain ⟨x, tk, rfl⟩ := g
  show Value.isStrOf k (.str x tk) = decide (x = k)
  apply Bool.eq_iff_iff.mpr
  simp [Value.isStrOf]
theorem TxE.elems {P : Program} {w : World} {es : Array (Int × Value)} (g : TxE w es) : ElemsOf (PySem.strKind P w) es.toList := by
  intro e he
  obtain ⟨x, tk, rfl⟩ := g e he
  exact ⟨⟨x, PySem.strKind_is P w x tk, rfl⟩, rfl⟩
theorem seek_words {P : Program} {w : World} {es : Array (Int × Value)} (g : TxE w es) (k : Str) : (es.toList.findIdx? fun e => (PySem.strKind P w).is k e.2).isSome = decide (k ∈ words es) := by
  rw [List.findIdx?_isSome]
  apply Bool.eq_iff_iff.mpr
  rw [List.any_eq_true, decide_eq_true_eq]
  unfold words
  rw [List.mem_map]
  constructor
  · rintro ⟨e, he, q⟩
    rw [is_txt (g e he), decide_eq_true_eq] at q
    exact ⟨e, he, q⟩
  · rintro ⟨e, he, q⟩
    exact ⟨e, he, by rw [is_txt (g e he), decide_eq_true_eq]; exact q⟩
theorem Rowed.perm {w : World} {es es' : Array (Int × Value)} {t t' : SetTable} {ks : List Str} (B : Rowed w es t ks) (p : es'.toList.Perm es.toList) (T : Tab w t' es'.size) : Rowed w es' t' ks :=
  ⟨fun e he => B.all e (p.mem_iff.mp he), (p.map _).trans B.mem, B.nd, B.few, T⟩
theorem Rowed.lay {w : World} {es : Array (Int × Value)} {t : SetTable} {ks : List Str} (B : Rowed w es t ks) (k : Str) (tk : Tok) (hk : k ∉ ks) (hl : ks.length < 64) :
    Rowed w (layNew t es (hashStr w k) (.str k tk)).1 (layNew t es (hashStr w k) (.str k tk)).2.1 (k :: ks) := by
  have p := layNew_perm t es (hashStr w k) (.str k tk)
  rw [Array.toList_push] at p
  refine ⟨fun e he => ?_, ?_, List.nodup_cons.mpr ⟨hk, B.nd⟩, by rw [List.length_cons]; omega, ⟨layNew_fits _ _ _ _, layNew_ris _ _ _ _ B.tab.up, B.tab.led.imp (fun z => (layNew_led _ _ _ _).trans z) id⟩⟩
  · have he' := p.mem_iff.mp he
    rw [List.mem_append, List.mem_singleton] at he'
    exact he'.elim (B.all e) fun z => ⟨k, tk, z⟩
  · refine (p.map fun e => txt e.2).trans ?_
    rw [List.map_append]
    exact (List.perm_append_singleton _ _).trans (B.mem.cons k)
theorem Rowed.relay {w : World} {es : Array (Int × Value)} {t : SetTable} {ks : List Str} (B : Rowed w es t ks) (n : Nat) : Rowed w (relayAll t es n).1 (relayAll t es n).2.1 ks :=
  B.perm (relayAll_perm t es n) ⟨relayAll_fits t es n, relayAll_ris t es n, B.tab.led.imp (fun z => (relayAll_led t es n).trans z) id⟩
section
variable {P : Program} {w : World} {A : Around} {E : Value → Shared → Prop} {s : Shared} {a : Addr}
theorem lay_store {es es' : Array (Int × Value)} {ep : Nat} {t t' : SetTable} {ks : List Str} {Q : Unit → Shared → Prop} (ho : s.heap.get? a = some (stO es ep t)) (B : Rowed w es' t' ks)
    (h : ∀ h', h'.get? a = some (stO es' (ep + 1) t') → Heap.SameBut a s.heap h' → Q () { s with heap := h' }) : wpAny (model P w) A (storeSet a es' t') Q E s :=
  wpAny_storeSet_of ho rfl (h _ (Heap.get?_update_self _ ho rfl) (Heap.SameBut.update _ a _)) (fits_of_scanBound B.scan)
theorem lay_end {es es1 : Array (Int × Value)} {ep : Nat} {t t2 : SetTable} {ks : List Str} {wd : Bool} (g : Bool → Sem Unit) (hg : ∀ (b : Bool) (s₁ : Shared) (Q' : Unit → Shared → Prop), Q' () s₁ → wpAny (model P w) A (g b) Q' E s₁)
    (ho : s.heap.get? a = some (stO es ep t)) (B : Rowed w es1 t2 ks) {Q : Option Bool → Shared → Prop} (h : ∀ h', Heap.SameBut a s.heap h' → Bag w h' a ks → Q (some true) { s with heap := h' }) :
    wpAny (model P w) A (storeSet a es1 t2 >>= fun _ => if (!wd && t2.tooFull) = true then g (relayAll t2 es1 (SetTable.grown es1.size)).2.2 >>= fun _ =>
      storeSet a (relayAll t2 es1 (SetTable.grown es1.size)).1 (relayAll t2 es1 (SetTable.grown es1.size)).2.1 >>= fun _ => pure (some true) else pure (some true)) Q E s := by
  refine wpAny_bind (lay_store ho B fun h1 ho1 sb1 => wpAny_ite ?_)
  split
  · exact wpAny_bind (hg _ _ _ (wpAny_bind (lay_store (s := { s with heap := h1 }) ho1 (B.relay _) fun h2 ho2 sb2 => wpAny_pure (h h2 (sb1.trans sb2) ⟨_, _, _, ho2, B.relay _⟩))))
  · exact wpAny_pure (h h1 sb1 ⟨_, _, _, ho1, B⟩)
theorem Bag.put {k : Str} {tk : Tok} {ks : List Str} {Q : Bool → Shared → Prop} (B : Bag w s.heap a ks) (hl : ks.length < 64)
    (h : ∀ b h', Heap.SameBut a s.heap h' → Bag w h' a (if k ∈ ks then ks else k :: ks) → Q b { s with heap := h' }) : wpAny (model P w) A (setAddHashed a (.str k tk) (hashStr w k)) Q E s := by
  obtain ⟨es, ep, t, ho, R⟩ := B
  have el : ElemsOf (PySem.strKind P w) es.toList := R.all.elems
  have sk := seek_words (P := P) R.all k
  have mm : k ∈ words es ↔ k ∈ ks := R.mem.mem_iff
  unfold setAddHashed
  unfold setAddHashedIn
  refine wpAny_holding (wpAny_bind (wpAny_setState_of ho rfl R.tab.fit ?_))
  simp only [byScan_of (x := .str k tk) rfl R.scan el, if_true]
  unfold setAddByScan
  refine wpAny_bind (wpAny_bind (wpAny_rule (wpAny_bind (wpAny_setScan_of (knd := PySem.strKind P w) (k := k) (PySem.strKind_is P w k tk) ho rfl R.tab.fit el ?_))))
  cases q : es.toList.findIdx? fun e => (PySem.strKind P w).is k e.2 with
  | some j =>
    have hk : k ∈ ks := mm.mp (by rw [q] at sk; simpa using sk.symm)
    refine wpAny_pure (wpAny_pure (h false s.heap (Heap.SameBut.refl a s.heap) ?_))
    rw [if_pos hk]
    exact ⟨es, ep, t, ho, R⟩
  | none =>
    have hk : k ∉ ks := fun z => by rw [q] at sk; simp [mm.mpr z] at sk
    rw [if_neg hk] at h
    have R1 := R.lay k tk hk hl
    simp only
    generalize layNew t es (hashStr w k) (.str k tk) = Z at R1 ⊢
    obtain ⟨es1, t1, wd, gv⟩ := Z
    simp only at R1 ⊢
    have quiet : ∀ (b : Bool) (s₁ : Shared) (Q' : Unit → Shared → Prop), Q' () s₁ → wpAny (model P w) A (match b with | true => rule "set.scan.the-table-gave-way" | false => pure ()) Q' E s₁ := fun b s₁ Q' hq => by
      cases b
      · exact wpAny_pure hq
      · exact wpAny_rule hq
    have last : ∀ h', Heap.SameBut a s.heap h' → Bag w h' a (k :: ks) → wpAny (model P w) A (match some true with | some added => pure added | none => setAddHashedIn a (.str k tk) (hashStr w k) 99999) Q E { s with heap := h' } := fun h' x y => wpAny_pure (h true h' x y)
    refine wpAny_bind (quiet gv _ _ (wpAny_ite ?_))
    split
    · rw [hashByValue_scannable 8 (x := .str k tk) rfl]
      exact wpAny_bind (wpAny_pure (lay_end _ quiet ho ⟨R1.all, R1.mem, R1.nd, R1.few, R1.tab.dull _⟩ last))
    · exact wpAny_bind (wpAny_pure (lay_end _ quiet ho ⟨R1.all, R1.mem, R1.nd, R1.few, R1.tab.dull true⟩ last))
end
def more (ks : List Str) (k : Str) : List Str := if k ∈ ks then ks else k :: ks
theorem more_len (ks : List Str) (k : Str) : (more ks k).length ≤ ks.length + 1 := by
  unfold more
  split
  · exact Nat.le_succ _
  · exact Nat.le_refl _
theorem mem_more {ks : List Str} {k x : Str} : x ∈ more ks k ↔ x ∈ ks ∨ x = k := by
  unfold more
  split
  · rename_i h
    exact ⟨.inl, fun z => z.elim id fun e => e ▸ h⟩
  · rw [List.mem_cons]; exact or_comm
theorem mem_all {xs : List Str} {x : Str} : ∀ {ks : List Str}, x ∈ xs.foldl more ks ↔ x ∈ ks ∨ x ∈ xs := by
  induction xs with
  | nil => intro ks; simp
  | cons y r ih => intro ks; rw [List.foldl_cons, ih, mem_more, List.mem_cons, or_assoc]
theorem few_in {xs ds : List Str} (nd : xs.Nodup) (sub : ∀ x ∈ xs, x ∈ ds) : xs.length ≤ ds.length := by
  induction xs generalizing ds with
  | nil => exact Nat.zero_le _
  | cons x xs ih =>
    obtain ⟨n1, nx⟩ := List.nodup_cons.mp nd
    have hx := sub x List.mem_cons_self
    have := ih (ds := ds.erase x) nx fun y hy => (List.mem_erase_of_ne fun z : y = x => n1 (by rw [← z]; exact hy)).2 (sub y (.tail _ hy))
    rw [List.length_erase_of_mem hx] at this
    have := List.length_pos_of_mem hx
    rw [List.length_cons]
    omega
section
variable {prog : Program} {w : World} {A : Around} {R : Result → Shared → Prop} {I D : Addr} {fp wr : List Addr} {G : Array GenState → Array GenState → Prop}
variable {n : Nat} {P : Nat → Value → Prop} {St : Nat → Shared → Prop} {s : Shared}
theorem turn_of (h : wpAny (model prog w) A.in1 (Builtin.«set.update.loop» ⟨[.ref D, .ref I], []⟩) (fun fin s' => match fin with | .done f => R (.ok f) s' | .again c' => c'.quiet = true ∧ codeAny (model prog w) A c' R s') (fun e s' => R (.error e) s') s) :
    codeAny (model prog w) A (.builtin "set.update.loop" ⟨[.ref D, .ref I], []⟩) R s :=
  codeAny_builtin PyProof.Rows.F.entry_set_update_loop (by rw [Around.under_plainId PyProof.Rows.F.plain_set_update_loop _]; exact h)
theorem fill (W : WalksS prog w A.in1 I fp wr G n P St) (hD : D ∉ fp) {ds : List Str} (few : ds.length ≤ 63) : ∀ (ys : List Str) (i : Nat) (ks : List Str) (s : Shared), i + ys.length = n → (∀ j v, P (i + j) v → ∃ tk, v = .str (ys.getD j Str.empty) tk) → (∀ y ∈ ys, y ∈ ds) → (∀ k ∈ ks, k ∈ ds) → St i s → Bag w s.heap D ks →
    (∀ s', Moved (D :: wr) G s s' → Bag w s'.heap D (ys.foldl more ks) → R (.ok (.ret .none)) s') → codeAny (model prog w) A (.builtin "set.update.loop" ⟨[.ref D, .ref I], []⟩) R s
  | [], i, ks, s, hn, _, _, _, hs, B, h => by
    have wide : ∀ b ∈ wr, b ∈ D :: wr := fun b z => .tail _ z
    have e : i = n := by simpa using hn
    subst e
    exact turn_of (wpAny_bind (m := pyNext (.ref I)) (W.done s _ _ hs fun s' m => wpAny_pure (h s' (m.mono wide) (B.move fun o q => m.heap D o (fun z => hD (W.sub _ z)) q))))
  | y :: ys, i, ks, s, hn, hv, hy, hk, hs, B, h => by
    have wide : ∀ b ∈ wr, b ∈ D :: wr := fun b z => .tail _ z
    rw [List.length_cons] at hn
    refine turn_of (wpAny_bind (m := pyNext (.ref I)) (W.item i s _ _ (by omega) hs fun v s1 pv hs1 m => ?_))
    obtain ⟨tk, rfl⟩ := hv 0 v pv
    have B1 : Bag w s1.heap D ks := B.move fun o q => m.heap D o (fun z => hD (W.sub _ z)) q
    refine wpAny_bind (m := holding [Value.str y tk] (setAdd D (.str y tk))) (wpAny_holding ?_)
    unfold setAdd
    refine wpAny_holding (wpAny_bind ((PySem.strKind prog w).pyHash (k := y) (PySem.strKind_is _ _ _ _) ?_))
    have small : ks.length < 64 := by
      obtain ⟨es, ep, t, e, R⟩ := id B1
      have := few_in R.nd hk
      omega
    refine Bag.put (s := { s1 with toks := s1.toks + 1 }) B1 small fun b h2 sb B2 => ?_
    have off : ∀ b, b ≠ D → ∀ o, s1.heap.get? b = some o → h2.get? b = some o := fun b ne o q => by rw [sb.2 b ne]; exact q
    refine wpAny_pure ⟨plainId_quiet PyProof.Rows.F.plain_set_update_loop _, fill W hD few ys (i + 1) (more ks y) _ (by omega) (fun j v pj => ?_) (fun z hz => hy z (.tail _ hz)) (fun z hz => (mem_more.mp hz).elim (hk z) fun e => e ▸ hy y List.mem_cons_self) (W.frame _ s1 _ _ hs1 (Nat.le_succ _) fun b hb => off b fun z => hD (z ▸ hb)) B2 fun s' m' B' => ?_⟩
    · exact hv (j + 1) v (by rw [show i + (j + 1) = i + 1 + j by omega]; exact pj)
    · exact h s' (Moved.trans W.gtrans ((m.mono wide).then_heap (Nat.le_succ _) fun b o hb => off b (fun z => hb (z ▸ List.mem_cons_self)) o) m') B'
end
section
variable {prog : Program} {w : World} {A : Around} {s : Shared} {E : Value → Shared → Prop}
theorem bag_new {h : Heap} {a : Addr} (e : h.get? a = some (stO #[] 0 (.fresh 0 0 (!w.params.followText "set-order")))) : Bag w h a [] :=
  ⟨#[], 0, _, e, ⟨fun _ z => by simp at z, .refl _, .nil, Nat.zero_le _, ⟨by rfl, .nil, by
    show (!w.params.followText "set-order") = true ∨ _
    cases w.params.followText "set-order" <;> simp⟩⟩⟩
theorem set_made (x : Value) {Q : Value → Shared → Prop} (h : Q (.ref s.heap.objs.size) { s with heap := s.heap.push (stO #[] 0 (.fresh 0 0 (!w.params.followText "set-order"))) }) :
    codeAny (model prog w) A (.call (.builtin "set.__new__") ⟨[.type "set", x], []⟩) (wants Q E) s := by
  have self := sub_set_self
  refine codeAny_of_tree (wpAny_bind (m := checkBuiltinCall "set.__new__" ⟨[.type "set", x], []⟩) (wpAny_of_eq (PySem.F.newCall_set_1 x) (wpAny_pure ⟨plainId_quiet PySem.F.plain_set_new _, codeAny_builtin PySem.F.entry_set_new ?_⟩)))
  rw [Around.under_plainId PySem.F.plain_set_new _]
  unfold Builtin.«set.__new__»
  unfold Builtin.Frozenset.newClass
  cases s
  dsimp only
  wp_walk
  apply wpAny_askSetting
  refine wpAny_pure ?_
  simp only [newObj]
  exact wpAny_bind (wpAny_alloc (wpAny_pure (wpAny_pure h)))
def SeqAt (h : Heap) (l : Addr) (vs : Array Value) : Prop := h.IsList l vs ∨ h.IsTuple l vs
theorem SeqAt.push {h : Heap} {l : Addr} {vs : Array Value} (x : SeqAt h l vs) (o : Obj) : SeqAt (h.push o) l vs := x.imp (fun z => z.push o) fun z => z.push o
theorem SeqAt.lt {h : Heap} {l : Addr} {vs : Array Value} (x : SeqAt h l vs) : l < h.objs.size := by
  rcases x with ⟨o, e, _⟩ | ⟨o, e, _⟩ <;> exact Heap.lt_size e
theorem SeqAt.walk {l : Addr} {vs : Array Value} (x : SeqAt s.heap l vs) {Q : Value → Shared → Prop}
    (h : ∀ (o : Obj) (St : Nat → Shared → Prop), St 0 { s with heap := s.heap.push o } → (∀ A' : Around, A'.handled = none → WalksS prog w A' s.heap.objs.size [s.heap.objs.size, l] [s.heap.objs.size] (fun a b => b = a) vs.size (fun i v => vs[i]? = some v) St) → Q (.ref s.heap.objs.size) { s with heap := s.heap.push o }) :
    wpAny (model prog w) A (pyIter (Value.ref l)) Q E s := by
  have ne : l ≠ s.heap.objs.size := Nat.ne_of_lt x.lt
  rcases x with x | x
  · exact wpAny_pyIter_list x (h _ _ ⟨⟨_, Heap.get?_push_size _ rfl, rfl, rfl⟩, x.push _⟩ fun A' hh => (Walks.list hh _ l ne vs).toS)
  · exact wpAny_pyIter_tuple x (h _ _ ⟨⟨_, Heap.get?_push_size _ rfl, rfl, rfl⟩, x.push _⟩ fun A' hh => (Walks.tuple hh _ l ne vs).toS)
theorem seq_type {l : Addr} {vs : Array Value} (x : SeqAt s.heap l vs) : ∃ T, s.TypeIs (.ref l) T ∧ isSubtype (.type T) (.type "set") = pure false ∧ isSubtype (.type T) (.type "frozenset") = pure false ∧ (Value.type T == Value.type "dict") = false :=
  x.elim (fun x => ⟨"list", x.typeIs, PySem.F.sub_list_set, PySem.F.sub_list_frozenset, by decide⟩) fun x => ⟨"tuple", x.typeIs, PySem.F.sub_tuple_set, PySem.F.sub_tuple_frozenset, by decide⟩
theorem set_filled {a l : Addr} {vs : Array Value} {xs : List Str} {ep : Nat} {Q : Shared → Prop} (hh : A.handled = none) (hl : SeqAt s.heap l vs) (hi : PyProof.Rows.StrsAre vs.toList xs) {ds : List Str} (few : ds.length ≤ 63) (hx : ∀ x ∈ xs, x ∈ ds) (ha : a < s.heap.objs.size) (hal : a ≠ l)
    (ho : s.heap.get? a = some (stO #[] 0 (.fresh 0 0 (!w.params.followText "set-order"))))
    (h : ∀ h' tk, (∀ b o, b ≠ a → s.heap.get? b = some o → h'.get? b = some o) → Bag w h' a (xs.foldl more []) → Q { s with heap := h', toks := tk }) :
    wpAny (model prog w) A (Builtin.«set.__init__» ⟨[.ref a, .ref l], []⟩) (fun fin s' => match fin with | .done f => f = .ret .none ∧ Q s' | .again _ => False) E s := by
  obtain ⟨T, hT, t1, t2, t3⟩ := seq_type hl
  have hT0 : s.TypeIs (.ref a) "set" := ⟨_, ho, rfl⟩
  unfold Builtin.«set.__init__»
  unfold noKeywords Builtin.Frozenset.updateFrom
  generalize hp : pyIter = it
  wp_walk
  subst hp
  refine hl.walk fun o St st W => wpAny_bind (wpAny_runValue ?_)
  have hg : (s.heap.push o).get? a = some (stO #[] 0 (.fresh 0 0 (!w.params.followText "set-order"))) := Heap.get?_push_of_some _ ho
  have len := StrsAre.len_eq hi
  rw [Array.length_toList] at len
  refine fill (A := A) (W A.in1 hh) (D := a) (fun z => ?_) few xs 0 [] _ (by omega) (fun j v e => ?_) hx (fun _ z => nomatch z) st (bag_new hg) fun s' m B => ?_
  · rcases List.mem_cons.mp z with e | e
    · exact Nat.ne_of_lt ha e
    · exact hal (by simpa using e)
  · rw [Nat.zero_add] at e
    exact SS.strs_at hi j v (by rw [Array.getElem?_toList]; exact e)
  · obtain ⟨h', g', d', tk, os'⟩ := s'
    have e1 : g' = s.gens := m.gens
    have e2 : d' = s.drawn := m.drawn
    have e3 : os' = s.os := m.os
    subst e1 e2 e3
    refine wpAny_pure (wpAny_pure ⟨rfl, h h' tk (fun b o' nb e => m.heap b o' (fun z => ?_) (Heap.get?_push_of_some _ e)) B⟩)
    rcases List.mem_cons.mp z with q | q
    · exact nb q
    · exact Nat.ne_of_lt (Heap.lt_size e) (by simpa using q)
theorem call_set {l : Addr} {vs : Array Value} {xs : List Str} {Q : Value → Shared → Prop} (hh : A.handled = none) (hl : SeqAt s.heap l vs) (hi : PyProof.Rows.StrsAre vs.toList xs) {ds : List Str} (few : ds.length ≤ 63) (hx : ∀ x ∈ xs, x ∈ ds)
    (h : ∀ h' tk, (∀ b o, s.heap.get? b = some o → h'.get? b = some o) → Bag w h' s.heap.objs.size (xs.foldl more []) → Q (.ref s.heap.objs.size) { s with heap := h', toks := tk }) :
    wpAny (model prog w) A (call (Value.type "set") [Value.ref l]) Q E s := by
  have ft := PySem.F.called_set
  obtain ⟨mr, ml, hmro⟩ := ft.mro
  have f1 := ft.made; have f2 := ft.sub; have f3 := ft.notType; have f4 := ft.canCreate
  have f5 := PySem.F.typeCall_set_1 (.ref l)
  refine wpAny_call (codeAny_of_tree (show wpAny _ _ (callAny (.type "set") _) _ _ _ from wpAny_pure ⟨Code.quiet_builtin _ (by decide +kernel), codeAny_builtin PySem.F.entry_type_call ?_⟩))
  rw [Around.under_plain (weight_type_call_type "set" [Value.ref l] []) (by rfl)]
  repeat (any_goals (first | wp_step | assumption))
  refine codeAny_mono (set_made (.ref l) (E := E) (Q := fun obj s₁ => obj = .ref s.heap.objs.size ∧ s₁ = { s with heap := s.heap.push (stO #[] 0 (.fresh 0 0 (!w.params.followText "set-order"))) }) ⟨rfl, rfl⟩) fun r s₁ hr => ?_
  match r, hr with
  | .error e, hr => exact hr
  | .ok (.ret obj), hr =>
    obtain ⟨e1, e2⟩ := hr
    subst e1 e2
    have at0 : (s.heap.push (stO #[] 0 (.fresh 0 0 (!w.params.followText "set-order")))).get? s.heap.objs.size = some (stO #[] 0 (.fresh 0 0 (!w.params.followText "set-order"))) := Heap.get?_push_size _ rfl
    have T0 : Shared.TypeIs { s with heap := s.heap.push (stO #[] 0 (.fresh 0 0 (!w.params.followText "set-order"))) } (.ref s.heap.objs.size) "set" := ⟨_, at0, rfl⟩
    have f6 := ft.init.lookup
    have f7 := ft.init.bind (.ref s.heap.objs.size)
    repeat (any_goals (first | wp_step | assumption))
    have lz := hl.lt
    refine codeAny_mono (codeAny_call_builtin (R := wants (fun v t => v = .none ∧ Q (.ref s.heap.objs.size) t) E) ft.init.plain PySem.F.entry_set_init (check_set_init_1 T0 (wpAny_mono (set_filled (ep := 0) (Q := fun t => Q (.ref s.heap.objs.size) t) ?_ (hl.push _) hi few hx (by rw [Heap.size_push]; exact Nat.lt_succ_self _) (Nat.ne_of_gt lz) at0 ?_) (fun fin t ht => ?_) fun _ _ z => z))) fun r₂ t hr₂ => ?_
    · simpa using hh
    · exact fun h' tk k B => h h' tk (fun b o e => k b o (Nat.ne_of_lt (Heap.lt_size e)) (Heap.get?_push_of_some _ e)) B
    · match fin, ht with
      | .done f, ht => obtain ⟨e, q⟩ := ht; subst e; exact ⟨rfl, q⟩
      | .again _, ht => exact ht.elim
    · match r₂, hr₂ with
      | .error e, z => exact z
      | .ok (.ret v), z =>
        obtain ⟨e, q⟩ := z
        subst e
        repeat (any_goals (first | wp_step | assumption))
      | .ok .next, z => exact z.elim
      | .ok .brk, z => exact z.elim
      | .ok .cont, z => exact z.elim
  | .ok .next, z => exact z.elim
  | .ok .brk, z => exact z.elim
  | .ok .cont, z => exact z.elim
theorem words_vals {es : Array (Int × Value)} (g : TxE w es) {vs : List Value} (p : vs.Perm (es.toList.map (·.2))) : StrsAre vs (vs.map strOf) ∧ (vs.map strOf).Perm (words es) := by
  have all : ∀ v ∈ vs, ∃ x tk, v = Value.str x tk := fun v hv => by
    obtain ⟨e, he, q⟩ := List.mem_map.mp (p.mem_iff.mp hv)
    obtain ⟨x, tk, rfl⟩ := g e he
    exact ⟨x, tk, q.symm⟩
  refine ⟨strsAre_map vs all, (p.map strOf).trans ?_⟩
  rw [List.map_map]
  refine .of_eq (List.map_congr_left fun e he => ?_)
  obtain ⟨x, tk, rfl⟩ := g e he
  rfl
theorem sorted_bag {a : Addr} {ks : List Str} {Q : Value → Shared → Prop} (B : Bag w s.heap a ks) (hh : A.handled = none) (hl : ks.length < 64)
    (h : ∀ s' p (out : Array Value) (c : Nat) (ns : List Str), (∀ b o, s.heap.get? b = some o → s'.heap.get? b = some o) → s'.gens = s.gens ∧ s'.os = s.os → s.heap.objs.size ≤ p → s'.heap.get? p = some (seqObj "list" out c) → StrsAre out.toList ns → sortedS ns = true → ns.Perm ks → Q (.ref p) s') :
    wpAny (model prog w) A (call (.builtin "sorted") [.ref a]) Q E s := by
  obtain ⟨es, ep, t, ho, R⟩ := B
  apply Calls.call_function_entry kind_sorted plain_sorted entry_sorted (args_sorted1 _)
  unfold Builtin.«sorted»
  refine wpAny_bind (m := checkCount "sorted" 1 1 _) (wpAny_pure (wpAny_bind (collect_set (A := A.in1) (es := es) (ep := ep) (t := t) hh ⟨_, ho, rfl, rfl⟩ R.tab.fit R.scan R.tab.up R.tab.led.symm fun s1 vs k1 hz g1 o1 p1 => ?_)))
  obtain ⟨w1, w2⟩ := words_vals R.all p1
  have n1 : vs.length = ks.length := by rw [p1.length_eq, List.length_map, Array.length_toList, R.size]
  refine wpAny_bind (wpAny_newList ?_ (by rw [n1, sizeLine_eq]; omega))
  have at1 : (s1.heap.push (seqObj "list" vs.toArray 0)).get? s1.heap.objs.size = some (seqObj "list" vs.toArray 0) := Heap.get?_push_size _ rfl
  refine wpAny_bind (wpAny_holding (wpAny_call_entry slot_list_sort ⟨_, at1, rfl⟩ entry_list_sort (list_sort_treeK strKind_oneLt at1 w1.keysOf (fun v₁ v₂ rest e => keyKind_strs (e ▸ w1)) (by omega) fun st a1 a2 => ⟨_, rfl, ?_⟩) (args_list_sort _)))
  obtain ⟨ns, b1, b2, b3⟩ := sorted_out_str w1 a1 a2
  obtain ⟨c, hc⟩ := sortedHeap_at (vs := vs) (out := (arrOf st).map (·.2)) at1
  refine wpAny_pure ⟨_, rfl, h _ s1.heap.objs.size _ c ns (fun b o e => ?_) ⟨g1, o1⟩ hz hc b1 b3 (b2.trans (w2.trans R.mem))⟩
  have e1 := k1 b o e
  exact (sortedHeap_old (Nat.ne_of_lt (Heap.lt_size e1)) (Nat.lt_of_lt_of_le (Heap.lt_size e1) (by rw [size_push']; exact Nat.le_succ _))).trans (Heap.get?_push_of_some _ e1)
theorem len_bag {a : Addr} {ks : List Str} {Q : Value → Shared → Prop} (B : Bag w s.heap a ks) (h : ∀ tk, Q (.int ks.length tk) { s with toks := s.toks + 1 + 1 }) : wpAny (model prog w) A (call (.builtin "len") [.ref a]) Q E s := by
  obtain ⟨es, ep, t, ho, R⟩ := B
  have hb := R.scan
  have z : scanBound = 4096 := rfl
  refine call_len_set ho ⟨rfl, rfl, rfl⟩ rfl R.tab.fit (by omega) ?_
  rw [R.size]
  exact h _
end
end Pt
end
section
set_option maxRecDepth 100000
set_option maxHeartbeats 1000000
namespace Pu
open PySem PySem.Spec L2
section
variable {c : Cfg} {G : Gc} {P : Pr} {X : Cx} {n : Nat} {W : WX}
theorem setList_ne (xs : List D) (f : List Str → R D) (h : ∀ a c p, f a ≠ .exc c p) (c p) : (R.ofO (strsD xs)).bind f ≠ .exc c p := ofO_bind_ne _ _ h c p
theorem sset_ne (d : D) (c p) : b1D .sset d ≠ .exc c p := by
  cases d <;> first | exact bad_ne | (refine ofO_bind_ne _ _ (fun a c p => ?_) c p; split <;> first | exact ok_ne | (split <;> first | exact ok_ne | exact bad_ne))
theorem lset_ne (d : D) (c p) : b1D .lset d ≠ .exc c p := by
  cases d <;> first | exact bad_ne | (refine ofO_bind_ne _ _ (fun a c p => ?_) c p; split <;> first | exact ok_ne | exact bad_ne)
theorem sorts_ne (d : D) (c p) : b1D .sorts d ≠ .exc c p := by
  cases d <;> first | exact bad_ne | (refine ofO_bind_ne _ _ (fun a c p => ?_) c p; split <;> first | exact ok_ne | exact bad_ne)
theorem rep_strs {fa : Nat → Option Addr} {K : PySem.W.Frag} {H : Hp} : ∀ xs : List Str, RepL fa K H (xs.map V.str) (xs.map D.str)
  | [] => .nil
  | x :: xs => .cons (.str x) (rep_strs xs)
theorem set_arg {fa : Nat → Option Addr} {K : PySem.W.Frag} {S : Addr → Prop} {H : Hp} {x : V} {d dd : D} {f : List Str → R D} (r : Rep fa K (hid S H) x d)
    (e : (match d with | .tup xs => (R.ofO (strsD xs)).bind f | .lst xs => (R.ofO (strsD xs)).bind f | _ => .bad) = .ok dd) :
    ∃ l ys, x = .ref l ∧ (SqL K H l (ys.map V.str) ∨ SqT K H l (ys.map V.str)) ∧ f ys = .ok dd := by
  cases d with
  | tup xs =>
    simp only at e
    cases e1 : strsD xs with
    | none => rw [e1] at e; cases e
    | some ys =>
      rw [e1] at e
      cases r with | @tup a vs _ h1 n1 r1 => ?_
      have ev := strs_rep r1 e1
      subst ev
      exact ⟨a, ys, rfl, .inr (SqT.of (hid_same _ _ h1)), e⟩
  | lst xs =>
    simp only at e
    cases e1 : strsD xs with
    | none => rw [e1] at e; cases e
    | some ys =>
      rw [e1] at e
      cases r with | @lst a vs _ h1 n1 r1 => ?_
      have ev := strs_rep r1 e1
      subst ev
      exact ⟨a, ys, rfl, .inl (SqL.of (hid_same _ _ h1)), e⟩
  | _ => cases e
theorem set_new {pins : List (Addr × Obj)} {σ : St} {H1 : Hp} {s1 : Shared} {l : Addr} {ys : List Str} {Q : Value → Shared → Prop} (hc : X.calm = true) (I1 : Inv X pins σ H1 s1) (hq : SqL X.K H1 l (ys.map V.str) ∨ SqT X.K H1 l (ys.map V.str)) (h63 : (usort ys).length ≤ 63)
    (h : ∀ (h' : Heap) (tk : Nat) (ks : List Str), ks.Perm (usort ys) → Pt.Bag X.w h' s1.heap.objs.size ks → Inv X pins σ H1 { s1 with heap := h', toks := tk } → Q (.ref s1.heap.objs.size) { s1 with heap := h', toks := tk }) :
    wpAny (model X.prog X.w) X.A (call (.type "set") [.ref l]) Q X.xe s1 := by
  obtain ⟨its, r, pl⟩ : ∃ its : Array Value, Vals (ys.map V.str) its.toList ∧ Pt.SeqAt s1.heap l its := by
    rcases hq with hq | hq
    · obtain ⟨its, r, pl, _⟩ := I1.list hq
      exact ⟨its.toArray, by simpa using r, .inl (by simpa using pl.isList)⟩
    · obtain ⟨its, r, pl, _⟩ := I1.tuple hq
      exact ⟨its.toArray, by simpa using r, .inr (by simpa using (show s1.heap.IsTuple l _ from pl))⟩
  refine Pt.call_set (I1.ok.hd hc) pl (strsAre_of r) h63 (fun x hx => mem_usort.mpr hx) fun h' tk k B => h h' tk _ ?_ B (I1.kept k)
  obtain ⟨es, ep, t, e, R⟩ := B
  exact (List.perm_ext_iff_of_nodup R.nd (rise_nodup (rise_usort ys))).mpr fun x => by rw [Pt.mem_all, mem_usort]; simp
theorem L_sset (ok : Cok c G P X n) {a : E} {xa : Expr} {p p2 q2 pos : Pos} {env : Env} {fa : Bool} (hm : ("sorted" : Str) ∈ c.bis) (hg : glB X.env.scope "sorted" = true) (hm2 : ("set" : Str) ∈ c.bis) (hg2 : glB X.env.scope "set" = true)
    (ha : PE X xa (tE G X.K W env (evE P env a) fa)) (hx : plainX xa = true) : PE X (.Call (.Name "sorted" p) [.Call (.Name "set" p2) [xa] [] q2] [] pos) (tE G X.K W env (evE P env (.b1 .sset a)) false) := by
  refine ⟨fun pins s σ H Q I ⟨S0, HF, own, er, q⟩ => ?_⟩
  rw [evE] at q
  have h : tE G X.K W env (evE P env a) fa σ H fun x H1 => ∃ l, ∃ ys : List Str, x = .ref l ∧ (SqL X.K H1 l (ys.map V.str) ∨ SqT X.K H1 l (ys.map V.str)) ∧ (usort ys).length ≤ 63 ∧ ∀ p, H1 p = none → Q (.ref p) (upd H1 p (.lst ((usort ys).map V.str))) :=
    ⟨S0, HF, own, er, RT.step er q fun x d H1 e1 s1 r1 _ er1 q1 => by
      obtain ⟨dd, e2, q2⟩ := q1.fin (sset_ne d)
      obtain ⟨l, ys, h1, h2, h3⟩ := set_arg (f := fun ys => if ys.length ≤ 63 then .ok (.lst ((usort ys).map .str)) else if (usort ys).length ≤ 63 then .ok (.lst ((usort ys).map .str)) else .bad) r1 (by cases d <;> exact e2)
      have hz : (usort ys).length ≤ 63 ∧ dd = .lst ((usort ys).map .str) := by
        split at h3
        · rename_i hz
          cases h3
          exact ⟨Nat.le_trans (usort_len ys) hz, rfl⟩
        · split at h3
          · rename_i hz
            cases h3
            exact ⟨hz, rfl⟩
          · cases h3
      obtain ⟨hz, rfl⟩ := hz
      refine ⟨l, ys, h1, h2, hz, fun p hp => q2 _ _ (Same.upd hp) ?_⟩
      exact new_lst er1.nt hp (rep_strs _) (by rw [List.length_map]; exact Nat.le_trans hz (sz_words (show 63 ≤ 1000 by decide)))⟩
  refine PyProof.Rows.Call_ (ld_blt I (gl_of hg).1 (ok.bi _ hm) PyProof.Rows.boot_sorted ?_)
  apply PyProof.Rows.callWith_builtin1 (PyProof.Rows.args_cons ?_ rfl) rfl rfl
  refine PyProof.Rows.Call_ (ld_blt I (gl_of hg2).1 (ok.bi _ hm2) PyProof.Rows.boot_set ?_)
  refine PyProof.Rows.callWith_type1 (PyProof.Rows.args_cons (thn (ha.run pins s σ H _ I h) fun v s1 ⟨x, H1, I1, r1, q1⟩ => PyProof.Rows.args_nil ?_) (star_of hx)) (star_of hx) rfl
  obtain ⟨l, ys, rfl, hq, h63, q1⟩ := q1
  cases r1
  refine set_new ok.calm I1 hq h63 fun h' tk ks pk B I2 => PyProof.Rows.args_nil ?_
  refine Pt.sorted_bag B (I2.ok.hd ok.calm) (by rw [pk.length_eq]; omega) fun s' p out c ns k ⟨g, o⟩ hp hg hi hs pn => ?_
  have eu : ns = usort ys := usort_of hs (pn.nodup_iff.mpr (pk.nodup_iff.mpr (rise_nodup (rise_usort ys)))) fun x => by rw [pn.mem_iff, pk.mem_iff, mem_usort]
  subst eu
  have hlen : ((usort ys).map V.str).length ≤ sizeLine := by rw [List.length_map]; exact Nat.le_trans h63 (sz_words (by decide))
  have hn : H1 p = none := I2.hok.fresh hp
  have J : Inv X pins σ (upd H1 p (.lst ((usort ys).map V.str))) { ({ s1 with heap := h', toks := tk } : Shared) with heap := s'.heap, gens := s'.gens, drawn := s'.drawn, toks := s'.toks } :=
    I2.call (ch := []) (Un.laid k hp hn) (I2.hok.laid k hp ⟨hlen, out.toList, c, vals_of_strs hi, hg⟩) (by rw [g]; exact I2.bare) (fun _ z => nomatch z)
  have e : s' = { ({ s1 with heap := h', toks := tk } : Shared) with heap := s'.heap, gens := s'.gens, drawn := s'.drawn, toks := s'.toks } := by
    cases s'
    cases s1
    cases o
    rfl
  rw [e]
  exact ⟨.ref p, _, J, rfl, q1 p hn⟩
where
  insU_len (x : Str) : ∀ l : List Str, (insU x l).length ≤ l.length + 1
    | [] => Nat.le_refl _
    | y :: r => by
      unfold insU
      split
      · exact Nat.le_refl _
      · split
        · exact Nat.le_succ _
        · exact Nat.succ_le_succ (insU_len x r)
  usort_len : ∀ l : List Str, (usort l).length ≤ l.length
    | [] => Nat.le_refl _
    | x :: l => Nat.le_trans (insU_len x (usort l)) (Nat.succ_le_succ (usort_len l))
theorem L_lset (ok : Cok c G P X n) {a : E} {xa : Expr} {p p2 q2 pos : Pos} {env : Env} {fa : Bool} (hm : ("len" : Str) ∈ c.bis) (hg : glB X.env.scope "len" = true) (hm2 : ("set" : Str) ∈ c.bis) (hg2 : glB X.env.scope "set" = true)
    (ha : PE X xa (tE G X.K W env (evE P env a) fa)) (hx : plainX xa = true) : PE X (.Call (.Name "len" p) [.Call (.Name "set" p2) [xa] [] q2] [] pos) (tE G X.K W env (evE P env (.b1 .lset a)) false) := by
  refine ⟨fun pins s σ H Q I ⟨S0, HF, own, er, q⟩ => ?_⟩
  rw [evE] at q
  have h : tE G X.K W env (evE P env a) fa σ H fun x H1 => ∃ l, ∃ ys : List Str, x = .ref l ∧ (SqL X.K H1 l (ys.map V.str) ∨ SqT X.K H1 l (ys.map V.str)) ∧ ys.length ≤ 63 ∧ Q (.int (usort ys).length) H1 :=
    ⟨S0, HF, own, er, RT.step er q fun x d H1 e1 s1 r1 _ er1 q1 => by
      obtain ⟨dd, e2, q2⟩ := q1.fin (lset_ne d)
      obtain ⟨l, ys, h1, h2, h3⟩ := set_arg (f := fun ys => if ys.length ≤ 63 then .ok (.int (usort ys).length) else .bad) r1 (by cases d <;> first | exact e2 | (cases e2))
      split at h3
      · rename_i hz
        cases h3
        exact ⟨l, ys, h1, h2, hz, q2 _ _ (Same.refl _) (.int _)⟩
      · cases h3⟩
  refine PyProof.Rows.Call_ (ld_blt I (gl_of hg).1 (ok.bi _ hm) boot_len ?_)
  apply PyProof.Rows.callWith_builtin1 (PyProof.Rows.args_cons ?_ rfl) rfl rfl
  refine PyProof.Rows.Call_ (ld_blt I (gl_of hg2).1 (ok.bi _ hm2) PyProof.Rows.boot_set ?_)
  refine PyProof.Rows.callWith_type1 (PyProof.Rows.args_cons (thn (ha.run pins s σ H _ I h) fun v s1 ⟨x, H1, I1, r1, q1⟩ => PyProof.Rows.args_nil ?_) (star_of hx)) (star_of hx) rfl
  obtain ⟨l, ys, rfl, hq, h63, q1⟩ := q1
  cases r1
  exact set_new ok.calm I1 hq (Nat.le_trans (L_sset.usort_len ys) h63) fun h' tk ks pk B I2 => PyProof.Rows.args_nil (Pt.len_bag B fun t => ⟨.int (usort ys).length, H1, I2.tok _, ⟨_, by rw [pk.length_eq]⟩, q1⟩)
theorem b1_sorts : CallR X (.builtin "sorted") (rF G X.K false (b1D .sorts)) := by
  intro pins s σ H as us Q I r h
  obtain ⟨S, x, a, d, rfl, hS, ra, e, q⟩ := h
  cases a with
  | lst xs =>
    simp only [b1D] at e
    cases e1 : strsD xs with
    | none => rw [e1] at e; cases e
    | some ys =>
      rw [e1, R.ofO_some, R.bind_ok] at e
      split at e
      · rename_i hz
        cases e
        cases ra with | lst h1 n1 r1 => ?_
        have ev := strs_rep r1 e1
        subst ev
        refine cr_sortedS pins s σ H _ us Q I r ⟨_, ys, rfl, SqL.of (hid_same _ _ h1), by omega, fun zs p hp hs hn => ?_⟩
        have eu : zs = sortU ys := sortU_of hs hp
        subst eu
        exact q _ _ (Same.upd hn) (new_lst hS hn (rep_strs _) (by rw [List.length_map, hp.length_eq]; exact Nat.le_trans hz (sz_words (show 63 ≤ 1000 by decide))))
      · cases e
  | _ => cases e
end
end Pu
end
section
set_option maxRecDepth 100000
set_option maxHeartbeats 1000000
namespace Pt
open PySem PySem.Spec PyProof.Rows L2
abbrev TW (P : Program) (w : World) (h : Heap) (k : List Str) (b : Addr) : Prop := IsTupleKey (PySem.strKind P w) h k b
abbrev hW (P : Program) (w : World) (k : List Str) : Int := tupleKeyHash (PySem.strKind P w) k
abbrev Tx := List Str
abbrev Mem := List (Addr × Tx)
section
variable {w : World} {P : Program} {s : Shared} {A : Around} {E : Value → Shared → Prop}
theorem words_of {k : Tx} {vs : List Value} (g : ItemsAre (PySem.strKind P w) k vs) : ∀ v ∈ vs, ∃ x tk, v = Value.str x tk := by
  induction g with
  | nil => exact fun v z => nomatch z
  | @cons k0 v0 ks vs g1 _ ih =>
    intro v z
    rcases List.mem_cons.mp z with q | q
    · obtain ⟨tk, e⟩ := Value.isStrOf_shape g1
      exact ⟨k0, tk, q.trans e⟩
    · exact ih v q
theorem class_txt (n : Nat) (x : Str) (tk : Tok) : ofAClassStatement n (.str x tk) = pure false := by cases n <;> rfl
theorem hash_txt (n : Nat) (x : Str) (tk : Tok) : hashByValue n (.str x tk) = pure false := by cases n <;> rfl
theorem class_tw {k : Tx} {b : Addr} {Q : Bool → Shared → Prop} (g : TW P w s.heap k b) (q : Q false s) : wpAny (model P w) A (ofAClassStatement 8 (.ref b)) Q E s := by
  have tp := g.typeIs
  obtain ⟨o, its, n, e1, _, e2, e3⟩ := g
  unfold ofAClassStatement
  apply wpAny_bind
  apply wpAny_typeOf tp
  dsimp only
  have y : (("tuple" : String) == "tuple") = true := by decide
  simp only [y, Bool.false_eq_true, if_true, if_false, Bool.not_true]
  try apply wpAny_bind
  try apply wpAny_pure
  try simp only [Bool.false_eq_true, if_false, Bool.not_true]
  show wpAny (model P w) _ (seqItems? (.ref b) >>= _) _ _ s
  apply wpAny_bind
  apply wpAny_seqItems e1 e2
  dsimp only
  apply wpAny_bind
  show wpAny _ _ (forIn its _ _) _ _ s
  rw [← Array.forIn_toList]
  refine wpAny_forIn_list _ (fun left r t => t = s ∧ r.1 = none ∧ ∀ v ∈ left, ∃ x tk, v = Value.str x tk) _ (fun v left r t z => ?_) (fun r t z => ?_) _ _ ⟨rfl, rfl, words_of e3⟩
  · obtain ⟨rfl, z2, z3⟩ := z
    obtain ⟨x, tk, rfl⟩ := z3 v List.mem_cons_self
    rw [class_txt]
    apply wpAny_bind
    apply wpAny_pure
    simp only [if_false, Bool.false_eq_true]
    exact wpAny_pure ⟨rfl, rfl, fun u m => z3 u (.tail _ m)⟩
  · obtain ⟨r1, r2⟩ := r
    obtain ⟨rfl, z2, _⟩ := z
    simp only at z2
    subst z2
    exact wpAny_pure q
theorem hash_tw {k : Tx} {b : Addr} {Q : Bool → Shared → Prop} (g : TW P w s.heap k b) (q : ∀ y, Q y s) : wpAny (model P w) A (hashByValue 8 (.ref b)) Q E s := by
  have tp := g.typeIs
  obtain ⟨o, its, n, e1, _, e2, e3⟩ := g
  unfold hashByValue
  apply wpAny_bind
  apply wpAny_specialOf tp F.slot_tuple_hash.lookup
  show wpAny (model P w) _ (seqItems? (.ref b) >>= _) _ _ s
  apply wpAny_bind
  apply wpAny_seqItems e1 e2
  apply wpAny_bind
  show wpAny _ _ (forIn its _ _) _ _ s
  rw [← Array.forIn_toList]
  refine wpAny_forIn_list _ (fun left r t => t = s ∧ r.1 = none ∧ ∀ v ∈ left, ∃ x tk, v = Value.str x tk) _ (fun v left r t z => ?_) (fun r t z => ?_) _ _ ⟨rfl, rfl, words_of e3⟩
  · obtain ⟨rfl, z2, z3⟩ := z
    obtain ⟨x, tk, rfl⟩ := z3 v List.mem_cons_self
    rw [hash_txt]
    apply wpAny_bind
    apply wpAny_pure
    simp only [if_true, Bool.not_false]
    exact wpAny_pure (wpAny_pure (q false))
  · obtain ⟨r1, r2⟩ := r
    obtain ⟨rfl, z2, _⟩ := z
    simp only at z2
    subst z2
    exact wpAny_pure (q true)
theorem unseen_tw {k : Tx} {b : Addr} {Q : Bool → Shared → Prop} (g : TW P w s.heap k b) {ys : List Value} (gy : ∀ y ∈ ys, ∃ c k', y = Value.ref c ∧ TW P w s.heap k' c) (q : Q false s) : wpAny (model P w) A (searchCouldBeSeen (.ref b) ys) Q E s := by
  unfold searchCouldBeSeen
  apply wpAny_bind
  refine wpAny_forIn_list _ (fun left r t => t = s ∧ r.1 = none ∧ ∀ y ∈ left, ∃ c k', y = Value.ref c ∧ TW P w s.heap k' c) _ (fun y left r t z => ?_) (fun r t z => ?_) _ _ ⟨rfl, rfl, gy⟩
  · obtain ⟨rfl, z2, z3⟩ := z
    obtain ⟨c, k', rfl, gc⟩ := z3 y List.mem_cons_self
    have left' : ∀ y ∈ left, ∃ c k', y = Value.ref c ∧ TW P w t.heap k' c := fun u m => z3 u (.tail _ m)
    dsimp only
    by_cases same : (b == c || (carriedByValue (.ref b) && carriedByValue (.ref c))) = true
    · exact wp_if_pos same (wpAny_pure ⟨rfl, rfl, left'⟩)
    · apply wp_if_neg same
      apply wpAny_bind
      apply wpAny_eqIsQuiet_tuple g
      simp only [Bool.false_eq_true, if_false, Bool.not_true]
      apply wpAny_bind
      apply wpAny_eqIsQuiet_tuple gc
      simp only [Bool.false_eq_true, if_false, Bool.not_true]
      apply wpAny_bind
      apply class_tw g
      simp only [if_false, Bool.false_eq_true]
      apply wpAny_bind
      apply class_tw gc
      simp only [if_false, Bool.false_eq_true]
      exact wpAny_pure ⟨rfl, rfl, left'⟩
  · obtain ⟨r1, r2⟩ := r
    obtain ⟨rfl, z2, _⟩ := z
    simp only at z2
    subst z2
    exact wpAny_pure q
theorem TW.stay {h h' : Heap} {k : Tx} {b : Addr} (g : TW P w h k b) (st : ∀ c o, h.get? c = some o → h'.get? c = some o) : TW P w h' k b :=
  match g with
  | ⟨o, its, n, e, r⟩ => ⟨o, its, n, st b o e, r⟩
theorem TW.off {h h' : Heap} {k : Tx} {a b : Addr} {es : Array (Int × Value)} {ep : Nat} {t : SetTable} (g : TW P w h k b) (at' : h.get? a = some (stO es ep t)) (sb : Heap.SameBut a h h') : TW P w h' k b := by
  obtain ⟨o, its, n, e1, e2, e3, e4⟩ := g
  refine ⟨o, its, n, (sb.2 b fun z => ?_).trans e1, e2, e3, e4⟩
  rw [z, at'] at e1
  cases e1
  cases e3
def ent (P : Program) (w : World) (m : Addr × Tx) : Int × Value := (hW P w m.2, .ref m.1)
structure Cup (P : Program) (w : World) (h : Heap) (a : Addr) (L : Mem) (es : Array (Int × Value)) (ep : Nat) (t : SetTable) : Prop where
  here : h.get? a = some (stO es ep t)
  list : es.toList = L.map (ent P w)
  tab : TabOk t (L.map fun m => hW P w m.2)
  once : (L.map Prod.snd).Nodup
  each : ∀ m ∈ L, TW P w h m.2 m.1
  led : t.led = true ∨ w.params.followText "set-order" = true
  free : L.length * 5 < t.mask * 3
  few : L.length ≤ 63
variable {a : Addr} {L : Mem} {es : Array (Int × Value)} {ep : Nat} {t : SetTable}
theorem es_size (e : es.toList = L.map (ent P w)) : es.size = L.length := by
  have z := congrArg List.length e
  rwa [List.length_map, Array.length_toList] at z
theorem Cup.size (C : Cup P w s.heap a L es ep t) : es.size = L.length := es_size C.list
theorem Cup.fits (C : Cup P w s.heap a L es ep t) : t.fits es.size = true := by
  have z1 := C.tab.sz
  rw [List.length_map] at z1
  have z2 := C.size
  have z3 := C.free
  unfold SetTable.fits; unfold SetTable.fill
  rw [C.tab.dm, Bool.and_eq_true, beq_iff_eq, decide_eq_true_eq]
  constructor
  · omega
  · show t.place.size + 0 ≤ t.mask
    omega
theorem Cup.nth (C : Cup P w s.heap a L es ep t) {i : Nat} {m : Addr × Tx} (e : L[i]? = some m) : es[i]? = some (ent P w m) := by
  rw [← Array.getElem?_toList, C.list, List.getElem?_map, e, Option.map_some]
theorem Cup.whole (C : Cup P w s.heap a L es ep t) : ¬ t.gaveWay = true := by
  unfold SetTable.gaveWay
  rw [mask_odd C.tab.mok]
  decide
abbrev hsh (es : Array (Int × Value)) (i : Nat) : Int := (es[i]?.map (·.1)).getD 0
theorem Cup.hAt (C : Cup P w s.heap a L es ep t) {i : Nat} {m : Addr × Tx} (e : L[i]? = some m) : hsh es i = hW P w m.2 := by
  show ((es[i]?).map (·.1)).getD 0 = hW P w m.2
  rw [C.nth e] <;> rfl
theorem no_dummy (m : Nat) : ∀ (c : Nat) (p : SetTable.Probe), p.dummy = none → (nth m p c).dummy = none
  | 0, _, e => e
  | c + 1, p, e => no_dummy m c (adv m p) (by unfold adv; split <;> exact e)
abbrev pAt (m : Nat) (v : Int) (c : Nat) : SetTable.Probe := nth m (runAt m (SetTable.bits v % (m + 1)) (SetTable.bits v)) c
def Ahead (L : Mem) (t : SetTable) (v : Int) (k : Tx) (c : Nat) : Prop := ∀ (i : Nat) (m : Addr × Tx), L[i]? = some m → m.2 = k → ∀ d, d < c → t.place.toList[i]? ≠ some (way t.mask v d)
theorem Cup.hunt (C : Cup P w s.heap a L es ep t) {x : Addr} {k : Tx} (g : TW P w s.heap k x) (gu : A.units < cLine) {K : Nat} (k1 : K < 10 * SetTable.turns t.mask) (k2 : way t.mask (hW P w k) K ∉ t.place.toList)
    (k3 : ∀ d, d < K → way t.mask (hW P w k) d ∈ t.place.toList) {Q : SetFound → Shared → Prop} (yes : k ∈ L.map Prod.snd → Q (.there none) s) (no : k ∉ L.map Prod.snd → Q (.free (way t.mask (hW P w k) K) false) s) :
    ∀ (f c : Nat) (stand : Option SetTable.Probe), stand.getD (t.probeStart (hW P w k)) = pAt t.mask (hW P w k) c → c ≤ K → K < f + c → Ahead L t (hW P w k) k c → wpAny (model P w) A (setSearchFrom a (.ref x) (hW P w k) true f stand) Q E s
  | 0, c, stand, _, z, f, _ => absurd f (by omega)
  | f + 1, c, stand, e, z, hf, ah => by
    rw [setSearchFrom_succ]
    apply wpAny_bind
    apply wpAny_setState_of C.here rfl C.fits
    dsimp only
    apply wp_if_neg C.whole
    try apply wpAny_bind
    try apply wpAny_pure
    have shift : ∀ d, L2.nth t.mask (pAt t.mask (hW P w k) c) d = pAt t.mask (hW P w k) (c + d) := fun d => (nth_add t.mask c _ d).symm
    have wj : ∀ d, (L2.nth t.mask (pAt t.mask (hW P w k) c) d).j = way t.mask (hW P w k) (c + d) := fun d => congrArg SetTable.Probe.j (shift d)
    have at_ : ∀ {d i : Nat} {m : Addr × Tx}, L[i]? = some m → m.2 = k → c ≤ d → (∀ k' i', k' < d + 1 - c → t.place.toList[i']? = some (L2.nth t.mask (pAt t.mask (hW P w k) c) k').j → hsh es i' ≠ hW P w k) → t.place.toList[i]? ≠ some (way t.mask (hW P w k) d) := fun {d i m} e1 e2 e3 e4 e5 => by
      refine e4 (d - c) i (by omega) ?_ ?_
      · rw [wj, show c + (d - c) = d by omega]; exact e5
      · rw [C.hAt e1, e2]
    have sp := go_spec t C.tab.ris C.tab.dm (hsh es) (hW P w k) (10 * SetTable.turns t.mask) (K - c) (pAt t.mask (hW P w k) c) (no_dummy _ _ _ rfl) (by omega) (fun d hd => by rw [wj]; exact k3 _ (by omega)) (by rw [wj, show c + (K - c) = K by omega]; exact k2)
    rcases sp with ⟨q, i, q1, q2, q3, q4, q5⟩ | ⟨q4, q5⟩
    · have pr : t.probe (hsh es) (hW P w k) (stand.getD (t.probeStart (hW P w k))) = some (.candidate (way t.mask (hW P w k) (c + q)) i (pAt t.mask (hW P w k) (c + (q + 1)))) := by
        rw [e, ← wj, ← shift]
        exact q5
      rw [show (fun i => (es[i]?.map (·.1)).getD 0) = hsh es from rfl, pr]
      dsimp only
      rw [wj] at q2
      have il : i < L.length := by
        have z1 := (List.getElem?_eq_some_iff.mp q2).1
        have z2 := C.tab.sz
        rw [List.length_map] at z2
        rw [Array.length_toList] at z1
        omega
      obtain ⟨m, em⟩ : ∃ m, L[i]? = some m := ⟨L[i], List.getElem?_eq_getElem il⟩
      have mm := List.mem_of_getElem? em
      have sl : t.slot (way t.mask (hW P w k) (c + q)) = .live i := slot_live C.tab.ris q2
      have on : wpAny (model P w) A (searchRest a (.ref x) (hW P w k) true f es t (way t.mask (hW P w k) (c + q)) i (pAt t.mask (hW P w k) (c + (q + 1)))) Q E s := by
        unfold searchRest
        rw [C.nth em]
        dsimp only [ent]
        apply wpAny_bind
        apply wpAny_holding
        apply wpAny_eqBool_tuple gu (C.each m mm) g
        apply wpAny_bind
        apply wpAny_setState_of C.here rfl C.fits
        dsimp only
        by_cases same : m.2 = k
        · exact wp_if_pos (by simp [same]) (wpAny_pure (yes (List.mem_map.mpr ⟨m, mm, same⟩)))
        · apply wp_if_neg (by simp [same])
          try apply wpAny_bind
          try apply wpAny_pure
          rw [sameMem]
          dsimp only
          simp only [if_true, sl, C.nth em, ent]
          apply wpAny_bind
          apply wpAny_isSame_ref_self
          apply wpAny_bind
          apply wpAny_pure
          simp only [if_true]
          apply wp_if_neg (by simp [same])
          refine Cup.hunt C g gu k1 k2 k3 yes no f (c + (q + 1)) _ rfl (by omega) (by omega) fun i0 m0 e1 e2 d hd => ?_
          rcases Nat.lt_or_ge d c with y | y
          · exact ah i0 m0 e1 e2 d y
          · rcases Nat.lt_or_ge d (c + q) with u | u
            · exact at_ e1 e2 y fun k' i' h' => q4 k' i' (by omega)
            · intro e5
              have ed : d = c + q := by omega
              rw [ed] at e5
              have s0 := slot_live C.tab.ris e5
              rw [sl] at s0
              injection s0 with s0
              rw [← s0, em] at e1
              exact same ((congrArg Prod.snd (Option.some.inj e1)).trans e2)
      by_cases ld : t.led = true
      · apply wp_if_neg (by simp [ld])
        try apply wpAny_bind
        try apply wpAny_pure
        exact on
      · apply wp_if_pos (by simp [ld])
        apply wpAny_bind
        refine unseen_tw g (fun y hy => ?_) ?_
        · obtain ⟨e0, he, ee⟩ := List.mem_map.mp hy
          have he' : e0 ∈ es.toList := by
            have : e0 ∈ es ∧ e0.1 = hW P w k := by simpa using he
            simpa using this.1
          rw [C.list] at he'
          obtain ⟨m2, hm2, e2⟩ := List.mem_map.mp he'
          exact ⟨m2.1, m2.2, by rw [← ee, ← e2] <;> rfl, C.each m2 hm2⟩
        · apply wp_if_neg (by decide)
          try apply wpAny_bind
          try apply wpAny_pure
          exact on
    · have pr : t.probe (hsh es) (hW P w k) (stand.getD (t.probeStart (hW P w k))) = some (.empty (way t.mask (hW P w k) K) none) := by
        have e2 : way t.mask (hW P w k) K = (L2.nth t.mask (pAt t.mask (hW P w k) c) (K - c)).j := by rw [wj, show c + (K - c) = K by omega]
        rw [e, e2]
        exact q5
      rw [show (fun i => (es[i]?.map (·.1)).getD 0) = hsh es from rfl, pr]
      dsimp only
      refine wpAny_pure (no fun hm => ?_)
      obtain ⟨m, mm, ek⟩ := List.mem_map.mp hm
      obtain ⟨i, em⟩ := List.getElem?_of_mem mm
      have il : i < t.place.toList.length := by
        have z1 := (List.getElem?_eq_some_iff.mp em).1
        have z2 := C.tab.sz
        rw [List.length_map] at z2
        rw [Array.length_toList]
        omega
      have ej := List.getElem?_eq_getElem il
      obtain ⟨d, hd, ed⟩ := C.tab.before k2 (by rw [List.getElem?_map, em, ← ek] <;> rfl) ej
      rw [← ed] at ej
      rcases Nat.lt_or_ge d c with y | y
      · exact ah i m em ek d y ej
      · exact at_ em ek y (fun k' i' h' => q4 k' i' (by omega)) ej
theorem Cup.seek (C : Cup P w s.heap a L es ep t) {x : Addr} {k : Tx} (g : TW P w s.heap k x) (gu : A.units < cLine) {Q : SetFound → Shared → Prop} (yes : k ∈ L.map Prod.snd → Q (.there none) s)
    (no : ∀ K, k ∉ L.map Prod.snd → way t.mask (hW P w k) K ∉ t.place.toList → (∀ d, d < K → way t.mask (hW P w k) d ∈ t.place.toList) → Q (.free (way t.mask (hW P w k) K) false) s) : wpAny (model P w) A (setSearch a (.ref x) (hW P w k) true) Q E s := by
  have fr := C.free
  obtain ⟨K, k1, k2, k3⟩ := C.tab.first (by rw [List.length_map]; omega) (hW P w k)
  have far : K < 100000 := by
    unfold SetTable.turns at k1
    rcases C.tab.mok with e | e | e <;> omega
  unfold setSearch
  exact C.hunt g gu k1 k2 k3 yes (fun z => no K z k2 k3) 100000 0 none rfl (Nat.zero_le _) (by omega) fun _ _ _ _ d z => absurd z (Nat.not_lt_zero _)
end
end Pt
end
section
set_option maxRecDepth 100000
set_option maxHeartbeats 1000000
namespace Pt
open PySem PySem.Spec PyProof.Rows L2
section
variable {w : World} {P : Program} {s : Shared} {A : Around} {E : Value → Shared → Prop}
variable {a : Addr} {L : Mem} {es : Array (Int × Value)} {ep : Nat} {t : SetTable}
theorem range_pick {α : Type} : ∀ L : List α, (List.range L.length).filterMap (fun i => L[i]?) = L
  | [] => rfl
  | x :: r => by
    rw [List.length_cons, List.range_succ_eq_map, List.filterMap_cons_some (f := fun i => (x :: r)[i]?) (b := x) rfl, List.filterMap_map]
    congr 1
    exact range_pick r
theorem picked {L : Mem} {es : Array (Int × Value)} {order : Array Nat} (e : es.toList = L.map (ent P w)) (p : order.toList.Perm (List.range L.length)) :
    ∃ M : Mem, (order.filterMap (es[·]?)).toList = M.map (ent P w) ∧ M.Perm L ∧ (M.map fun m => hW P w m.2) = order.toList.map fun i => (es.map (·.1)).getD i 0 := by
  have at_ : ∀ i, es[i]? = (L[i]?).map (ent P w) := fun i => by rw [← Array.getElem?_toList, e, List.getElem?_map]
  refine ⟨order.toList.filterMap fun i => L[i]?, ?_, ?_, ?_⟩
  · rw [Array.toList_filterMap, List.map_filterMap]
    congr 1
    funext i
    exact at_ i
  · have z := p.filterMap fun i => L[i]?
    rwa [range_pick] at z
  · have all : ∀ l : List Nat, (∀ i ∈ l, i < L.length) → ((l.filterMap fun i => L[i]?).map fun m => hW P w m.2) = l.map fun i => (es.map (·.1)).getD i 0 := fun l => by
      induction l with
      | nil => exact fun _ => rfl
      | cons i l ih =>
        intro hl
        have hi := hl i (.head _)
        have e1 := List.getElem?_eq_getElem hi
        rw [List.filterMap_cons_some e1, List.map_cons, List.map_cons, ih fun j hj => hl j (.tail _ hj)]
        congr 1
        have e2 : (es.map (·.1))[i]? = some (hW P w (L[i]).2) := by rw [Array.getElem?_map, at_, e1] <;> rfl
        rw [Array.getD_eq_getD_getElem?, e2] <;> rfl
    exact all _ fun i hi => List.mem_range.mp (p.mem_iff.mp hi)
theorem set_laid {es' : Array (Int × Value)} {t' : SetTable} {Q : Unit → Shared → Prop} (here : s.heap.get? a = some (stO es ep t)) (few : es'.size ≤ 63)
    (q : ∀ h', h'.get? a = some (stO es' (ep + 1) t') → Heap.SameBut a s.heap h' → Q () { s with heap := h' }) : wpAny (model P w) A (storeSet a es' t') Q E s :=
  wpAny_storeSet_of here rfl (q _ (Heap.get?_update_self _ here rfl) (Heap.SameBut.update _ a _)) (by rw [sizeLine_eq]; omega)
theorem laid_anew (here : s.heap.get? a = some (stO es ep t)) (list : es.toList = L.map (ent P w)) (tab : TabOk t (L.map fun m => hW P w m.2)) (once : (L.map Prod.snd).Nodup) (each : ∀ m ∈ L, TW P w s.heap m.2 m.1)
    (led : t.led = true ∨ w.params.followText "set-order" = true) (few : L.length ≤ 63) (room : L.length ≤ t.mask) {wanted M : Nat} (m1 : SetTable.sizeAbove wanted - 1 = M) (m2 : MaskOk M) (m3 : SetTable.sizeAbove wanted ≤ 128) (free : L.length * 5 < M * 3) {Q : Unit → Shared → Prop}
    (q : ∀ h' L' es' ep' t', Heap.SameBut a s.heap h' → Cup P w h' a L' es' ep' t' → L'.Perm L → Q () { s with heap := h' }) : wpAny (model P w) A (setRelay a wanted) Q E s := by
  have sz := es_size list
  have pz := tab.sz
  rw [List.length_map] at pz
  have fit : t.fits es.size = true := by
    unfold SetTable.fits; unfold SetTable.fill
    rw [tab.dm, Bool.and_eq_true, beq_iff_eq, decide_eq_true_eq]
    constructor
    · omega
    · show t.place.size + 0 ≤ t.mask
      omega
  obtain ⟨t', order, o1, o2, o3, o4, o5, _, _⟩ := relaid_ok t (hs := es.map (·.1)) (wanted := wanted) m1 m2 (by rw [Array.size_map, sz]; omega)
  rw [Array.size_map, sz] at o2
  obtain ⟨N, n1, n2, n3⟩ := picked list o2
  rw [← n3] at o3
  have z2 : (order.filterMap (es[·]?)).size = es.size := by rw [es_size n1, n2.length_eq, sz]
  rw [setRelay_eq]
  apply wpAny_bind
  apply wpAny_setState_of here rfl fit
  dsimp only
  apply wp_if_neg (by rw [sizeLine_eq]; omega)
  try (apply wpAny_bind; apply wpAny_pure)
  rw [o1]
  dsimp only
  apply wpAny_bind
  apply wp_if_neg (by rw [z2]; simp)
  try (apply wpAny_bind; apply wpAny_pure)
  apply wpAny_pure
  dsimp only
  refine set_laid here (by rw [z2, sz]; exact few) fun h' h1 sb => ?_
  exact q h' N _ _ t' sb ⟨h1, n1, o3, (n2.map Prod.snd).nodup_iff.mpr once, fun m hm => (each m (n2.mem_iff.mp hm)).off here sb, by rw [o5]; exact led, by rw [n2.length_eq, o4]; exact free, by rw [n2.length_eq]; exact few⟩ n2
theorem full_is {hs : List Int} (T : TabOk t hs) : t.tooFull = decide (hs.length * 5 ≥ t.mask * 3) := by
  have z : t.fill = hs.length := by
    unfold SetTable.fill
    rw [T.dm, ← T.sz] <;> rfl
  unfold SetTable.tooFull
  rw [z]
theorem dull_is {hs : List Int} (T : TabOk t hs) (b : Bool) : TabOk (if b = true then t else { t with plain := false }) hs ∧ (if b = true then t else { t with plain := false }).mask = t.mask ∧ (if b = true then t else { t with plain := false }).led = t.led := by
  cases b with
  | true => exact ⟨T, rfl, rfl⟩
  | false => exact ⟨⟨T.ris, T.dm, T.sz, T.mok, T.bd, T.reach⟩, rfl, rfl⟩
theorem Cup.put (C : Cup P w s.heap a L es ep t) {x : Addr} {k : Tx} (g : TW P w s.heap k x) (gu : A.units < cLine) (few : k ∉ L.map Prod.snd → L.length + 1 ≤ 63) {Q : Bool → Shared → Prop}
    (q : ∀ b h' L' es' ep' t', Heap.SameBut a s.heap h' → Cup P w h' a L' es' ep' t' → (k ∈ L.map Prod.snd ∧ L' = L ∨ k ∉ L.map Prod.snd ∧ L'.Perm ((x, k) :: L)) → Q b { s with heap := h' }) : wpAny (model P w) A (setAddHashed a (.ref x) (hW P w k)) Q E s := by
  have sz := C.size
  have free := C.free
  unfold setAddHashed
  apply wpAny_holding
  rw [show 100000 = 99999 + 1 from rfl, setAddHashedIn_succ]
  apply wpAny_bind
  apply wpAny_setState_of C.here rfl C.fits
  dsimp only
  apply wp_if_neg (by simp [byScan, Value.scannable])
  try (apply wpAny_bind; apply wpAny_pure)
  apply wpAny_bind
  refine C.seek g gu (fun hm => ?_) fun K hm k2 k3 => ?_
  · dsimp only
    exact wpAny_pure (q false s.heap L es ep t (Heap.SameBut.refl a s.heap) C (.inl ⟨hm, rfl⟩))
  · dsimp only
    apply wpAny_bind
    apply wpAny_setState_of C.here rfl C.fits
    dsimp only
    obtain ⟨p1, p2, p3, p4, p5, _⟩ := C.tab.put k2 k3
    generalize t.put (way t.mask (hW P w k) K) = pt at p1 p3 p4 p5 ⊢
    obtain ⟨t1, p⟩ := pt
    dsimp only at p1 p3 p4 p5 ⊢
    rw [← p1] at p2 p3
    have e1 : (SetTable.insertAt es p (hW P w k, Value.ref x)).toList = (L.take p ++ (x, k) :: L.drop p).map (ent P w) := by
      rw [SetTable.toList_insertAt, C.list, List.map_append, List.map_cons, List.map_take, List.map_drop] <;> rfl
    have pm := put_perm (α := Addr × Tx) L p (x, k)
    have hashes : (L.take p ++ (x, k) :: L.drop p).map (fun m => hW P w m.2) = (L.map fun m => hW P w m.2).take p ++ hW P w k :: (L.map fun m => hW P w m.2).drop p := by
      rw [List.map_append, List.map_cons, List.map_drop, List.map_take]
    rw [← hashes] at p3
    have once1 : ((L.take p ++ (x, k) :: L.drop p).map Prod.snd).Nodup := (pm.map Prod.snd).nodup_iff.mpr (by rw [List.map_cons]; exact List.nodup_cons.mpr ⟨hm, C.once⟩)
    generalize SetTable.insertAt es p (hW P w k, Value.ref x) = es1 at e1 ⊢
    generalize L.take p ++ (x, k) :: L.drop p = L1 at e1 pm p3 once1
    have n1 : L1.length = L.length + 1 := pm.length_eq
    have s1 := es_size e1
    have few1 : L1.length ≤ 63 := by rw [n1]; exact few hm
    have rest : ∀ t2 : SetTable, TabOk t2 (L1.map fun m => hW P w m.2) → t2.mask = t.mask → t2.led = t.led → wpAny (model P w) A (storeSet a es1 t2 >>= fun _ => if (!false && t2.tooFull) = true then setRelay a (SetTable.grown (es.size + 1)) >>= fun _ => pure true else pure true) Q E s := fun t2 T2 em el => by
      apply wpAny_bind
      refine set_laid C.here (by rw [s1]; exact few1) fun h1 h2 sb => ?_
      have each1 : ∀ m ∈ L1, TW P w h1 m.2 m.1 := fun m hm' => by
        rcases List.mem_cons.mp (pm.mem_iff.mp hm') with z | z
        · rw [z]; exact g.off C.here sb
        · exact (C.each m z).off C.here sb
      have led1 : t2.led = true ∨ w.params.followText "set-order" = true := by rw [el]; exact C.led
      have ff := full_is T2
      rw [List.length_map, n1, em] at ff
      by_cases hf : (L.length + 1) * 5 ≥ t.mask * 3
      · apply wp_if_pos (by simp [ff, hf])
        apply wpAny_bind
        rw [sz]
        have two : (t.mask = 7 ∧ L.length = 4) ∨ (t.mask = 31 ∧ L.length = 18) := by
          rcases C.tab.mok with e | e | e
          · rw [e] at hf free; exact .inl ⟨e, by omega⟩
          · rw [e] at hf free; exact .inr ⟨e, by omega⟩
          · have := few hm; rw [e] at hf; omega
        have go : ∀ M, SetTable.sizeAbove (SetTable.grown (L.length + 1)) - 1 = M → MaskOk M → SetTable.sizeAbove (SetTable.grown (L.length + 1)) ≤ 128 → (L.length + 1) * 5 < M * 3 → wpAny (model P w) A (setRelay a (SetTable.grown (L.length + 1))) (fun _ s' => wpAny (model P w) A (pure true) Q E s') E { s with heap := h1 } := fun M g1 g2 g3 g4 =>
          laid_anew (s := { s with heap := h1 }) h2 e1 T2 once1 each1 led1 few1 (by rw [em, n1]; rcases two with ⟨u, v⟩ | ⟨u, v⟩ <;> omega) g1 g2 g3 (by rw [n1]; exact g4) fun h3 L2 es2 ep2 t3 sb2 C2 pm2 => wpAny_pure (q true h3 L2 es2 ep2 t3 (sb.trans sb2) C2 (.inr ⟨hm, pm2.trans pm⟩))
        rcases two with ⟨_, v⟩ | ⟨_, v⟩
        · refine go 31 ?_ (.inr (.inl rfl)) ?_ (by omega)
          · rw [v, size_20]
          · rw [v, size_20]; decide
        · refine go 127 ?_ (.inr (.inr rfl)) ?_ (by omega)
          · rw [v, size_76]
          · rw [v, size_76]; decide
      · apply wp_if_neg (by simp [ff]; omega)
        exact wpAny_pure (q true h1 L1 es1 (ep + 1) t2 sb ⟨h2, e1, T2, once1, each1, led1, by rw [n1, em]; omega, few1⟩ (.inr ⟨hm, pm⟩))
    by_cases pl : t1.plain = true
    · have on : ∀ y : Bool, wpAny (model P w) A (storeSet a es1 (if y = true then t1 else { t1 with plain := false }) >>= fun _ => if (!false && (if y = true then t1 else { t1 with plain := false }).tooFull) = true then setRelay a (SetTable.grown (es.size + 1)) >>= fun _ => pure true else pure true) Q E s := fun y =>
        have d := dull_is p3 y
        rest _ d.1 (d.2.1.trans p4) (d.2.2.trans p5)
      first
        | exact wpAny_bind (wp_if_pos pl (hash_tw g on))
        | exact wp_if_pos pl (wpAny_bind (hash_tw g on))
    · first
        | exact wpAny_bind (wp_if_neg pl (wpAny_pure (rest t1 p3 p4 p5)))
        | exact wp_if_neg pl (rest t1 p3 p4 p5)
        | exact wp_if_neg pl (wpAny_bind (wpAny_pure (rest t1 p3 p4 p5)))
end
end Pt
end
section
set_option maxRecDepth 100000
set_option maxHeartbeats 1000000
namespace Pt
open PySem PySem.Spec PyProof.Rows L2
def Kup (P : Program) (w : World) (h : Heap) (a : Addr) (L : Mem) : Prop := ∃ es ep t, Cup P w h a L es ep t
theorem Kup.move {P : Program} {w : World} {h h' : Heap} {a : Addr} {L : Mem} (C : Kup P w h a L) (k : ∀ o, h.get? a = some o → h'.get? a = some o) (g : ∀ m ∈ L, TW P w h' m.2 m.1) : Kup P w h' a L :=
  match C with
  | ⟨es, ep, t, c⟩ => ⟨es, ep, t, k _ c.here, c.list, c.tab, c.once, g, c.led, c.free, c.few⟩
theorem sub_few {xs ds : List Tx} (nd : xs.Nodup) (sub : ∀ x ∈ xs, x ∈ ds) : xs.length ≤ ds.length := by
  induction xs generalizing ds with
  | nil => exact Nat.zero_le _
  | cons x xs ih =>
    obtain ⟨n1, nx⟩ := List.nodup_cons.mp nd
    have hx := sub x List.mem_cons_self
    have := ih (ds := ds.erase x) nx fun y hy => (List.mem_erase_of_ne fun z : y = x => n1 (by rw [← z]; exact hy)).2 (sub y (.tail _ hy))
    rw [List.length_erase_of_mem hx] at this
    have := List.length_pos_of_mem hx
    rw [List.length_cons]
    omega
section
variable {prog : Program} {w : World} {A : Around} {R : Result → Shared → Prop} {I D : Addr} {fp wr : List Addr} {G : Array GenState → Array GenState → Prop}
variable {n : Nat} {P : Nat → Value → Prop} {St : Nat → Shared → Prop}
theorem fillT (W : WalksS prog w A.in1 I fp wr G n P St) (hD : D ∉ fp) (gu : A.in1.units < cLine) {ds : List Tx} (few : ds.length ≤ 63) {h0 : Heap} (d0 : h0.get? D = none) (w0 : ∀ b ∈ wr, h0.get? b = none) :
    ∀ (ys : Mem) (i : Nat) (L : Mem) (s : Shared), i + ys.length = n → (∀ j v, P (i + j) v → ∃ m, ys[j]? = some m ∧ v = .ref m.1) → (∀ m ∈ ys, m.2 ∈ ds ∧ TW prog w h0 m.2 m.1) → (∀ m ∈ L, m.2 ∈ ds ∧ TW prog w h0 m.2 m.1) → St i s →
    (∀ b o, h0.get? b = some o → s.heap.get? b = some o) → Kup prog w s.heap D L →
    (∀ s' L', Moved (D :: wr) G s s' → Kup prog w s'.heap D L' → (∀ k, k ∈ L'.map Prod.snd ↔ k ∈ L.map Prod.snd ∨ k ∈ ys.map Prod.snd) → (∀ m ∈ L', m ∈ L ∨ m ∈ ys) → R (.ok (.ret .none)) s') → codeAny (model prog w) A (.builtin "set.update.loop" ⟨[.ref D, .ref I], []⟩) R s
  | [], i, L, s, hn, _, _, gL, hs, k0, C, h => by
    have wide : ∀ b ∈ wr, b ∈ D :: wr := fun b z => .tail _ z
    have e : i = n := by simpa using hn
    subst e
    refine turn_of (wpAny_bind (m := pyNext (.ref I)) (W.done s _ _ hs fun s' m => ?_))
    have k1 : ∀ b o, h0.get? b = some o → s'.heap.get? b = some o := fun b o e => m.heap b o (fun z => by rw [w0 b z] at e; cases e) (k0 b o e)
    exact wpAny_pure (h s' L (m.mono wide) (C.move (fun o q => m.heap D o (fun z => hD (W.sub _ z)) q) fun u hu => (gL u hu).2.stay k1) (fun k => by simp) fun u hu => .inl hu)
  | y :: ys, i, L, s, hn, hv, gy, gL, hs, k0, C, h => by
    have wide : ∀ b ∈ wr, b ∈ D :: wr := fun b z => .tail _ z
    rw [List.length_cons] at hn
    refine turn_of (wpAny_bind (m := pyNext (.ref I)) (W.item i s _ _ (by omega) hs fun v s1 pv hs1 m => ?_))
    obtain ⟨y', ey, rfl⟩ := hv 0 v pv
    obtain rfl : y = y' := by simpa using ey
    have k1 : ∀ b o, h0.get? b = some o → s1.heap.get? b = some o := fun b o e => m.heap b o (fun z => by rw [w0 b z] at e; cases e) (k0 b o e)
    obtain ⟨es, ep, t, C1⟩ : Kup prog w s1.heap D L := C.move (fun o q => m.heap D o (fun z => hD (W.sub _ z)) q) fun u hu => (gL u hu).2.stay k1
    have gx := (gy y List.mem_cons_self).2.stay k1
    refine wpAny_bind (m := holding [Value.ref y.1] (setAdd D (.ref y.1))) (wpAny_holding ?_)
    unfold setAdd
    apply wpAny_holding
    apply wpAny_bind
    apply wpAny_pyHash_tuple gu gx
    refine Cup.put (s := { s1 with toks := s1.toks + (y.2.length + 1) }) C1 gx gu (fun hm => ?_) fun b h2 L' es' ep' t' sb C2 e2 => ?_
    · have := sub_few (xs := y.2 :: L.map Prod.snd) (ds := ds) (List.nodup_cons.mpr ⟨hm, C1.once⟩) fun x hx => by
        rcases List.mem_cons.mp hx with e | z
        · rw [e]; exact (gy y List.mem_cons_self).1
        · obtain ⟨u, hu, e⟩ := List.mem_map.mp z
          rw [← e]; exact (gL u hu).1
      rw [List.length_cons, List.length_map] at this
      omega
    have off : ∀ b, b ≠ D → ∀ o, s1.heap.get? b = some o → h2.get? b = some o := fun b ne o q => by rw [sb.2 b ne]; exact q
    have k2 : ∀ b o, h0.get? b = some o → h2.get? b = some o := fun b o e => off b (fun z => by rw [z, d0] at e; cases e) o (k1 b o e)
    have sub2 : ∀ u ∈ L', u ∈ L ∨ u = y := fun u hu => by
      rcases e2 with ⟨_, e⟩ | ⟨_, e⟩
      · rw [e] at hu; exact .inl hu
      · exact (List.mem_cons.mp (e.mem_iff.mp hu)).symm
    have keys2 : ∀ k, k ∈ L'.map Prod.snd ↔ k ∈ L.map Prod.snd ∨ k = y.2 := fun k => by
      rcases e2 with ⟨z, e⟩ | ⟨_, e⟩
      · rw [e]
        exact ⟨.inl, fun q => q.elim id fun q => by rw [q]; exact z⟩
      · rw [(e.map Prod.snd).mem_iff, List.map_cons, List.mem_cons]
        exact or_comm
    refine wpAny_pure ⟨plainId_quiet F.plain_set_update_loop _, fillT W hD gu few d0 w0 ys (i + 1) L' _ (by omega) (fun j v pj => ?_) (fun u hu => gy u (.tail _ hu)) (fun u hu => ?_) (W.frame _ s1 _ _ hs1 (Nat.le_add_right _ _) fun b hb => off b fun z => hD (z ▸ hb)) k2 ⟨es', ep', t', C2⟩ fun s' L2 m' C3 e3 e4 => ?_⟩
    · obtain ⟨u, eu, q⟩ := hv (j + 1) v (by rw [show i + (j + 1) = i + 1 + j by omega]; exact pj)
      exact ⟨u, by simpa using eu, q⟩
    · rcases sub2 u hu with z | z
      · exact gL u z
      · rw [z]; exact gy y List.mem_cons_self
    · refine h s' L2 (Moved.trans W.gtrans ((m.mono wide).then_heap (Nat.le_add_right _ _) fun b o hb => off b (fun z => hb (z ▸ List.mem_cons_self)) o) m') C3 (fun k => ?_) fun u hu => ?_
      · rw [e3, keys2, List.map_cons, List.mem_cons, or_assoc]
      · rcases e4 u hu with z | z
        · rcases sub2 u z with v | v
          · exact .inl v
          · rw [v]; exact .inr List.mem_cons_self
        · exact .inr (.tail _ z)
end
section
variable {prog : Program} {w : World} {A : Around} {s : Shared} {E : Value → Shared → Prop}
theorem kup_new {h : Heap} {a : Addr} (e : h.get? a = some (stO #[] 0 (.fresh 0 0 (!w.params.followText "set-order")))) : Kup prog w h a [] := by
  refine ⟨#[], 0, _, e, rfl, ⟨.nil, rfl, rfl, .inl rfl, (fun x z => nomatch z), fun i v j z => nomatch (show (none : Option Int) = some v from z)⟩, .nil, (fun _ z => nomatch z), ?_, (show 0 * 5 < 7 * 3 by decide), Nat.zero_le _⟩
  show (!w.params.followText "set-order") = true ∨ _
  cases w.params.followText "set-order" <;> simp
theorem tups_filled {a l : Addr} {vs : Array Value} {xs : Mem} {ds : List Tx} {Q : Shared → Prop} (hh : A.handled = none) (hl : s.heap.IsList l vs) (hi : vs.toList = xs.map fun m => Value.ref m.1) (few : ds.length ≤ 63) (gu : A.units + 3 < cLine) (ha : a < s.heap.objs.size) (hal : a ≠ l)
    {h0 : Heap} (d0 : h0.get? a = none) (n0 : h0.objs.size ≤ s.heap.objs.size) (k0 : ∀ b o, h0.get? b = some o → s.heap.get? b = some o) (gx : ∀ m ∈ xs, m.2 ∈ ds ∧ TW prog w h0 m.2 m.1)
    (ho : s.heap.get? a = some (stO #[] 0 (.fresh 0 0 (!w.params.followText "set-order"))))
    (h : ∀ h' tk L, (∀ b o, b ≠ a → s.heap.get? b = some o → h'.get? b = some o) → Kup prog w h' a L → (∀ k, k ∈ L.map Prod.snd ↔ k ∈ xs.map Prod.snd) → (∀ m ∈ L, m ∈ xs) → Q { s with heap := h', toks := tk }) :
    wpAny (model prog w) A (Builtin.«set.__init__» ⟨[.ref a, .ref l], []⟩) (fun fin s' => match fin with | .done f => f = .ret .none ∧ Q s' | .again _ => False) E s := by
  have hs : SeqAt s.heap l vs := .inl hl
  obtain ⟨T, hT, t1, t2, t3⟩ := seq_type hs
  have hT0 : s.TypeIs (.ref a) "set" := ⟨_, ho, rfl⟩
  unfold Builtin.«set.__init__»
  unfold noKeywords Builtin.Frozenset.updateFrom
  generalize hp : pyIter = it
  wp_walk
  subst hp
  refine hs.walk fun o St st W => wpAny_bind (wpAny_runValue ?_)
  have hg : (s.heap.push o).get? a = some (stO #[] 0 (.fresh 0 0 (!w.params.followText "set-order"))) := Heap.get?_push_of_some _ ho
  have len : vs.size = xs.length := by rw [← Array.length_toList, hi, List.length_map]
  have none_ : ∀ b, s.heap.objs.size ≤ b → h0.get? b = none := fun b hb => by
    cases z : h0.get? b with
    | none => rfl
    | some o => exact absurd (Nat.lt_of_lt_of_le (Heap.lt_size z) (Nat.le_trans n0 hb)) (Nat.lt_irrefl _)
  refine fillT (A := A) (W A.in1 hh) (D := a) (fun z => ?_) (by show A.units + 1 < cLine; omega) few d0 (fun b hb => none_ b (by rw [List.mem_singleton.mp hb]; exact Nat.le_refl _)) xs 0 [] _ (by omega) (fun j v e => ?_) gx (fun _ z => nomatch z) st (fun b o' e => Heap.get?_push_of_some _ (k0 b o' e)) (kup_new hg) fun s' L m B e1 e2 => ?_
  · rcases List.mem_cons.mp z with e | e
    · exact Nat.ne_of_lt ha e
    · exact hal (by simpa using e)
  · rw [Nat.zero_add] at e
    have e' : vs.toList[j]? = some v := by rw [Array.getElem?_toList]; exact e
    rw [hi, List.getElem?_map] at e'
    cases z : xs[j]? with
    | none => rw [z] at e'; cases e'
    | some m => rw [z] at e'; exact ⟨m, rfl, (Option.some.inj e').symm⟩
  · obtain ⟨h', g', d', tk, os'⟩ := s'
    have q1 : g' = s.gens := m.gens
    have q2 : d' = s.drawn := m.drawn
    have q3 : os' = s.os := m.os
    subst q1 q2 q3
    refine wpAny_pure (wpAny_pure ⟨rfl, h h' tk L (fun b o' nb e => m.heap b o' (fun z => ?_) (Heap.get?_push_of_some _ e)) B (fun k => by rw [e1]; simp) fun u hu => ?_⟩)
    · rcases List.mem_cons.mp z with q | q
      · exact nb q
      · exact Nat.ne_of_lt (Heap.lt_size e) (by simpa using q)
    · exact (e2 u hu).elim (fun z => nomatch z) id
theorem call_setT {l : Addr} {vs : Array Value} {xs : Mem} {ds : List Tx} {Q : Value → Shared → Prop} (hh : A.handled = none) (hl : s.heap.IsList l vs) (hi : vs.toList = xs.map fun m => Value.ref m.1) (few : ds.length ≤ 63) (gu : A.units + 8 < cLine)
    (gx : ∀ m ∈ xs, m.2 ∈ ds ∧ TW prog w s.heap m.2 m.1)
    (h : ∀ h' tk L, (∀ b o, s.heap.get? b = some o → h'.get? b = some o) → Kup prog w h' s.heap.objs.size L → (∀ k, k ∈ L.map Prod.snd ↔ k ∈ xs.map Prod.snd) → (∀ m ∈ L, m ∈ xs) → Q (.ref s.heap.objs.size) { s with heap := h', toks := tk }) :
    wpAny (model prog w) A (call (Value.type "set") [Value.ref l]) Q E s := by
  have ft := PySem.F.called_set
  obtain ⟨mr, ml, hmro⟩ := ft.mro
  have f1 := ft.made; have f2 := ft.sub; have f3 := ft.notType; have f4 := ft.canCreate
  have f5 := PySem.F.typeCall_set_1 (.ref l)
  refine wpAny_call (codeAny_of_tree (show wpAny _ _ (callAny (.type "set") _) _ _ _ from wpAny_pure ⟨Code.quiet_builtin _ (by decide +kernel), codeAny_builtin PySem.F.entry_type_call ?_⟩))
  rw [Around.under_plain (weight_type_call_type "set" [Value.ref l] []) (by rfl)]
  repeat (any_goals (first | wp_step | assumption))
  refine codeAny_mono (set_made (.ref l) (E := E) (Q := fun obj s₁ => obj = .ref s.heap.objs.size ∧ s₁ = { s with heap := s.heap.push (stO #[] 0 (.fresh 0 0 (!w.params.followText "set-order"))) }) ⟨rfl, rfl⟩) fun r s₁ hr => ?_
  match r, hr with
  | .error e, hr => exact hr
  | .ok (.ret obj), hr =>
    obtain ⟨e1, e2⟩ := hr
    subst e1 e2
    have at0 : (s.heap.push (stO #[] 0 (.fresh 0 0 (!w.params.followText "set-order")))).get? s.heap.objs.size = some (stO #[] 0 (.fresh 0 0 (!w.params.followText "set-order"))) := Heap.get?_push_size _ rfl
    have T0 : Shared.TypeIs { s with heap := s.heap.push (stO #[] 0 (.fresh 0 0 (!w.params.followText "set-order"))) } (.ref s.heap.objs.size) "set" := ⟨_, at0, rfl⟩
    have f6 := ft.init.lookup
    have f7 := ft.init.bind (.ref s.heap.objs.size)
    repeat (any_goals (first | wp_step | assumption))
    have lz : l < s.heap.objs.size := SeqAt.lt (.inl hl)
    have none_ : s.heap.get? s.heap.objs.size = none := by
      cases z : s.heap.get? s.heap.objs.size with
      | none => rfl
      | some o => exact absurd (Heap.lt_size z) (Nat.lt_irrefl _)
    refine codeAny_mono (codeAny_call_builtin (R := wants (fun v t => v = .none ∧ Q (.ref s.heap.objs.size) t) E) ft.init.plain PySem.F.entry_set_init (check_set_init_1 T0 (wpAny_mono (tups_filled (xs := xs) (ds := ds) (h0 := s.heap) (Q := fun t => Q (.ref s.heap.objs.size) t) ?_ (hl.push _) hi few ?_ (by rw [Heap.size_push]; exact Nat.lt_succ_self _) (Nat.ne_of_gt lz) none_ ?_ (fun b o e => Heap.get?_push_of_some _ e) gx at0 ?_) (fun fin t ht => ?_) fun _ _ z => z))) fun r₂ t hr₂ => ?_
    · simpa using hh
    · show A.units + 1 + 1 + 3 < cLine
      omega
    · rw [Heap.size_push]; exact Nat.le_succ _
    · exact fun h' tk L k B => h h' tk L (fun b o e => k b o (Nat.ne_of_lt (Heap.lt_size e)) (Heap.get?_push_of_some _ e)) B
    · match fin, ht with
      | .done f, ht => obtain ⟨e, q⟩ := ht; subst e; exact ⟨rfl, q⟩
      | .again _, ht => exact ht.elim
    · match r₂, hr₂ with
      | .error e, z => exact z
      | .ok (.ret v), z =>
        obtain ⟨e, q⟩ := z
        subst e
        repeat (any_goals (first | wp_step | assumption))
      | .ok .next, z => exact z.elim
      | .ok .brk, z => exact z.elim
      | .ok .cont, z => exact z.elim
  | .ok .next, z => exact z.elim
  | .ok .brk, z => exact z.elim
  | .ok .cont, z => exact z.elim
end
end Pt
end
section
set_option maxRecDepth 100000
set_option maxHeartbeats 1000000
namespace Pu
open PySem PySem.Spec L2
abbrev tuD (k : List Str) : D := .tup (k.map .str)
theorem toks_inj : ∀ {x y : List Str}, PySem.W.keyToksAll (D.pys (x.map D.str)) = PySem.W.keyToksAll (D.pys (y.map D.str)) → x = y
  | [], [], _ => rfl
  | [], _ :: _, e => by cases e
  | _ :: _, [], e => by cases e
  | x :: xs, y :: ys, e => by
    have e : (Sum.inl (1 : Int) : Int ⊕ List Nat) :: .inr x.cps.toList :: PySem.W.keyToksAll (D.pys (xs.map D.str)) = .inl 1 :: .inr y.cps.toList :: PySem.W.keyToksAll (D.pys (ys.map D.str)) := e
    injection e with _ e
    injection e with e1 e2
    injection e1 with e1
    rw [PySem.W.str_of_cps e1, toks_inj e2]
theorem tT_anti {x y : List Str} (h1 : dLe (tuD x) (tuD y) = true) (h2 : dLe (tuD y) (tuD x) = true) : x = y := by
  have g1 : (PyProof.Rows.listOrd PyProof.Rows.itemOrd).blt (PySem.W.keyToks (tuD y).py) (PySem.W.keyToks (tuD x).py) = false := by
    have : (!PySem.W.dataLt (tuD y).py (tuD x).py) = true := h1
    rw [Bool.not_eq_true'] at this
    exact this
  have g2 : (PyProof.Rows.listOrd PyProof.Rows.itemOrd).blt (PySem.W.keyToks (tuD x).py) (PySem.W.keyToks (tuD y).py) = false := by
    have : (!PySem.W.dataLt (tuD x).py (tuD y).py) = true := h2
    rw [Bool.not_eq_true'] at this
    exact this
  exact toks_inj ((PyProof.Rows.listOrd PyProof.Rows.itemOrd).total _ _ g2 g1)
theorem one_way {α : Type} {le : α → α → Prop} : ∀ {A B : List α}, A.Perm B → A.Pairwise le → B.Pairwise le → (∀ a ∈ A, ∀ b ∈ A, le a b → le b a → a = b) → A = B
  | [], B, h, _, _, _ => (List.nil_perm.mp h).symm
  | a :: A, [], h, _, _, _ => nomatch (List.perm_nil.mp h)
  | a :: A, b :: B, h, hA, hB, hs => by
    obtain ⟨a1, a2⟩ := List.pairwise_cons.mp hA
    obtain ⟨b1, b2⟩ := List.pairwise_cons.mp hB
    have e : a = b := by
      rcases List.mem_cons.mp (h.mem_iff.mp List.mem_cons_self : a ∈ b :: B) with z | z
      · exact z
      · rcases List.mem_cons.mp (h.mem_iff.mpr List.mem_cons_self : b ∈ a :: A) with w | w
        · exact w.symm
        · exact hs a List.mem_cons_self b (List.mem_cons_of_mem _ w) (a1 b w) (b1 a z)
    subst e
    congr 1
    exact one_way ((List.perm_cons a).mp h) a2 b2 fun x hx y hy => hs x (List.mem_cons_of_mem _ hx) y (List.mem_cons_of_mem _ hy)
theorem mem_dedT {x : List Str} : ∀ {l : List (List Str)}, x ∈ dedT l ↔ x ∈ l
  | [] => Iff.rfl
  | y :: r => by
    unfold dedT
    split
    · rename_i h
      rw [mem_dedT, List.mem_cons]
      exact ⟨.inr, fun z => z.elim (fun e => by rw [e]; exact mem_dedT.mp h) id⟩
    · rw [List.mem_cons, List.mem_cons, mem_dedT]
theorem nodup_dedT : ∀ l : List (List Str), (dedT l).Nodup
  | [] => .nil
  | y :: r => by
    unfold dedT
    split
    · exact nodup_dedT r
    · rename_i h
      exact List.nodup_cons.mpr ⟨h, nodup_dedT r⟩
theorem ssett_uniq {M ys : List (List Str)} (nd : M.Nodup) (mem : ∀ k, k ∈ M ↔ k ∈ ys) (so : M.Pairwise fun a b => dLe (tuD a) (tuD b) = true) : M.map tuD = ((dedT ys).map tuD).mergeSort dLe := by
  have p : M.Perm (dedT ys) := (List.perm_ext_iff_of_nodup nd (nodup_dedT ys)).mpr fun k => by rw [mem, mem_dedT]
  obtain ⟨g1, g2⟩ := sort_stb ((dedT ys).map tuD)
  refine one_way (le := fun a b => dLe a b = true) ((p.map tuD).trans g2.perm.symm) (List.pairwise_map.mpr so) (List.Pairwise.imp (fun {a b} h => ?_) g1) fun a ha b hb h1 h2 => ?_
  · have h : ltD b a = false := h
    show (!ltD b a) = true
    rw [h] <;> rfl
  · obtain ⟨x, _, rfl⟩ := List.mem_map.mp ha
    obtain ⟨y, _, rfl⟩ := List.mem_map.mp hb
    rw [tT_anti h1 h2]
theorem perm_back {α β : Type} {f : α → β} {v w : List β} (h : v.Perm w) : ∀ {l : List α}, w = l.map f → ∃ l' : List α, l'.Perm l ∧ v = l'.map f := by
  induction h with
  | nil => exact fun {l} e => ⟨l, .refl _, e⟩
  | cons x h ih =>
    intro l e
    cases l with
    | nil => cases e
    | cons a l =>
      rw [List.map_cons] at e
      injection e with e1 e2
      obtain ⟨l', p, q⟩ := ih e2
      exact ⟨a :: l', .cons a p, by rw [List.map_cons, e1, q]⟩
  | swap x y t =>
    intro l e
    match l, e with
    | a :: b :: l, e =>
      simp only [List.map_cons] at e
      injection e with e1 e2
      injection e2 with e2 e3
      exact ⟨b :: a :: l, .swap a b l, by simp only [List.map_cons, e1, e2, e3]⟩
  | trans h1 h2 i1 i2 =>
    intro l e
    obtain ⟨l2, p2, q2⟩ := i2 e
    obtain ⟨l3, p3, q3⟩ := i1 q2
    exact ⟨l3, p3.trans p2, q3⟩
def keyAt (L : Pt.Mem) : Value → D
  | .ref b => tuD (((L.find? fun m => decide (m.1 = b)).map Prod.snd).getD [])
  | _ => .non
theorem keyAt_mem {L : Pt.Mem} (inj : ∀ m ∈ L, ∀ m' ∈ L, m.1 = m'.1 → m.2 = m'.2) {m : Addr × List Str} (hm : m ∈ L) : keyAt L (.ref m.1) = tuD m.2 := by
  show tuD (((L.find? fun u => decide (u.1 = m.1)).map Prod.snd).getD []) = _
  cases z : L.find? fun u => decide (u.1 = m.1) with
  | none =>
    have := List.find?_eq_none.mp z m hm
    simp at this
  | some u =>
    have h1 := List.mem_of_find?_eq_some z
    have h2 := List.find?_some z
    rw [inj m hm u h1 (of_decide_eq_true h2).symm] <;> rfl
theorem alike_txts : ∀ x y : List Str, PySem.W.alikeAll (D.pys (x.map D.str)) (D.pys (y.map D.str)) = true
  | [], [] => rfl
  | [], _ :: _ => rfl
  | _ :: _, [] => rfl
  | a :: x, b :: y => by
    show (PySem.W.alike (.str a) (.str b) && PySem.W.alikeAll (D.pys (x.map D.str)) (D.pys (y.map D.str))) = true
    rw [alike_txts x y] <;> rfl
section
variable {w : World} {P : Program} {s : Shared} {A : Around} {E : Value → Shared → Prop}
theorem sorted_kup {a : Addr} {L : Pt.Mem} {Q : Value → Shared → Prop} (C : Pt.Kup P w s.heap a L) (hh : A.handled = none) (gu : A.units + 200 < cLine) (fr : ∀ m ∈ L, ck 8 (tuD m.2).py = true ∧ ∃ as, Reads s.heap (.ref m.1) (tuD m.2).py as)
    (q : ∀ s' p (out : Array Value) (c : Nat) (M : Pt.Mem), (∀ b o, s.heap.get? b = some o → s'.heap.get? b = some o) → s'.gens = s.gens ∧ s'.os = s.os → s.heap.objs.size ≤ p → s'.heap.get? p = some (PyProof.Rows.seqObj "list" out c) →
      out.toList = M.map (fun m => Value.ref m.1) → M.Perm L → (M.map Prod.snd).Pairwise (fun a b => dLe (tuD a) (tuD b) = true) → Q (.ref p) s') : wpAny (model P w) A (call (.builtin "sorted") [.ref a]) Q E s := by
  obtain ⟨es, ep, t, K⟩ := C
  have inj : ∀ m ∈ L, ∀ m' ∈ L, m.1 = m'.1 → m.2 = m'.2 := fun m h1 m' h2 e => by
    have k1 := K.each m h1
    have k2 := K.each m' h2
    rw [e] at k1
    exact k1.inj k2
  apply Calls.call_function_entry PyProof.Rows.kind_sorted PyProof.Rows.plain_sorted PyProof.Rows.entry_sorted (PyProof.Rows.args_sorted1 _)
  unfold Builtin.«sorted»
  refine wpAny_bind (m := checkCount "sorted" 1 1 _) (wpAny_pure (wpAny_bind (collect_set (A := A.in1) (es := es) (ep := ep) (t := t) hh ⟨_, K.here, rfl, rfl⟩ K.fits (by rw [K.size]; have := K.few; show L.length < 4096; omega) K.tab.ris K.led.symm fun s1 vs k1 hz g1 o1 p1 => ?_)))
  have eL : es.toList.map (·.2) = L.map fun m => Value.ref m.1 := by
    rw [K.list, List.map_map] <;> rfl
  obtain ⟨L1, p2, e2⟩ := perm_back (f := fun m : Addr × List Str => Value.ref m.1) p1 eL
  have n1 : vs.length ≤ 63 := by rw [e2, List.length_map, p2.length_eq]; exact K.few
  have small : vs.length ≤ sizeLine := by rw [sizeLine_eq]; omega
  refine wpAny_bind (wpAny_newList ?_ small)
  have at1 : (s1.heap.push (PyProof.Rows.seqObj "list" vs.toArray 0)).get? s1.heap.objs.size = some (PyProof.Rows.seqObj "list" vs.toArray 0) := Heap.get?_push_size _ rfl
  have keep : ∀ b o, s.heap.get? b = some o → b ≠ s1.heap.objs.size ∧ (s1.heap.push (PyProof.Rows.seqObj "list" vs.toArray 0)).get? b = some o := fun b o e =>
    ⟨Nat.ne_of_lt (Heap.lt_size (k1 b o e)), Heap.get?_push_of_some _ (k1 b o e)⟩
  have ref_ : ∀ u ∈ vs, ∃ m ∈ L, u = Value.ref m.1 := fun u hu => by
    rw [e2] at hu
    obtain ⟨m, hm, e⟩ := List.mem_map.mp hu
    exact ⟨m, p2.mem_iff.mp hm, e.symm⟩
  refine wpAny_bind (wpAny_holding (wpAny_call_entry PyProof.Rows.slot_list_sort ⟨_, at1, rfl⟩ PyProof.Rows.entry_list_sort (SrtO.list_sort_ord (ltv := fun u v => ltD (keyAt L u) (keyAt L v)) ⟨fun x y => swo_D.asym _ _, fun x y z => swo_D.tr _ _ _⟩ at1 small (fun h2 => ?_) fun out so st => ⟨_, rfl, ?_⟩) (PyProof.Rows.args_list_sort _)))
  · refine sortable_D (s := { s1 with heap := s.heap }) h2 gu (fun u hu => ?_) (fun u hu v hv => ?_) keep
    · obtain ⟨m, hm, rfl⟩ := ref_ u hu
      rw [keyAt_mem inj hm]
      exact ⟨rfl, fr m hm⟩
    · obtain ⟨m, hm, rfl⟩ := ref_ u hu
      obtain ⟨m', hm', rfl⟩ := ref_ v hv
      rw [keyAt_mem inj hm, keyAt_mem inj hm']
      show PySem.W.alikeAll (D.pys (m.2.map D.str)) (D.pys (m'.2.map D.str)) = true
      exact alike_txts _ _
  · obtain ⟨M, p3, e3⟩ := perm_back (f := fun m : Addr × List Str => Value.ref m.1) st.perm e2
    obtain ⟨c, hc⟩ := PyProof.Rows.sortedHeap_at (vs := vs) (out := out.toArray) at1
    have pL := p3.trans p2
    refine wpAny_pure ⟨_, rfl, q _ s1.heap.objs.size _ c M (fun b o e => ?_) ⟨g1, o1⟩ hz hc (by simpa using e3) pL ?_⟩
    · have z1 := k1 b o e
      exact (PyProof.Rows.sortedHeap_old (Nat.ne_of_lt (Heap.lt_size z1)) (Nat.lt_of_lt_of_le (Heap.lt_size z1) (by rw [PyProof.Rows.size_push']; exact Nat.le_succ _))).trans (Heap.get?_push_of_some _ z1)
    · rw [List.pairwise_map]
      have so : out.Pairwise fun u v => ltD (keyAt L v) (keyAt L u) = false := so
      rw [e3, List.pairwise_map] at so
      refine List.Pairwise.imp_of_mem (fun {m m'} hm hm' h => ?_) so
      rw [keyAt_mem inj (pL.mem_iff.mp hm), keyAt_mem inj (pL.mem_iff.mp hm')] at h
      show (!ltD (tuD m'.2) (tuD m.2)) = true
      rw [h] <;> rfl
end
end Pu
end
section
set_option maxRecDepth 100000
set_option maxHeartbeats 1000000
namespace Pu
open PySem PySem.Spec L2
theorem ck_txts (n : Nat) (k : List Str) : ck (n + 1) (tuD k).py = true := by
  show (D.pys (k.map D.str)).all (ck n) = true
  induction k with
  | nil => rfl
  | cons x k ih =>
    show (ck n (.str x) && (D.pys (k.map D.str)).all (ck n)) = true
    rw [ih]
    cases n <;> rfl
theorem strsD_eq : ∀ {ds : List D} {bs : List Str}, strsD ds = some bs → ds = bs.map D.str
  | [], _, e => by cases e; rfl
  | d :: ds, _, e => by
    cases d with
    | str x =>
      have e : (strsD ds).map (x :: ·) = some _ := e
      cases h : strsD ds with
      | none => rw [h] at e; cases e
      | some ys =>
        rw [h] at e
        cases e
        rw [strsD_eq h] <;> rfl
    | _ => cases e
theorem rep_mems {fa : Nat → Option Addr} {K : PySem.W.Frag} {S : Addr → Prop} {H : Hp} : ∀ {ds : List D} {vs : List V} {ys : List (List Str)}, RepL fa K (hid S H) vs ds → tstrsD ds = some ys →
    ∃ ms : Pt.Mem, vs = ms.map (fun m => V.ref m.1) ∧ ms.map Prod.snd = ys ∧ ∀ m ∈ ms, SqT K H m.1 (m.2.map V.str) ∧ Rep fa K (hid S H) (.ref m.1) (tuD m.2)
  | [], _, _, r, e => by
    cases r
    cases e
    exact ⟨[], rfl, rfl, fun _ z => nomatch z⟩
  | d :: ds, _, ys, r, e => by
    cases r with | @cons v _ _ _ h t => ?_
    cases d with
    | tup xs =>
      have e : (strsD xs).bind (fun ys => (tstrsD ds).map (ys :: ·)) = some ys := e
      cases e1 : strsD xs with
      | none => rw [e1] at e; cases e
      | some k =>
        rw [e1] at e
        have e : (tstrsD ds).map (k :: ·) = some ys := e
        cases e2 : tstrsD ds with
        | none => rw [e2] at e; cases e
        | some ks =>
          rw [e2] at e
          cases e
          obtain ⟨ms, q1, q2, q3⟩ := rep_mems t e2
          have ex := strsD_eq e1
          subst ex
          have hr := h
          cases h with | @tup a vs0 _ h1 n1 r1 => ?_
          have ev := strs_rep r1 e1
          subst ev
          refine ⟨(a, k) :: ms, by rw [q1] <;> rfl, by rw [List.map_cons, q2], fun m hm => ?_⟩
          rcases List.mem_cons.mp hm with z | z
          · subst z
            exact ⟨SqT.of (hid_same _ _ h1), hr⟩
          · exact q3 m z
    | _ => cases e
theorem items_txt {P : Program} {w : World} : ∀ {k : List Str} {us : List Value}, Vals (k.map V.str) us → ItemsAre (PySem.strKind P w) k us
  | [], _, .nil => .nil
  | x :: k, _, .cons ⟨tk, e⟩ t => by
    subst e
    exact .cons (PySem.strKind_is P w x tk) (items_txt t)
theorem refs_txt : ∀ {ms : Pt.Mem} {us : List Value}, Vals (ms.map fun m => V.ref m.1) us → us = ms.map fun m => Value.ref m.1
  | [], _, .nil => rfl
  | m :: ms, _, .cons e t => by
    have e : _ = Value.ref m.1 := e
    rw [e, refs_txt t] <;> rfl
theorem vals_mems : ∀ ms : Pt.Mem, Vals (ms.map fun m => V.ref m.1) (ms.map fun m => Value.ref m.1)
  | [] => .nil
  | m :: ms => .cons (show RelV (.ref m.1) (.ref m.1) from rfl) (vals_mems ms)
theorem rep_of_mems {fa : Nat → Option Addr} {K : PySem.W.Frag} {H : Hp} : ∀ ms : Pt.Mem, (∀ m ∈ ms, Rep fa K H (.ref m.1) (tuD m.2)) → RepL fa K H (ms.map fun m => V.ref m.1) ((ms.map Prod.snd).map tuD)
  | [], _ => .nil
  | m :: ms, h => .cons (h m List.mem_cons_self) (rep_of_mems ms fun u hu => h u (.tail _ hu))
section
variable {c : Cfg} {G : Gc} {P : Pr} {X : Cx} {n : Nat} {W : WX}
theorem tw_of {pins : List (Addr × Obj)} {σ : St} {H : Hp} {s : Shared} {b : Addr} {k : List Str} (I : Inv X pins σ H s) (h : SqT X.K H b (k.map V.str)) : Pt.TW X.prog X.w s.heap k b := by
  obtain ⟨its, r, ⟨o, e1, e2, m, e3⟩, _⟩ := I.tuple h
  exact ⟨o, its.toArray, m, e1, e2, e3, by simpa using items_txt r⟩
theorem ssett_ne (d : D) (c p) : b1D .ssett d ≠ .exc c p := by
  cases d <;> first | exact bad_ne | (refine ofO_bind_ne _ _ (fun a c p => ?_) c p; split <;> first | exact ok_ne | exact bad_ne)
theorem L_ssett (ok : Cok c G P X n) {a : E} {xa : Expr} {p p2 q2 pos : Pos} {env : Env} {fa : Bool} (hm : ("sorted" : Str) ∈ c.bis) (hg : glB X.env.scope "sorted" = true) (hm2 : ("set" : Str) ∈ c.bis) (hg2 : glB X.env.scope "set" = true)
    (ha : PE X xa (tE G X.K W env (evE P env a) fa)) (hx : plainX xa = true) : PE X (.Call (.Name "sorted" p) [.Call (.Name "set" p2) [xa] [] q2] [] pos) (tE G X.K W env (evE P env (.b1 .ssett a)) false) := by
  refine ⟨fun pins s σ H Q I ⟨S0, HF, own, er, q⟩ => ?_⟩
  have hu : X.A.units + 200 < cLine := by have := ok.room.un; omega
  rw [evE] at q
  have h : tE G X.K W env (evE P env a) fa σ H fun x H1 => ∃ l, ∃ ms : Pt.Mem, x = .ref l ∧ SqL X.K H1 l (ms.map fun m => V.ref m.1) ∧ (∀ m ∈ ms, SqT X.K H1 m.1 (m.2.map V.str) ∧ Rep G.fa X.K H1 (.ref m.1) (tuD m.2)) ∧ (dedT (ms.map Prod.snd)).length ≤ 63 ∧
      ∀ (p : Addr) (M : Pt.Mem), H1 p = none → (∀ m ∈ M, m ∈ ms) → M.length ≤ 63 → (M.map Prod.snd).map tuD = ((dedT (ms.map Prod.snd)).map tuD).mergeSort dLe → Q (.ref p) (upd H1 p (.lst (M.map fun m => V.ref m.1))) :=
    ⟨S0, HF, own, er, RT.step er q fun x d H1 e1 s1 r1 _ er1 q1 => by
      obtain ⟨dd, e2, q2⟩ := q1.fin (ssett_ne d)
      cases d with
      | lst xs =>
        have e2 : ((R.ofO (tstrsD xs)).bind fun ys => if (dedT ys).length ≤ 63 then R.ok (D.lst (((dedT ys).map fun k => D.tup (k.map .str)).mergeSort dLe)) else .bad) = .ok dd := e2
        cases e3 : tstrsD xs with
        | none => rw [e3] at e2; cases e2
        | some ys =>
          rw [e3, R.ofO_some, R.bind_ok] at e2
          split at e2
          · rename_i hz
            cases e2
            cases r1 with | @lst l vs _ h1 n1 r1 => ?_
            obtain ⟨ms, m1, m2, m3⟩ := rep_mems r1 e3
            subst m1 m2
            refine ⟨l, ms, rfl, SqL.of (hid_same _ _ h1), fun m hm => ⟨(m3 m hm).1, un_hid (m3 m hm).2⟩, hz, fun p M hp sub few so => q2 _ _ (Same.upd hp) ?_⟩
            have so : (M.map Prod.snd).map tuD = ((dedT (ms.map Prod.snd)).map fun k => D.tup (k.map .str)).mergeSort dLe := so
            rw [← so]
            exact new_lst er1.nt hp (rep_of_mems M fun m hm => (m3 m (sub m hm)).2) (by rw [List.length_map]; exact Nat.le_trans few (sz_words (show 63 ≤ 1000 by decide)))
          · cases e2
      | _ => cases e2⟩
  refine PyProof.Rows.Call_ (ld_blt I (gl_of hg).1 (ok.bi _ hm) PyProof.Rows.boot_sorted ?_)
  apply PyProof.Rows.callWith_builtin1 (PyProof.Rows.args_cons ?_ rfl) rfl rfl
  refine PyProof.Rows.Call_ (ld_blt I (gl_of hg2).1 (ok.bi _ hm2) PyProof.Rows.boot_set ?_)
  refine PyProof.Rows.callWith_type1 (PyProof.Rows.args_cons (thn (ha.run pins s σ H _ I h) fun v s1 ⟨x, H1, I1, r1, q1⟩ => PyProof.Rows.args_nil ?_) (star_of hx)) (star_of hx) rfl
  obtain ⟨l, ms, rfl, hq, hms, h63, q1⟩ := q1
  cases r1
  obtain ⟨its, rv, pl, _⟩ := I1.list hq
  refine Pt.call_setT (xs := ms) (ds := dedT (ms.map Prod.snd)) (I1.ok.hd ok.calm) pl.isList (by simpa using refs_txt rv) h63 (by omega) (fun m hm => ⟨mem_dedT.mpr (List.mem_map.mpr ⟨m, hm, rfl⟩), tw_of I1 (hms m hm).1⟩) fun h' tk L k B e1 e2 => PyProof.Rows.args_nil ?_
  have I2 : Inv X pins σ H1 { s1 with heap := h', toks := tk } := I1.kept k
  obtain ⟨_, _, _, cup⟩ := id B
  refine sorted_kup B (I2.ok.hd ok.calm) hu (fun m hm => ⟨ck_txts 7 m.2, dp_reads (x := V.ref m.1) I2 (hms m (e2 m hm)).2 rfl (ck_plain _ _ (ck_txts 7 m.2)).1⟩) fun s' p out c M k2 ⟨g, o⟩ hp hgt ho pM so => ?_
  have few : M.length ≤ 63 := by rw [pM.length_eq]; exact cup.few
  have hlen : (M.map fun m => V.ref m.1).length ≤ sizeLine := by rw [List.length_map]; exact Nat.le_trans few (sz_words (by decide))
  have hn : H1 p = none := I2.hok.fresh hp
  have J : Inv X pins σ (upd H1 p (.lst (M.map fun m => V.ref m.1))) { ({ s1 with heap := h', toks := tk } : Shared) with heap := s'.heap, gens := s'.gens, drawn := s'.drawn, toks := s'.toks } :=
    I2.call (ch := []) (Un.laid k2 hp hn) (I2.hok.laid k2 hp ⟨hlen, out.toList, c, by rw [ho]; exact vals_mems M, hgt⟩) (by rw [g]; exact I2.bare) (fun _ z => nomatch z)
  have e : s' = { ({ s1 with heap := h', toks := tk } : Shared) with heap := s'.heap, gens := s'.gens, drawn := s'.drawn, toks := s'.toks } := by
    cases s'
    cases s1
    cases o
    rfl
  rw [e]
  refine ⟨.ref p, _, J, rfl, q1 p M hn (fun m hm => e2 m (pM.mem_iff.mp hm)) few ?_⟩
  exact ssett_uniq ((pM.map Prod.snd).nodup_iff.mpr cup.once) (fun k => ((pM.map Prod.snd).mem_iff).trans (e1 k)) so
end
end Pu
end
section
set_option maxRecDepth 100000
set_option maxHeartbeats 1000000
namespace Pu
open PySem PySem.Spec L2
theorem ty_ne (b : B1) : True := trivial
section
variable {c : Cfg} {G : Gc} {P : Pr} {X : Cx} {n : Nat} {W : WX}
theorem ofO_b (o : Option α) (f : α → R β) (h : ∀ a c p, f a ≠ .exc c p) (c p) : (R.ofO o).bind f ≠ .exc c p := ofO_bind_ne o f h c p
theorem lenD_ne (d : D) (c p) : lenD d ≠ .exc c p := by
  cases d <;> first | exact ok_ne | exact bad_ne | (simp only [lenD]; split <;> first | exact ok_ne | exact bad_ne)
theorem items_ne (d : D) (c p) : items d ≠ .exc c p := by
  cases d <;> first | exact ok_ne | exact bad_ne | (simp only [items]; split <;> first | exact ok_ne | exact bad_ne)
theorem maxI_ne (d) (c p) : maxI d ≠ .exc c p := by cases d <;> first | exact ok_ne | exact bad_ne
theorem minI_ne (d) (c p) : minI d ≠ .exc c p := by cases d <;> first | exact ok_ne | exact bad_ne
end
def b1x : B1 → Str
  | .len => "len" | .all => "all" | .any => "any" | .sorted => "sorted" | .list => "list" | .tuple => "tuple" | .sum => "sum" | .max => "max" | .min => "min" | .int => "int" | .str => "str" | .dK => "dict" | .dT => "dict" | .mint => "min" | .tups => "tuple" | .intd => "int" | .sorts => "sorted" | _ => ""
def b1ok : B1 → Bool
  | .sorts => true | .len => true | .all => true | .any => true | .sorted => true | .list => true | .tuple => true | .sum => true | .max => true | .min => true | .int => true | .dK => true | .dT => true | .mint => true | .tups => true | .str => true | .intd => true | _ => false
section
variable {c : Cfg} {G : Gc} {P : Pr} {X : Cx} {n : Nat} {W : WX}
theorem sortD_ne (xs) (c p) : sortD xs ≠ .exc c p := by
  unfold sortD
  split <;> first | exact ok_ne | exact bad_ne
theorem sorted_ne (d : D) (c p) : b1D .sorted d ≠ .exc c p := by
  cases d <;> first | exact bad_ne | exact bind_ne (sortD_ne _) (fun _ _ _ => ok_ne) c p
theorem mint_ne (d : D) (c p) : b1D .mint d ≠ .exc c p := by
  cases d <;> first | exact bad_ne | skip
  rename_i xs
  show (if tupsOk xs then minBy _ xs else .bad) ≠ _
  split
  · cases xs <;> first | exact ok_ne | exact bad_ne
  · exact bad_ne
theorem b1D_ne {o : B1} (h : b1ok o = true) (d : D) (c p) : b1D o d ≠ .exc c p := by
  cases o <;> first | (cases h; done) | skip
  · exact bind_ne (lenD_ne d) (fun _ _ _ => ok_ne) c p
  · cases d <;> first | exact bad_ne | exact ofO_bind_ne _ _ (fun _ _ _ => ok_ne) c p
  · cases d <;> first | exact bad_ne | exact ofO_bind_ne _ _ (fun _ _ _ => ok_ne) c p
  · exact sorted_ne d c p
  · cases d <;> first | exact bad_ne | exact ok_ne | exact bind_ne (items_ne _) (fun _ _ _ => ok_ne) c p
  · cases d <;> first | exact bad_ne | exact ok_ne
  · cases d <;> first | exact bad_ne | exact ofO_bind_ne _ _ (fun _ _ _ => ok_ne) c p
  · cases d <;> first | exact bad_ne | exact ofO_bind_ne _ _ (fun _ c p => bind_ne (maxI_ne _) (fun _ _ _ => ok_ne) c p) c p
  · cases d <;> first | exact bad_ne | exact ofO_bind_ne _ _ (fun _ c p => bind_ne (minI_ne _) (fun _ _ _ => ok_ne) c p) c p
  · cases d <;> first | exact bad_ne | exact ok_ne
  · cases d <;> first | exact bad_ne | (simp only [b1D]; split <;> first | exact ok_ne | exact bad_ne)
  · cases d <;> first | exact bad_ne | exact bind_ne (pairsD_ne _ _) (fun _ _ _ => ok_ne) c p
  · cases d <;> first | exact bad_ne | exact bind_ne (pairsD_ne _ _) (fun _ _ _ => ok_ne) c p
  · exact mint_ne d c p
  · cases d <;> first | exact bad_ne | (simp only [b1D]; split <;> first | exact ok_ne | exact bad_ne)
  · cases d <;> first | exact bad_ne | (simp only [b1D]; split <;> first | exact bad_ne | (split <;> first | exact ok_ne | exact bad_ne))
  · exact sorts_ne d c p
theorem rF_imp {fr : Bool} {v : Value} {f g : D → R D} (h : CallR X v (rF G X.K fr f)) (e : ∀ a, g a = f a) : CallR X v (rF G X.K fr g) := by
  have : g = f := funext e
  rw [this]; exact h
theorem L_b1 (ok : Cok c G P X n) {o : B1} (h : b1ok o = true) {a : E} {xa : Expr} {p pos : Pos} {env : Env} {fa : Bool} (hm : b1x o ∈ c.bis) (hg : glB X.env.scope (b1x o) = true)
    (ha : PE X xa (tE G X.K W env (evE P env a) fa)) (hx : plainX xa = true) : PE X (.Call (.Name (b1x o) p) [xa] [] pos) (tE G X.K W env (evE P env (.b1 o a)) (frB o)) := by
  have hm := ok.bi _ hm
  have ne := b1D_ne h
  cases o <;> first | (cases h; done) | skip
  · exact L_b1f b1_len (by rfl) hm hg ha hx ne
  · exact L_b1f (b1_all ok.calm) (by rfl) hm hg ha hx ne
  · exact L_b1f (b1_any ok.calm) (by rfl) hm hg ha hx ne
  · exact L_b1f (b1_sorted ok.room) (by rfl) hm hg ha hx ne
  · exact L_b1t (b1_list ok.calm) (by rfl) hm hg ha hx ne
  · exact L_b1t (rF_imp b1_tuple fun a => by cases a <;> rfl) (by rfl) hm hg ha hx ne
  · exact L_b1f (b1_sum ok.calm) (by rfl) hm hg ha hx ne
  · exact L_b1f (b1_max ok.calm) (by rfl) hm hg ha hx ne
  · exact L_b1f (b1_min ok.calm) (by rfl) hm hg ha hx ne
  · exact L_b1t (rF_imp b1_int fun a => by cases a <;> rfl) (by rfl) hm hg ha hx ne
  · exact L_b1t b1_strI (by rfl) hm hg ha hx ne
  · exact L_b1t (b1_dK ok.calm) (by rfl) hm hg ha hx ne
  · exact L_b1t (b1_dT ok.calm (by have := ok.room.un; omega)) (by rfl) hm hg ha hx ne
  · exact L_b1f (b1_mint ok.calm ok.room) (by rfl) hm hg ha hx ne
  · exact L_b1t (b1_tups ok.calm) (by rfl) hm hg ha hx ne
  · exact L_b1t b1_intS (by rfl) hm hg ha hx ne
  · exact L_b1f b1_sorts (by rfl) hm hg ha hx ne
end
def b2x : B2 → Str
  | .max => "max" | .min => "min"
def ownN (N : List Str) (is : List Nat) : List (Str × Nat) := is.filterMap fun i => (N[i]?).map fun x => (x, i)
def fnBof (scope : Scope) : Str → Bool := fun x => scope.names.lookup x == some .cell
mutual
def mE (c : Cfg) (N : List Str) : E → Scope → Expr → Bool
  | .var i, sc, x => match x with
    | .Name y _ => decide (N[i]? = some y) && visB sc y
    | _ => false
  | .non, _, x => match x with
    | .Constant .none _ _ => true
    | _ => false
  | .bl b, _, x => match x with
    | .Constant (.bool b') _ _ => decide (b' = b)
    | _ => false
  | .int i, _, x => match x with
    | .Constant (.int j) _ _ => decide (j = i)
    | _ => false
  | .str s, _, x => match x with
    | .Constant (.str t) _ _ => decide (t = s)
    | _ => false
  | .gl j, sc, x => match x with
    | .Name y _ => decide ((j, y) ∈ c.gls) && glB sc y
    | _ => false
  | .fn f, sc, x => match x with
    | .Name y _ => decide ((f, y) ∈ c.fns) && glB sc y
    | _ => false
  | .tup es, sc, x => match x with
    | .Tuple xs _ _ => mL c N es sc xs && decide (xs.length ≤ 1000)
    | _ => false
  | .lst es, sc, x => match x with
    | .List xs _ => mL c N es sc xs && decide (xs.length ≤ 1000)
    | _ => false
  | .dct0 _, _, x => match x with
    | .Dict [] [] _ => true
    | _ => false
  | .dct1 t k v, sc, x => match x with
    | .Dict [some xk] [xv] _ => decide (t = true) && mE c N k sc xk && mE c N v sc xv
    | _ => false
  | .and es, sc, x => match x with
    | .BoolOp .And xs _ => mL c N es sc xs
    | _ => false
  | .or es, sc, x => match x with
    | .BoolOp .Or xs _ => mL c N es sc xs
    | _ => false
  | .not a, sc, x => match x with
    | .UnaryOp .Not y _ => mE c N a sc y
    | _ => false
  | .cmp o a b, sc, x => match x with
    | .Compare xa [op] [xb] _ => decide (op = cop o) && plainX xb && mE c N a sc xa && mE c N b sc xb
    | _ => false
  | .chain o o2 a b e, sc, x => match x with
    | .Compare xa [op, op2] [xb, xe] _ => decide (op = cop o) && decide (op2 = cop o2) && decide (lastMarks [op, op2] [xb, xe] = false) && mE c N a sc xa && mE c N b sc xb && mE c N e sc xe
    | _ => false
  | .bin o a b, sc, x => match x with
    | .BinOp xa op xb _ => decide (op = bop o) && mE c N a sc xa && mE c N b sc xb
    | _ => false
  | .neg a, sc, x => match x with
    | .UnaryOp .USub y _ => mE c N a sc y
    | _ => false
  | .ix a b, sc, x => match x with
    | .Subscript xa xb _ => plainX xb && mE c N a sc xa && mE c N b sc xb
    | _ => false
  | .sl a lo hi, sc, x => match x with
    | .Subscript xa (.Slice xl xh none _) _ => mE c N a sc xa && mO c N lo sc xl && mO c N hi sc xh
    | _ => false
  | .rev a, sc, x => match x with
    | .Subscript xa (.Slice none none (some (.UnaryOp .USub (.Constant (.int i) _ _) _)) _) _ => decide (i = 1) && mE c N a sc xa
    | _ => false
  | .call f es, sc, x => match x with
    | .Call (.Name y _) (x1 :: xs) [] _ => decide ((f, y) ∈ c.fns) && glB sc y && (x1 :: xs).all plainX && mL c N es sc (x1 :: xs)
    | _ => false
  | .callv f es, sc, x => match f with
    | .var i => (match x with
      | .Call (.Name y _) (x1 :: xs) [] _ => decide (N[i]? = some y) && visB sc y && (x1 :: xs).all plainX && mL c N es sc (x1 :: xs)
      | _ => false)
    | .ix a b => (match x with
      | .Call (.Subscript xa xb _) (x1 :: xs) [] _ => plainX xb && mE c N a sc xa && mE c N b sc xb && (x1 :: xs).all plainX && mL c N es sc (x1 :: xs)
      | _ => false)
    | _ => false
  | .b1 o a, sc, x => match o with
    | .sset => (match x with
      | .Call (.Name y _) [.Call (.Name z _) [xa] [] _] [] _ => decide (y = "sorted") && decide (z = "set") && decide (("sorted" : Str) ∈ c.bis) && glB sc "sorted" && decide (("set" : Str) ∈ c.bis) && glB sc "set" && plainX xa && mE c N a sc xa
      | _ => false)
    | .ssett => (match x with
      | .Call (.Name y _) [.Call (.Name z _) [xa] [] _] [] _ => decide (y = "sorted") && decide (z = "set") && decide (("sorted" : Str) ∈ c.bis) && glB sc "sorted" && decide (("set" : Str) ∈ c.bis) && glB sc "set" && plainX xa && mE c N a sc xa
      | _ => false)
    | .minlen => (match x with
      | .Call (.Name y _) [xa] [⟨some kw, .Name z _, _⟩] _ => decide (y = "min") && decide (kw = "key") && decide (z = "len") && decide (("min" : Str) ∈ c.bis) && glB sc "min" && decide (("len" : Str) ∈ c.bis) && glB sc "len" && plainX xa && mE c N a sc xa
      | _ => false)
    | .lset => (match x with
      | .Call (.Name y _) [.Call (.Name z _) [xa] [] _] [] _ => decide (y = "len") && decide (z = "set") && decide (("len" : Str) ∈ c.bis) && glB sc "len" && decide (("set" : Str) ∈ c.bis) && glB sc "set" && plainX xa && mE c N a sc xa
      | _ => false)
    | o => match x with
      | .Call (.Name y _) [xa] [] _ => b1ok o && decide (y = b1x o) && decide (b1x o ∈ c.bis) && glB sc (b1x o) && plainX xa && mE c N a sc xa
      | _ => false
  | .b2 o a b, sc, x => match x with
    | .Call (.Name y _) [xa, xb] [] _ => decide (y = b2x o) && decide (b2x o ∈ c.bis) && glB sc (b2x o) && plainX xa && plainX xb && mE c N a sc xa && mE c N b sc xb
    | _ => false
  | .isi t a, sc, x => match x with
    | .Call (.Name y _) [xa, .Name z _] [] _ => decide (y = "isinstance") && decide (("isinstance" : Str) ∈ c.bis) && glB sc "isinstance" && decide (z = Str.ofString (tyN t)) && decide (Str.ofString (tyN t) ∈ c.bis) && glB sc (Str.ofString (tyN t)) && plainX xa && mE c N a sc xa
    | _ => false
  | .m1 o a b, sc, x => match o with
    | .count => (match x with
      | .Call (.Attribute xa y ap) [xb] [] cp => decide (y = "count") && baseX2 xa && plainX xb && decide ((ap.endLine == cp.line) = true) && mE c N a sc xa && mE c N b sc xb
      | _ => false)
    | .join => (match x with
      | .Call (.Attribute xa y ap) [xb] [] cp => decide (y = "join") && baseX2 xa && plainX xb && decide ((ap.endLine == cp.line) = true) && mE c N a sc xa && mE c N b sc xb
      | _ => false)
    | .split => (match x with
      | .Call (.Attribute xa y ap) [xb] [] cp => decide (y = "split") && baseX2 xa && plainX xb && decide ((ap.endLine == cp.line) = true) && mE c N a sc xa && mE c N b sc xb
      | _ => false)
    | .part => (match x with
      | .Call (.Attribute xa y ap) [xb] [] cp => decide (y = "partition") && baseX2 xa && plainX xb && decide ((ap.endLine == cp.line) = true) && mE c N a sc xa && mE c N b sc xb
      | _ => false)
    | _ => false
  | .dget d k e, sc, x => match x with
    | .Call (.Attribute xd y ap) [xk, xx] [] cp => decide (y = "get") && decide ((ap.endLine == cp.line) = true) && baseX xd && plainX xk && plainX xx && mE c N d sc xd && mE c N k sc xk && mE c N e sc xx
    | _ => false
  | .comp elt tg it cnd, sc, x => match x with
    | .ListComp xe [⟨xt, xi, ifs, k⟩] scope _ => decide (k = 0) && blkC N sc scope (ownN N tg.ids) && decide ((ownN N tg.ids).map (·.2) = tg.ids) && tgX N (relS scope sc) (fnBof scope) tg xt && plainX xi && mI c N it sc xt xi && mC c N cnd (relS scope sc) ifs && mE c N elt (relS scope sc) xe
    | _ => false
  | .bor e, sc, x => mE c N e sc x
def mL (c : Cfg) (N : List Str) : EL → Scope → List Expr → Bool
  | .nil, _, xs => xs.isEmpty
  | .cons e es, sc, xs => match xs with
    | x :: xs => plainX x && mE c N e sc x && mL c N es sc xs
    | [] => false
def mO (c : Cfg) (N : List Str) : OE → Scope → Option Expr → Bool
  | .none, _, x => x.isNone
  | .some e, sc, x => match x with
    | some x => mE c N e sc x
    | none => false
def mC (c : Cfg) (N : List Str) : OE → Scope → List Expr → Bool
  | .none, _, xs => xs.isEmpty
  | .some e, sc, xs => match xs with
    | [x] => mE c N e sc x
    | _ => false
def mI (c : Cfg) (N : List Str) : Pu.It → Scope → Expr → Expr → Bool
  | .seq e, sc, _, x => mE c N e sc x
  | .gseq j, sc, _, x => match x with
    | .Name y _ => decide ((j, y) ∈ c.tgs) && glB sc y
    | _ => false
  | .gzip j b, sc, t, x => match t with
    | .Tuple _ _ _ => match x with
      | .Call (.Name z _) [.Name y _, xb] [] _ => decide (z = "zip") && decide (("zip" : Str) ∈ c.bis) && glB sc "zip" && decide ((j, y) ∈ c.tgs) && glB sc y && plainX xb && mE c N b sc xb
      | _ => false
    | _ => false
  | .keys i, sc, _, x => match x with
    | .Name y _ => decide (N[i]? = some y) && visB sc y
    | _ => false
  | .rng1 a, sc, _, x => match x with
    | .Call (.Name y _) [xa] [] _ => decide (y = "range") && decide (("range" : Str) ∈ c.bis) && glB sc "range" && plainX xa && mE c N a sc xa
    | _ => false
  | .rng2 a b, sc, _, x => match x with
    | .Call (.Name y _) [xa, xb] [] _ => decide (y = "range") && decide (("range" : Str) ∈ c.bis) && glB sc "range" && plainX xa && plainX xb && mE c N a sc xa && mE c N b sc xb
    | _ => false
  | .rngd a b, sc, _, x => match x with
    | .Call (.Name y _) [xa, xb, .UnaryOp .USub (.Constant (.int j) _ _) _] [] _ => decide (j = 1) && decide (y = "range") && decide (("range" : Str) ∈ c.bis) && glB sc "range" && plainX xa && plainX xb && mE c N a sc xa && mE c N b sc xb
    | _ => false
  | .enm a, sc, t, x => match t with
    | .Tuple _ _ _ => match x with
      | .Call (.Name y _) [xa] [] _ => decide (y = "enumerate") && decide (("enumerate" : Str) ∈ c.bis) && glB sc "enumerate" && plainX xa && mE c N a sc xa
      | _ => false
    | _ => false
  | .zip a b, sc, t, x => match t with
    | .Tuple _ _ _ => match x with
      | .Call (.Name y _) [xa, xb] [] _ => decide (y = "zip") && decide (("zip" : Str) ∈ c.bis) && glB sc "zip" && plainX xa && plainX xb && mE c N a sc xa && mE c N b sc xb
      | _ => false
    | _ => false
end
end Pu
end
section
set_option maxRecDepth 100000
set_option maxHeartbeats 4000000
namespace Pu
open PySem PySem.Spec L2
section
variable {c : Cfg} {G : Gc} {P : Pr} {n : Nat}
def GE (c : Cfg) (G : Gc) (P : Pr) (n : Nat) (e : E) : Prop := ∀ (X : Cx) (W : WX) (x : Expr), Cok c G P X n → (∀ σ, PassesAt (L2N.CX X.prog X.w) X σ (WE W σ)) → mE c X.N e X.env.scope x = true →
  (∀ env, PE X x (tE G X.K W env (evE P env e) (frE e))) ∧ (∀ env, PT X x (tT G X.K W env ((evE P env e).bind asB)))
def GL (c : Cfg) (G : Gc) (P : Pr) (n : Nat) (es : EL) : Prop := ∀ (X : Cx) (W : WX) (xs : List Expr), Cok c G P X n → (∀ σ, PassesAt (L2N.CX X.prog X.w) X σ (WE W σ)) → mL c X.N es X.env.scope xs = true →
  (∀ env, PA X xs (tL G X.K W env (evL P env es))) ∧ (∀ env ds, evL P env es = .ok ds → ds.length = xs.length) ∧
  (∀ env pos, (xs ≠ [] → PE X (.BoolOp .And xs pos) (tE G X.K W env (evAnd P env es) false)) ∧ (xs ≠ [] → PW X (.BoolOp .And xs pos) (tT G X.K W env ((evAnd P env es).bind asB)))) ∧
  (∀ env pos, (xs ≠ [] → PE X (.BoolOp .Or xs pos) (tE G X.K W env (evOr P env es) false)) ∧ (xs ≠ [] → PW X (.BoolOp .Or xs pos) (tT G X.K W env ((evOr P env es).bind asB))))
def GO (c : Cfg) (G : Gc) (P : Pr) (n : Nat) (o : OE) : Prop := (∀ (X : Cx) (W : WX) (x : Option Expr), Cok c G P X n → (∀ σ, PassesAt (L2N.CX X.prog X.w) X σ (WE W σ)) → mO c X.N o X.env.scope x = true →
  ∀ env, PO X x (fun σ H Q => ∃ S0 HF own, ER G X.K S0 HF own σ H env ∧ RT G W σ H ((evO P env o).bind optI) (fun o _ d => o = d) Q)) ∧
  (∀ (X : Cx) (W : WX) (xs : List Expr), Cok c G P X n → (∀ σ, PassesAt (L2N.CX X.prog X.w) X σ (WE W σ)) → mC c X.N o X.env.scope xs = true → ∀ env, PTs X xs (tT G X.K W env (evC P env o)))
def GI (c : Cfg) (G : Gc) (P : Pr) (n : Nat) (it : Pu.It) : Prop := ∀ (X : Cx) (W : WX) (t x : Expr), Cok c G P X n → (∀ σ, PassesAt (L2N.CX X.prog X.w) X σ (WE W σ)) → mI c X.N it X.env.scope t x = true → (∀ i, it ≠ .keys i) → ∀ env, PI X t x (tI G X.K W env (evI P env it))
theorem PTs.yes {X : Cx} {env : Env} {W : WX} : PTs X [] (tT G X.K W env (.ok true)) := PTs.imp pts_nil fun σ H Q ⟨S0, HF, own, er, q⟩ => RT.ok (d := true) q rfl
theorem both {X : Cx} {W : WX} {x : Expr} {fr : Bool} {r : Env → R D} (h : ∀ env, PE X x (tE G X.K W env (r env) fr)) (hv : valX x = true) : (∀ env, PE X x (tE G X.K W env (r env) fr)) ∧ (∀ env, PT X x (tT G X.K W env ((r env).bind asB))) := ⟨h, fun env => L_val (h env) hv⟩
theorem notB {X : Cx} {W : WX} {x : Expr} {fr : Bool} {env : Env} {r : R D} (h : ∀ σ H Q, ¬ tT G X.K W env (r.bind asB) σ H Q) : PT X x (tT G X.K W env (r.bind asB)) := ⟨fun pins s σ H Q I q => (h σ H Q q).elim⟩
mutual
theorem sE : ∀ e : E, GE c G P n e
  | .var i => fun X W x ok hp h => by
    unfold mE at h
    split at h
    · simp only [decide_eq_true_eq, Bool.and_eq_true] at h
      exact both (r := fun env => evE P env (.var i)) (fun env => by rw [evE]; exact L_var h.1 h.2 env) rfl
    · cases h
  | .non => fun X W x ok hp h => by
    unfold mE at h
    split at h
    · exact both (r := fun env => evE P env .non) (fun env => by rw [evE]; exact L_const pe_non (fun H => .non) env) rfl
    · cases h
  | .bl b => fun X W x ok hp h => by
    unfold mE at h
    split at h
    · simp only [decide_eq_true_eq] at h
      subst h
      exact both (r := fun env => evE P env (.bl _)) (fun env => by rw [evE]; exact L_const pe_bl (fun H => .bl _) env) rfl
    · cases h
  | .int b => fun X W x ok hp h => by
    unfold mE at h
    split at h
    · simp only [decide_eq_true_eq] at h
      subst h
      exact both (r := fun env => evE P env (.int _)) (fun env => by rw [evE]; exact L_const pe_int (fun H => .int _) env) rfl
    · cases h
  | .str b => fun X W x ok hp h => by
    unfold mE at h
    split at h
    · simp only [decide_eq_true_eq] at h
      subst h
      exact both (r := fun env => evE P env (.str _)) (fun env => by rw [evE]; exact L_const pe_str (fun H => .str _) env) rfl
    · cases h
  | .gl j => fun X W x ok hp h => by
    unfold mE at h
    split at h
    · simp only [decide_eq_true_eq, Bool.and_eq_true] at h
      obtain ⟨u, v, h1, h2, h3⟩ := ok.gl j _ h.1
      exact both (r := fun env => evE P env (.gl j)) (fun env => by rw [evE]; exact L_const (pe_glob (gl_of h.2).1 h1 h2 (gl_of h.2).2.1) h3 env) rfl
    · cases h
  | .fn f => fun X W x ok hp h => by
    unfold mE at h
    split at h
    · simp only [decide_eq_true_eq, Bool.and_eq_true] at h
      obtain ⟨a, h0, h1, _⟩ := ok.fn f _ h.1
      exact both (r := fun env => evE P env (.fn f)) (fun env => by rw [evE]; exact L_const (v := .ref a) (pe_glob (gl_of h.2).1 h1 rfl (gl_of h.2).2.1) (fun H => .fn f h0) env) rfl
    · cases h
  | .tup es => fun X W x ok hp h => by
    unfold mE at h
    split at h
    · simp only [decide_eq_true_eq, Bool.and_eq_true] at h
      obtain ⟨h1, h2, _⟩ := sL es _ _ _ ok hp h.1
      exact both (r := fun env => evE P env (.tup es)) (fun env => L_tup (h1 env) h.2 (h2 env)) rfl
    · cases h
  | .lst es => fun X W x ok hp h => by
    unfold mE at h
    split at h
    · simp only [decide_eq_true_eq, Bool.and_eq_true] at h
      obtain ⟨h1, h2, _⟩ := sL es _ _ _ ok hp h.1
      exact both (r := fun env => evE P env (.lst es)) (fun env => L_lst (h1 env) h.2 (h2 env)) rfl
    · cases h
  | .dct0 t => fun X W x ok hp h => by
    unfold mE at h
    split at h
    · exact both (r := fun env => evE P env (.dct0 t)) (fun env => by rw [evE]; exact L_dct0 env) rfl
    · cases h
  | .dct1 t k v => fun X W x ok hp h => by
    unfold mE at h
    split at h
    · simp only [decide_eq_true_eq, Bool.and_eq_true] at h
      obtain ⟨⟨ht, hk⟩, hv⟩ := h
      subst ht
      have h1 := (sE k _ _ _ ok hp hk).1
      have h2 := (sE v _ _ _ ok hp hv).1
      exact both (r := fun env => evE P env (.dct1 true k v)) (fun env => L_dct1 ok (h1 env) (h2 env)) rfl
    · cases h
  | .and es => fun X W x ok hp h => by
    unfold mE at h
    split at h
    · rename_i xs pos
      have hne : xs ≠ [] ∨ ∀ env, evAnd P env es = .bad := by
        cases es with
        | nil => exact .inr fun env => by rw [evAnd]
        | cons e es => cases xs with
          | nil => simp [mL] at h
          | cons _ _ => exact .inl (by simp)
      obtain ⟨_, _, h1, _⟩ := sL es _ _ _ ok hp h
      rcases hne with hne | hb
      · exact ⟨fun env => by rw [evE]; exact (h1 env pos).1 hne, fun env => by rw [evE]; exact PT.of ((h1 env pos).2 hne)⟩
      · exact ⟨fun env => by rw [evE, hb]; exact PE.orFalse fun σ H Q ⟨_, _, _, _, q⟩ => q, fun env => by rw [evE, hb]; exact notB (fr := false) fun σ H Q ⟨_, _, _, _, q⟩ => q⟩
    · cases h
  | .or es => fun X W x ok hp h => by
    unfold mE at h
    split at h
    · rename_i xs pos
      have hne : xs ≠ [] ∨ ∀ env, evOr P env es = .bad := by
        cases es with
        | nil => exact .inr fun env => by rw [evOr]
        | cons e es => cases xs with
          | nil => simp [mL] at h
          | cons _ _ => exact .inl (by simp)
      obtain ⟨_, _, _, h1⟩ := sL es _ _ _ ok hp h
      rcases hne with hne | hb
      · exact ⟨fun env => by rw [evE]; exact (h1 env pos).1 hne, fun env => by rw [evE]; exact PT.of ((h1 env pos).2 hne)⟩
      · exact ⟨fun env => by rw [evE, hb]; exact PE.orFalse fun σ H Q ⟨_, _, _, _, q⟩ => q, fun env => by rw [evE, hb]; exact notB (fr := false) fun σ H Q ⟨_, _, _, _, q⟩ => q⟩
    · cases h
  | .not a => fun X W x ok hp h => by
    unfold mE at h
    split at h
    · obtain ⟨h1, h2⟩ := sE a _ _ _ ok hp h
      exact ⟨fun env => L_not (h1 env), fun env => L_notT (h2 env)⟩
    · cases h
  | .cmp o a b => fun X W x ok hp h => by
    unfold mE at h
    split at h
    · simp only [decide_eq_true_eq, Bool.and_eq_true] at h
      obtain ⟨⟨⟨he, hx⟩, ha⟩, hb⟩ := h
      subst he
      have h1 := (sE a _ _ _ ok hp ha).1
      have h2 := (sE b _ _ _ ok hp hb).1
      exact ⟨fun env => L_cmp ok (h1 env) (h2 env) hx, fun env => L_cmpT ok (h1 env) (h2 env) hx⟩
    · cases h
  | .chain o o2 a b e => fun X W x ok hp h => by
    unfold mE at h
    split at h
    · simp only [decide_eq_true_eq, Bool.and_eq_true] at h
      obtain ⟨⟨⟨⟨⟨he, he2⟩, hx⟩, ha⟩, hb⟩, hc⟩ := h
      subst he; subst he2
      have h1 := (sE a _ _ _ ok hp ha).1
      have h2 := (sE b _ _ _ ok hp hb).1
      have h3 := (sE e _ _ _ ok hp hc).1
      exact ⟨fun env => L_chain ok (h1 env) (h2 env) (h3 env) hx, fun env => L_chainT ok (h1 env) (h2 env) (h3 env) hx⟩
    · cases h
  | .bin o a b => fun X W x ok hp h => by
    unfold mE at h
    split at h
    · simp only [decide_eq_true_eq, Bool.and_eq_true] at h
      obtain ⟨⟨he, ha⟩, hb⟩ := h
      subst he
      have h1 := (sE a _ _ _ ok hp ha).1
      have h2 := (sE b _ _ _ ok hp hb).1
      exact both (r := fun env => evE P env (.bin o a b)) (fun env => L_bin (h1 env) (h2 env)) rfl
    · cases h
  | .neg a => fun X W x ok hp h => by
    unfold mE at h
    split at h
    · have h1 := (sE a _ _ _ ok hp h).1
      refine ⟨fun env => L_neg (h1 env), fun env => PT.imp (pt_val (L_neg (h1 env)) (fun _ => rfl)) fun σ H Q ⟨S0, HF, own, er, q⟩ => ⟨S0, HF, own, er, RT.step er q fun x d H1 e1 s1 r1 _ er1 q1 => ?_⟩⟩
      cases d with
      | bl b => cases r1; exact ⟨b, rfl, RT.ok q1 rfl⟩
      | _ => exact q1.elim
    · cases h
  | .ix a b => fun X W x ok hp h => by
    unfold mE at h
    split at h
    · simp only [Bool.and_eq_true, true_and] at h
      have h1 := (sE a _ _ _ ok hp h.1.2).1
      have h2 := (sE b _ _ _ ok hp h.2).1
      exact both (r := fun env => evE P env (.ix a b)) (fun env => L_ix ok (h1 env) (h2 env) h.1.1) rfl
    · cases h
  | .sl a lo hi => fun X W x ok hp h => by
    unfold mE at h
    split at h
    · simp only [Bool.and_eq_true, true_and] at h
      have h1 := (sE a _ _ _ ok hp h.1.1).1
      have h2 := (sO lo).1 _ _ _ ok hp h.1.2
      have h3 := (sO hi).1 _ _ _ ok hp h.2
      exact both (r := fun env => evE P env (.sl a lo hi)) (fun env => L_sl (h1 env) (h2 env) (h3 env)) rfl
    · cases h
  | .rev a => fun X W x ok hp h => by
    unfold mE at h
    split at h
    · simp only [decide_eq_true_eq, Bool.and_eq_true] at h
      obtain ⟨hi, ha⟩ := h
      subst hi
      have h1 := (sE a _ _ _ ok hp ha).1
      exact both (r := fun env => evE P env (.rev a)) (fun env => L_rev (h1 env)) rfl
    · cases h
  | .call f es => fun X W x ok hp h => by
    unfold mE at h
    split at h
    · simp only [decide_eq_true_eq, Bool.and_eq_true] at h
      have h1 := (sL es _ _ _ ok hp h.2).1
      exact both (r := fun env => evE P env (.call f es)) (fun env => L_call ok hp h.1.1.1 h.1.1.2 (h1 env) (by simpa using h.1.2)) rfl
    · cases h
  | .callv f es => fun X W x ok hp h => by
    unfold mE at h
    split at h
    · split at h
      · simp only [decide_eq_true_eq, Bool.and_eq_true] at h
        obtain ⟨⟨⟨hi, hv⟩, hx⟩, hs⟩ := h
        have h1 := (sL es _ _ _ ok hp hs).1
        exact both (r := fun env => evE P env (.callv (.var _) es)) (fun env => L_callv ok hp hi hv (h1 env) hx) rfl
      · cases h
    · rename_i a b
      split at h
      · simp only [decide_eq_true_eq, Bool.and_eq_true] at h
        obtain ⟨⟨⟨⟨hb, ha1⟩, hb1⟩, hx⟩, hs⟩ := h
        have k1 := (sE a _ _ _ ok hp ha1).1
        have k2 := (sE b _ _ _ ok hp hb1).1
        have h1 := (sL es _ _ _ ok hp hs).1
        exact both (r := fun env => evE P env (.callv (.ix a b) es)) (fun env => L_callx ok hp (L_ix ok (k1 env) (k2 env) hb) (h1 env) hx) rfl
      · cases h
    · cases h
  | .b1 o a => fun X W x ok hp h => by
    unfold mE at h
    split at h
    · split at h
      · simp only [decide_eq_true_eq, Bool.and_eq_true] at h
        obtain ⟨⟨⟨⟨⟨⟨⟨he, he2⟩, hm⟩, hg⟩, hm2⟩, hg2⟩, hx⟩, ha⟩ := h
        subst he; subst he2
        have h1 := (sE a _ _ _ ok hp ha).1
        exact both (r := fun env => evE P env (.b1 .sset a)) (fun env => L_sset ok hm hg hm2 hg2 (h1 env) hx) rfl
      · cases h
    · split at h
      · simp only [decide_eq_true_eq, Bool.and_eq_true] at h
        obtain ⟨⟨⟨⟨⟨⟨⟨he, he2⟩, hm⟩, hg⟩, hm2⟩, hg2⟩, hx⟩, ha⟩ := h
        subst he; subst he2
        have h1 := (sE a _ _ _ ok hp ha).1
        exact both (r := fun env => evE P env (.b1 .ssett a)) (fun env => L_ssett ok hm hg hm2 hg2 (h1 env) hx) rfl
      · cases h
    · split at h
      · simp only [decide_eq_true_eq, Bool.and_eq_true] at h
        obtain ⟨⟨⟨⟨⟨⟨⟨⟨he, hk⟩, he2⟩, hm⟩, hg⟩, hm2⟩, hg2⟩, hx⟩, ha⟩ := h
        subst he; subst hk; subst he2
        have h1 := (sE a _ _ _ ok hp ha).1
        exact both (r := fun env => evE P env (.b1 .minlen a)) (fun env => L_minlen ok hm hg hm2 hg2 (h1 env) hx) rfl
      · cases h
    · split at h
      · simp only [decide_eq_true_eq, Bool.and_eq_true] at h
        obtain ⟨⟨⟨⟨⟨⟨⟨he, he2⟩, hm⟩, hg⟩, hm2⟩, hg2⟩, hx⟩, ha⟩ := h
        subst he; subst he2
        have h1 := (sE a _ _ _ ok hp ha).1
        exact both (r := fun env => evE P env (.b1 .lset a)) (fun env => L_lset ok hm hg hm2 hg2 (h1 env) hx) rfl
      · cases h
    · split at h
      · simp only [decide_eq_true_eq, Bool.and_eq_true] at h
        obtain ⟨⟨⟨⟨⟨h0, he⟩, hm⟩, hg⟩, hx⟩, ha⟩ := h
        subst he
        have h1 := (sE a _ _ _ ok hp ha).1
        exact both (r := fun env => evE P env (.b1 _ a)) (fun env => L_b1 ok h0 hm hg (h1 env) hx) rfl
      · cases h
  | .b2 o a b => fun X W x ok hp h => by
    unfold mE at h
    split at h
    · simp only [decide_eq_true_eq, Bool.and_eq_true] at h
      obtain ⟨⟨⟨⟨⟨⟨he, hm⟩, hg⟩, hx⟩, hy⟩, ha⟩, hb⟩ := h
      subst he
      have h1 := (sE a _ _ _ ok hp ha).1
      have h2 := (sE b _ _ _ ok hp hb).1
      exact both (r := fun env => evE P env (.b2 o a b)) (fun env => by
        cases o with
        | max => exact L_b2 (o := .max) ok hm hg (h1 env) (h2 env) hx hy
        | min => exact L_b2 (o := .min) ok hm hg (h1 env) (h2 env) hx hy) rfl
    · cases h
  | .isi t a => fun X W x ok hp h => by
    unfold mE at h
    split at h
    · simp only [decide_eq_true_eq, Bool.and_eq_true] at h
      obtain ⟨⟨⟨⟨⟨⟨⟨he, hm⟩, hg⟩, he2⟩, hm2⟩, hg2⟩, hx⟩, ha⟩ := h
      subst he; subst he2
      have h1 := (sE a _ _ _ ok hp ha).1
      exact both (r := fun env => evE P env (.isi t a)) (fun env => L_isi ok hm hg hm2 hg2 (h1 env) hx) rfl
    · cases h
  | .m1 o a b => fun X W x ok hp h => by
    unfold mE at h
    split at h
    · split at h
      · simp only [decide_eq_true_eq, Bool.and_eq_true] at h
        obtain ⟨⟨⟨⟨⟨he, hb⟩, hx⟩, hl⟩, h1⟩, h2⟩ := h
        subst he
        have h1 := (sE a _ _ _ ok hp h1).1
        have h2 := (sE b _ _ _ ok hp h2).1
        exact both (r := fun env => evE P env (.m1 .count a b)) (fun env => L_count ok (h1 env) (h2 env) hb hx hl) rfl
      · cases h
    · split at h
      · simp only [decide_eq_true_eq, Bool.and_eq_true] at h
        obtain ⟨⟨⟨⟨⟨he, hb⟩, hx⟩, hl⟩, h1⟩, h2⟩ := h
        subst he
        have h1 := (sE a _ _ _ ok hp h1).1
        have h2 := (sE b _ _ _ ok hp h2).1
        exact both (r := fun env => evE P env (.m1 .join a b)) (fun env => L_join ok (h1 env) (h2 env) hb hx hl) rfl
      · cases h
    · split at h
      · simp only [decide_eq_true_eq, Bool.and_eq_true] at h
        obtain ⟨⟨⟨⟨⟨he, hb⟩, hx⟩, hl⟩, h1⟩, h2⟩ := h
        subst he
        have h1 := (sE a _ _ _ ok hp h1).1
        have h2 := (sE b _ _ _ ok hp h2).1
        exact both (r := fun env => evE P env (.m1 .split a b)) (fun env => L_split ok (h1 env) (h2 env) hb hx hl) rfl
      · cases h
    · split at h
      · simp only [decide_eq_true_eq, Bool.and_eq_true] at h
        obtain ⟨⟨⟨⟨⟨he, hb⟩, hx⟩, hl⟩, h1⟩, h2⟩ := h
        subst he
        have h1 := (sE a _ _ _ ok hp h1).1
        have h2 := (sE b _ _ _ ok hp h2).1
        exact both (r := fun env => evE P env (.m1 .part a b)) (fun env => L_part ok (h1 env) (h2 env) hb hx hl) rfl
      · cases h
    · cases h
  | .dget d k e => fun X W x ok hp h => by
    unfold mE at h
    split at h
    · simp only [decide_eq_true_eq, Bool.and_eq_true] at h
      obtain ⟨⟨⟨⟨⟨⟨⟨he, hl⟩, hb⟩, hx⟩, hy⟩, h1⟩, h2⟩, h3⟩ := h
      subst he
      have h1 := (sE d _ _ _ ok hp h1).1
      have h2 := (sE k _ _ _ ok hp h2).1
      have h3 := (sE e _ _ _ ok hp h3).1
      exact both (r := fun env => evE P env (.dget d k e)) (fun env => L_dget ok (h1 env) (h2 env) (h3 env) hb hx hy hl) rfl
    · cases h
  | .comp elt tg it cnd => fun X W x ok hp h => by
    unfold mE at h
    split at h
    · rename_i xe xt xi ifs k scope pos
      simp only [decide_eq_true_eq, Bool.and_eq_true] at h
      obtain ⟨⟨⟨⟨⟨⟨⟨hk, hb⟩, ho⟩, ht⟩, hx⟩, hi⟩, hc⟩, he⟩ := h
      subst hk
      have cp : CompOk G P X elt tg cnd (frE elt) xe xt ifs scope (ownN X.N tg.ids) := ⟨blkOk_by hb, ho, fun s H C cl fp env => L_tg (X := X.blk s H scope (compEnvC scope cl C X.env) fp) (fnB := fnBof scope) ok.nd ok.calm (fun x z => z) ht env,
        fun s H C cl fp env => (sO cnd).2 _ _ ifs (ok.blk s H scope _ fp) (takes_blk s H scope _ fp) hc env, fun s H C cl fp env => (sE elt _ _ xe (ok.blk s H scope _ fp) (takes_blk s H scope _ fp) he).1 env⟩
      by_cases hki : ∃ i, it = .keys i
      · obtain ⟨i, e⟩ := hki
        subst e
        unfold mI at hi
        split at hi
        · simp only [Bool.and_eq_true, decide_eq_true_eq] at hi
          exact both (r := fun env => evE P env (.comp elt tg (.keys i) cnd)) (fun env => L_compK ok hi.1 hi.2 cp) rfl
        · cases hi
      · have g0 := sI it _ _ xt xi ok hp hi fun i e => hki ⟨i, e⟩
        exact both (r := fun env => evE P env (.comp elt tg it cnd)) (fun env => L_comp ok (g0 env) cp hx) rfl
    · cases h
  | .bor e => fun X W x ok hp h => by
    unfold mE at h
    obtain ⟨h1, h2⟩ := sE e _ _ x ok hp h
    refine ⟨fun env => L_bor (h1 (unown env)), fun env => PT.imp (h2 (unown env)) fun σ H Q ⟨S0, HF, own, er, q⟩ => ⟨S0, HF, _, er.un, ?_⟩⟩
    rw [evE] at q
    cases e1 : evE P (unown env) e with
    | exc c p => rw [e1] at q; exact q
    | bad => rw [e1] at q; exact q.elim
    | ok d =>
      rw [e1, R.bind_ok] at q
      cases d with
      | bl b => exact q
      | _ =>
        exfalso
        split at q <;> exact q
theorem sL : ∀ es : EL, GL c G P n es
  | .nil => fun X W xs ok hp h => by
    cases xs with
    | nil => exact ⟨fun env => by rw [evL]; exact L_nil env, fun env ds e => by rw [evL] at e; cases e; rfl, fun env pos => ⟨fun z => absurd rfl z, fun z => absurd rfl z⟩, fun env pos => ⟨fun z => absurd rfl z, fun z => absurd rfl z⟩⟩
    | cons _ _ => simp [mL] at h
  | .cons e es => fun X W xs ok hp h => by
    cases xs with
    | nil => simp [mL] at h
    | cons x xs =>
      unfold mL at h
      simp only [Bool.and_eq_true, true_and] at h
      obtain ⟨⟨hx, he⟩, hs⟩ := h
      obtain ⟨h1, h2⟩ := sE e _ _ x ok hp he
      obtain ⟨t1, t2, t3, t4⟩ := sL es _ _ xs ok hp hs
      refine ⟨fun env => L_cons (h1 env) (t1 env) hx, fun env ds e1 => ?_, fun env pos => ?_, fun env pos => ?_⟩
      · rw [evL] at e1
        obtain ⟨d, f1, f2⟩ := bind_ok e1
        obtain ⟨ds', f3, f4⟩ := bind_ok f2
        cases f4
        rw [List.length_cons, List.length_cons, t2 env ds' f3]
      · cases es with
        | nil => cases xs with
          | nil => exact ⟨fun _ => L_and1 (h1 env), fun _ => L_andT1 (h2 env)⟩
          | cons _ _ => simp [mL] at hs
        | cons e2 es => cases xs with
          | nil => simp [mL] at hs
          | cons y ys => exact ⟨fun _ => L_andC (h1 env) ((t3 env pos).1 (by simp)), fun _ => L_andTC (h2 env) ((t3 env pos).2 (by simp))⟩
      · cases es with
        | nil => cases xs with
          | nil => exact ⟨fun _ => L_or1 (h1 env), fun _ => L_orT1 (h2 env)⟩
          | cons _ _ => simp [mL] at hs
        | cons e2 es => cases xs with
          | nil => simp [mL] at hs
          | cons y ys => exact ⟨fun _ => L_orC (h1 env) ((t4 env pos).1 (by simp)), fun _ => L_orTC (h2 env) ((t4 env pos).2 (by simp))⟩
theorem sO : ∀ o : OE, GO c G P n o
  | .none => ⟨fun X W x ok hp h => by
      cases x with
      | none => exact fun env => L_none env
      | some _ => simp [mO] at h, fun X W xs ok hp h => by
      cases xs with
      | nil => exact fun env => by rw [evC]; exact PTs.yes
      | cons _ _ => simp [mC] at h⟩
  | .some e => ⟨fun X W x ok hp h => by
      cases x with
      | none => simp [mO] at h
      | some x => exact fun env => L_some ((sE e _ _ x ok hp (by simpa [mO] using h)).1 env), fun X W xs ok hp h => by
      unfold mC at h
      split at h
      · exact fun env => by rw [evC]; exact pts_one ((sE e _ _ _ ok hp h).2 env)
      · cases h⟩
theorem sI : ∀ it : Pu.It, GI c G P n it
  | .seq e => fun X W t x ok hp h _ env => L_seq ((sE e _ _ x ok hp (by simpa [mI] using h)).1 env)
  | .gseq j => fun X W t x ok hp h _ env => by
    unfold mI at h
    split at h
    · simp only [decide_eq_true_eq, Bool.and_eq_true] at h
      exact L_gseq ok h.1 h.2
    · cases h
  | .gzip j b => fun X W t x ok hp h _ env => by
    unfold mI at h
    split at h
    · split at h
      · simp only [decide_eq_true_eq, Bool.and_eq_true] at h
        obtain ⟨⟨⟨⟨⟨⟨he, hm⟩, hg⟩, hm2⟩, hg2⟩, hx⟩, hb⟩ := h
        subst he
        exact L_gzip ok hm hg hm2 hg2 ((sE b _ _ _ ok hp hb).1 env) hx
      · cases h
    · cases h
  | .keys i => fun X W t x ok hp h k env => (k i rfl).elim
  | .rng1 a => fun X W t x ok hp h _ env => by
    unfold mI at h
    split at h
    · simp only [decide_eq_true_eq, Bool.and_eq_true] at h
      obtain ⟨⟨⟨⟨he, hm⟩, hg⟩, hx⟩, ha⟩ := h
      subst he
      exact L_rng1 ok hm hg ((sE a _ _ _ ok hp ha).1 env) hx
    · cases h
  | .rng2 a b => fun X W t x ok hp h _ env => by
    unfold mI at h
    split at h
    · simp only [decide_eq_true_eq, Bool.and_eq_true] at h
      obtain ⟨⟨⟨⟨⟨⟨he, hm⟩, hg⟩, hx⟩, hy⟩, ha⟩, hb⟩ := h
      subst he
      exact L_rng2 ok hm hg ((sE a _ _ _ ok hp ha).1 env) ((sE b _ _ _ ok hp hb).1 env) hx hy
    · cases h
  | .rngd a b => fun X W t x ok hp h _ env => by
    unfold mI at h
    split at h
    · simp only [decide_eq_true_eq, Bool.and_eq_true] at h
      obtain ⟨⟨⟨⟨⟨⟨⟨hj, he⟩, hm⟩, hg⟩, hx⟩, hy⟩, ha⟩, hb⟩ := h
      subst he; subst hj
      exact L_rngd ok hm hg ((sE a _ _ _ ok hp ha).1 env) ((sE b _ _ _ ok hp hb).1 env) hx hy
    · cases h
  | .enm a => fun X W t x ok hp h _ env => by
    unfold mI at h
    split at h
    · split at h
      · simp only [decide_eq_true_eq, Bool.and_eq_true] at h
        obtain ⟨⟨⟨⟨he, hm⟩, hg⟩, hx⟩, ha⟩ := h
        subst he
        exact L_enum ok hm hg ((sE a _ _ _ ok hp ha).1 env) hx
      · cases h
    · cases h
  | .zip a b => fun X W t x ok hp h _ env => by
    unfold mI at h
    split at h
    · split at h
      · simp only [decide_eq_true_eq, Bool.and_eq_true] at h
        obtain ⟨⟨⟨⟨⟨⟨he, hm⟩, hg⟩, hx⟩, hy⟩, ha⟩, hb⟩ := h
        subst he
        exact L_zip ok hm hg ((sE a _ _ _ ok hp ha).1 env) ((sE b _ _ _ ok hp hb).1 env) hx hy
      · cases h
    · cases h
end
end
end Pu
end
section
set_option maxRecDepth 100000
set_option maxHeartbeats 1000000
namespace Pu
open PySem PySem.Spec L2
section
variable {G : Gc} {K : PySem.W.Frag} {W : WX} {S0 : Addr → Prop} {HF HF1 : Hp} {own : Nat → List Addr} {σ : St} {H H1 : Hp} {env env' : Env}
def FT (G : Gc) (K : PySem.W.Frag) (W : WX) (S0 : Addr → Prop) (HF : Hp) (fl : Fl) (D : Ends) : Prop := match fl with
  | .nx env' => ∀ σ' H' own', ER G K S0 HF own' σ' H' env' → D.nx σ' H'
  | .ret d => ∀ v H', Same HF H' → Rep G.fa K (hid S0 H') v d → D.rt v H'
  | .exc c p => ∀ dd σ' H', Same HF H' → ExAt c p dd H' → W (.ref (G.cl c)) dd σ' H'
  | .brk env' => ∀ σ' H' own', ER G K S0 HF own' σ' H' env' → D.bk σ' H'
  | .bad => False
def tS (G : Gc) (K : PySem.W.Frag) (W : WX) (env : Env) (fl : Fl) : TS := fun D σ H => ∃ S0 HF own, ER G K S0 HF own σ H env ∧ FT G K W S0 HF fl D
theorem FT.step {r : R D} {f : D → Fl} {D' : Ends} {fr : Bool} {C : V → Hp → Prop} (er : ER G K S0 HF own σ H env) (h : FT G K W S0 HF (Fl.of r f) D')
    (k : ∀ x d H1, r = .ok d → Same H H1 → Rep G.fa K (hid (SS S0 own) H1) x d → Pst G K fr (SS S0 own) H H1 x d → ER G K S0 HF own σ H1 env → FT G K W S0 HF (f d) D' → C x H1) :
    RT G W σ H r (fun v H' d => Pst G K fr (SS S0 own) H H' v d) C := by
  cases r with
  | ok d => exact fun x H1 s p => k x d H1 rfl s (p.rep er.nt) p (er.same s) h
  | exc c p => exact fun dd H' s e => h dd σ H' (er.hf.trans s) e
  | bad => exact h.elim
theorem FT.stepB {γ : Type} {r : R γ} {f : γ → Fl} {D' : Ends} {C : γ → Hp → Prop} (er : ER G K S0 HF own σ H env) (h : FT G K W S0 HF (Fl.of r f) D')
    (k : ∀ b H1, r = .ok b → Same H H1 → ER G K S0 HF own σ H1 env → FT G K W S0 HF (f b) D' → C b H1) :
    RT G W σ H r (fun b _ d => b = d) C := by
  cases r with
  | ok d => exact fun x H1 s p => by subst p; exact k x H1 rfl s (er.same s) h
  | exc c p => exact fun dd H' s e => h dd σ H' (er.hf.trans s) e
  | bad => exact h.elim
theorem FT.ofO {α : Type} {o : Option α} {f : α → Fl} {D' : Ends} (h : FT G K W S0 HF (Fl.of (R.ofO o) f) D') : ∃ a, o = some a ∧ FT G K W S0 HF (f a) D' := by
  cases o with
  | none => exact h.elim
  | some a => exact ⟨a, rfl, h⟩
theorem ER.weak (er : ER G K S0 HF1 own σ H env) (s : Same HF HF1) (hs : ∀ a, S0 a → NT HF a) : ER G K S0 HF own σ H env :=
  ⟨er.len, er.sh, er.ow, er.o2, er.no, er.nd, er.inj, s.trans er.hf, fun i a z => none_of s (er.fr i a z), er.tr, hs⟩
theorem ER.freezeH (er : ER G K S0 HF own σ H env) : ER G K S0 (hid (OwnS own) H) own σ H env ∧ Same HF (hid (OwnS own) H) := by
  have key : Same HF (hid (OwnS own) H) := fun a o e => hid_iff.mpr ⟨fun ⟨i, z⟩ => (by have := er.fr i a z; rw [e] at this; cases this), er.hf a o e⟩
  refine ⟨⟨er.len, er.sh, er.ow, er.o2, er.no, er.nd, er.inj, hid_same, fun i a z => ?_, er.tr, fun a z => ?_⟩, key⟩
  · unfold hid; rw [if_pos ⟨i, z⟩]
  · obtain ⟨o, e, nt⟩ := er.s0 a z
    exact ⟨o, key a o e, nt⟩
def upO (own : Nat → List Addr) (i : Nat) (as : List Addr) : Nat → List Addr := fun j => if j = i then as else own j
theorem mem_upO {i j : Nat} {as : List Addr} {a : Addr} (h : a ∈ upO own i as j) : (j = i ∧ a ∈ as) ∨ (j ≠ i ∧ a ∈ own j) := by
  unfold upO at h
  split at h
  · rename_i q; exact .inl ⟨q, h⟩
  · rename_i q; exact .inr ⟨q, h⟩
theorem upO_self {i : Nat} {as : List Addr} : upO own i as i = as := by simp [upO]
theorem upO_ne {i j : Nat} {as : List Addr} (h : j ≠ i) : upO own i as j = own j := by simp [upO, h]
theorem ER.take (er : ER G K S0 HF own σ H env) (s : Same H H1) {i : Nat} (hi : i < env.length) {p : Addr} {d : D} (hp : H p = none) (o : OwnAt G.fa K (hid (fun a => SS S0 own a ∨ a = p) H1) H1 p d) :
    ER G K S0 HF (upO own i [p]) (σ.set i (some (.ref p))) H1 (env.set i (.ow d)) := by
  have np : ∀ a u, H a = some u → a ≠ p := fun a u e z => by subst z; rw [hp] at e; cases e
  have nown : ∀ j a, a ∈ own j → a ≠ p := fun j a z => by
    obtain ⟨u, e, _⟩ := er.tr j a z
    exact np a u e
  have key : Le (hid (SS S0 own) H) (hid (SS S0 (upO own i [p])) H1) := Le.of (hid_mono s fun a u e z => by
    rcases z with z | ⟨j, z⟩
    · exact .inl z
    · rcases mem_upO z with ⟨_, z⟩ | ⟨_, z⟩
      · exact (np a u e (by simpa using z)).elim
      · exact .inr ⟨j, z⟩)
  have key2 : Le (hid (fun a => SS S0 own a ∨ a = p) H1) (hid (SS S0 (upO own i [p])) H1) := Le.of (hid_mono (Same.refl _) fun a u e z => by
    rcases z with z | ⟨j, z⟩
    · exact .inl (.inl z)
    · rcases mem_upO z with ⟨_, z⟩ | ⟨_, z⟩
      · exact .inr (by simpa using z)
      · exact .inl (.inr ⟨j, z⟩))
  refine ⟨by rw [List.length_set, List.length_set]; exact er.len, fun j d' e => ?_, fun j d' e => ?_, fun j xs e => ?_, fun j a z => ?_, fun j => ?_, fun j k a z1 z2 => ?_, er.hf.trans s, fun j a z => ?_, fun j a z => ?_, er.s0⟩
  · rcases set_get e with ⟨rfl, e'⟩ | ⟨ne, e'⟩
    · cases e'
    · obtain ⟨v, h1, h2⟩ := er.sh j d' e'
      exact ⟨v, by rw [List.getElem?_set_ne ne]; exact h1, h2.mono key⟩
  · rcases set_get e with ⟨rfl, e'⟩ | ⟨ne, e'⟩
    · cases e'
      exact ⟨p, upO_self, by rw [List.getElem?_set_self (er.lt hi)], o.mono (fun _ z => z) key2⟩
    · obtain ⟨a, h1, h2, h3⟩ := er.ow j d' e'
      exact ⟨a, by rw [upO_ne (Ne.symm ne)]; exact h1, by rw [List.getElem?_set_ne ne]; exact h2, h3.mono (s a) key⟩
  · rcases set_get e with ⟨rfl, e'⟩ | ⟨ne, e'⟩
    · cases e'
    · obtain ⟨a, as, h1, h2, h3, h4, h5, h6⟩ := er.o2 j xs e'
      refine ⟨a, as, by rw [upO_ne (Ne.symm ne)]; exact h1, by rw [List.getElem?_set_ne ne]; exact h2, s _ _ h3, h4, h5, fun k b ds e1 e2 => ?_⟩
      obtain ⟨vs, g1, g2, g3⟩ := h6 k b ds e1 e2
      exact ⟨vs, s _ _ g1, g2, g3.mono key⟩
  · rcases mem_upO z with ⟨rfl, z⟩ | ⟨ne, z⟩
    · rw [List.getElem?_set_self hi]; rfl
    · rw [List.getElem?_set_ne (Ne.symm ne)]; exact er.no j a z
  · unfold upO; split
    · simp
    · exact er.nd j
  · rcases mem_upO z1 with ⟨e1, y1⟩ | ⟨e1, y1⟩
    · rcases mem_upO z2 with ⟨e2, y2⟩ | ⟨e2, y2⟩
      · rw [e1, e2]
      · exact (nown k a y2 (by simpa using y1)).elim
    · rcases mem_upO z2 with ⟨e2, y2⟩ | ⟨e2, y2⟩
      · exact (nown j a y1 (by simpa using y2)).elim
      · exact er.inj j k a y1 y2
  · rcases mem_upO z with ⟨_, z⟩ | ⟨_, z⟩
    · have : a = p := by simpa using z
      subst this
      exact none_of er.hf hp
    · exact er.fr j a z
  · rcases mem_upO z with ⟨_, z⟩ | ⟨_, z⟩
    · have : a = p := by simpa using z
      subst this
      exact o.nt
    · obtain ⟨u, e, nt⟩ := er.tr j a z
      exact ⟨u, s a u e, nt⟩
theorem ER.mut (er : ER G K S0 HF own σ H env) {i : Nat} {d d' : D} {a : Addr} {o' : HO} (e : env[i]? = some (.ow d)) (ha : own i = [a]) (o : OwnAt G.fa K (hid (SS S0 own) H) (upd H a o') a d') :
    ER G K S0 HF own σ (upd H a o') (env.set i (.ow d')) := by
  have sa : SS S0 own a := .inr ⟨i, by rw [ha]; exact List.mem_cons_self⟩
  have he : hid (SS S0 own) (upd H a o') = hid (SS S0 own) H := hid_upd sa
  have hi : i < env.length := (List.getElem?_eq_some_iff.mp e).1
  have other : ∀ j b, b ∈ own j → j ≠ i → b ≠ a := fun j b z ne q => ne (er.inj j i b z (by rw [ha, q]; exact List.mem_cons_self))
  refine ⟨by rw [List.length_set]; exact er.len, fun j d1 e1 => ?_, fun j d1 e1 => ?_, fun j xs e1 => ?_, fun j b z => ?_, er.nd, er.inj, fun b u q => ?_, er.fr, fun j b z => ?_, er.s0⟩
  · rcases set_get e1 with ⟨rfl, e'⟩ | ⟨ne, e'⟩
    · cases e'
    · obtain ⟨v, h1, h2⟩ := er.sh j d1 e'
      exact ⟨v, h1, by rw [he]; exact h2⟩
  · rcases set_get e1 with ⟨rfl, e'⟩ | ⟨ne, e'⟩
    · cases e'
      obtain ⟨b, h1, h2, h3⟩ := er.ow i d e
      rw [ha] at h1
      cases h1
      exact ⟨a, ha, h2, by rw [he]; exact o⟩
    · obtain ⟨b, h1, h2, h3⟩ := er.ow j d1 e'
      exact ⟨b, h1, h2, by rw [he]; exact h3.mono (fun u q => by rw [upd_ne (other j b (by rw [h1]; exact List.mem_cons_self) (Ne.symm ne))]; exact q) (Le.of (Same.refl _))⟩
  · rcases set_get e1 with ⟨rfl, e'⟩ | ⟨ne, e'⟩
    · cases e'
    · obtain ⟨b, as, h1, h2, h3, h4, h5, h6⟩ := er.o2 j xs e'
      refine ⟨b, as, h1, h2, by rw [upd_ne (other j b (by rw [h1]; exact List.mem_cons_self) (Ne.symm ne))]; exact h3, h4, h5, fun k b' ds f1 f2 => ?_⟩
      obtain ⟨vs, g1, g2, g3⟩ := h6 k b' ds f1 f2
      exact ⟨vs, by rw [upd_ne (other j b' (by rw [h1]; exact List.mem_cons_of_mem _ (List.mem_of_getElem? f1)) (Ne.symm ne))]; exact g1, g2, by rw [he]; exact g3⟩
  · by_cases q : i = j
    · subst q; rw [List.getElem?_set_self hi]; rfl
    · rw [List.getElem?_set_ne q]; exact er.no j b z
  · have : b ≠ a := fun z => by
      have := er.fr i a (by rw [ha]; exact List.mem_cons_self)
      rw [← z, q] at this; cases this
    rw [upd_ne this]; exact er.hf b u q
  · by_cases q : b = a
    · subst q; exact o.nt
    · obtain ⟨u, e1, nt⟩ := er.tr j b z
      exact ⟨u, by rw [upd_ne q]; exact e1, nt⟩
theorem ER.release (er : ER G K S0 HF own σ H env) (i : Nat) : ∃ own', ER G K S0 HF own' σ H (freeze env i) ∧ ∀ j a, a ∈ own' j → a ∈ own j := by
  have same : ∀ j a, a ∈ own j → a ∈ own j := fun _ _ z => z
  have less : ∀ j a, a ∈ upO own i [] j → a ∈ own j := fun j a z => by
    rcases mem_upO z with ⟨_, z⟩ | ⟨_, z⟩
    · cases z
    · exact z
  unfold freeze
  cases q : env[i]? with
  | none => exact ⟨own, er, same⟩
  | some s =>
  have hi : i < env.length := (List.getElem?_eq_some_iff.mp q).1
  have stay : ∀ s', s = s' → env.set i s' = env := fun s' e => by
    subst e
    apply List.ext_getElem?
    intro j
    by_cases z : i = j
    · subst z; rw [List.getElem?_set_self hi, q]
    · rw [List.getElem?_set_ne z]
  have key : Le (hid (SS S0 own) H) (hid (SS S0 (upO own i [])) H) := Le.of (hid_mono (Same.refl _) fun a u e z => by
    rcases z with z | ⟨j, z⟩
    · exact .inl z
    · rcases mem_upO z with ⟨_, z⟩ | ⟨_, z⟩
      · cases z
      · exact .inr ⟨j, z⟩)
  have nS : ∀ a, a ∈ own i → ¬ SS S0 (upO own i []) a := fun a ha z => by
    rcases z with z | ⟨j, z⟩
    · obtain ⟨o, e1, _⟩ := er.s0 a z
      rw [er.fr i a ha] at e1; cases e1
    · rcases mem_upO z with ⟨_, z⟩ | ⟨ne, z⟩
      · cases z
      · exact ne (er.inj j i a z ha)
  have vis : ∀ a, a ∈ own i → ∀ o, H a = some o → hid (SS S0 (upO own i [])) H a = some o := fun a ha o e1 => hid_iff.mpr ⟨nS a ha, e1⟩
  have main : ∀ d v, s.un = .sh d → σ[i]? = some (some v) → Rep G.fa K (hid (SS S0 (upO own i [])) H) v d → ER G K S0 HF (upO own i []) σ H (env.set i s.un) := fun d v es ev r => by
    rw [es]
    refine ⟨by rw [List.length_set]; exact er.len, fun j d' e => ?_, fun j d' e => ?_, fun j xs e => ?_, fun j a z => ?_, fun j => ?_, fun j k a z1 z2 => ?_, er.hf, fun j a z => ?_, fun j a z => ?_, er.s0⟩
    · rcases set_get e with ⟨rfl, e'⟩ | ⟨ne, e'⟩
      · cases e'; exact ⟨v, ev, r⟩
      · obtain ⟨v', h1, h2⟩ := er.sh j d' e'
        exact ⟨v', h1, h2.mono key⟩
    · rcases set_get e with ⟨rfl, e'⟩ | ⟨ne, e'⟩
      · cases e'
      · obtain ⟨a, h1, h2, h3⟩ := er.ow j d' e'
        exact ⟨a, by rw [upO_ne (Ne.symm ne)]; exact h1, h2, h3.mono (fun _ z => z) key⟩
    · rcases set_get e with ⟨rfl, e'⟩ | ⟨ne, e'⟩
      · cases e'
      · obtain ⟨a, as, h1, h2, h3, h4, h5, h6⟩ := er.o2 j xs e'
        refine ⟨a, as, by rw [upO_ne (Ne.symm ne)]; exact h1, h2, h3, h4, h5, fun k b ds e1 e2 => ?_⟩
        obtain ⟨vs, g1, g2, g3⟩ := h6 k b ds e1 e2
        exact ⟨vs, g1, g2, g3.mono key⟩
    · rcases mem_upO z with ⟨_, z⟩ | ⟨ne, z⟩
      · cases z
      · rw [List.getElem?_set_ne (Ne.symm ne)]; exact er.no j a z
    · unfold upO; split
      · exact .nil
      · exact er.nd j
    · rcases mem_upO z1 with ⟨_, y⟩ | ⟨_, y1⟩
      · cases y
      · rcases mem_upO z2 with ⟨_, y⟩ | ⟨_, y2⟩
        · cases y
        · exact er.inj j k a y1 y2
    · rcases mem_upO z with ⟨_, z⟩ | ⟨_, z⟩
      · cases z
      · exact er.fr j a z
    · rcases mem_upO z with ⟨_, z⟩ | ⟨_, z⟩
      · cases z
      · exact er.tr j a z
  cases s with
  | em => exact ⟨own, by show ER G K S0 HF own σ H (env.set i Sl.em); rw [stay _ rfl]; exact er, same⟩
  | sh d => exact ⟨own, by show ER G K S0 HF own σ H (env.set i (Sl.sh d)); rw [stay _ rfl]; exact er, same⟩
  | ow d =>
    obtain ⟨a, h1, h2, h3⟩ := er.ow i d q
    exact ⟨_, main d _ rfl h2 ((h3.mono (fun _ z => z) key).rep (vis a (by rw [h1]; exact List.mem_cons_self)) (Same.refl _)), less⟩
  | o2 xs =>
    obtain ⟨a, as, h1, h2, h3, h4, h5, h6⟩ := er.o2 i xs q
    refine ⟨_, main _ _ rfl h2 (.lst (vis a (by rw [h1]; exact List.mem_cons_self) _ h3) (by rw [List.length_map, h4]; exact Nat.le_trans h5 (by decide)) ?_), less⟩
    have go : ∀ (as : List Addr) (xs : List (List D)), as.length = xs.length → (∀ b ∈ as, b ∈ own i) → (∀ (j : Nat) (b : Addr) (ds : List D), as[j]? = some b → xs[j]? = some ds → ∃ vs, H b = some (.lst vs) ∧ vs.length ≤ sizeLine ∧ RepL G.fa K (hid (SS S0 own) H) vs ds) →
        RepL G.fa K (hid (SS S0 (upO own i [])) H) (as.map V.ref) (xs.map D.lst) := fun as => by
      induction as with
      | nil => intro xs l _ _; cases xs with
        | nil => exact .nil
        | cons _ _ => cases l
      | cons b as ih =>
        intro xs l hb hh
        cases xs with
        | nil => cases l
        | cons x xs =>
          obtain ⟨vs, g1, g2, g3⟩ := hh 0 b x rfl rfl
          exact .cons (.lst (vis b (hb b List.mem_cons_self) _ g1) g2 (g3.mono key)) (ih xs (by simpa using l) (fun b hb' => hb b (List.mem_cons_of_mem _ hb')) fun j b ds e1 e2 => hh (j + 1) b ds (by simpa using e1) (by simpa using e2))
    exact go as xs h4 (fun b hb => by rw [h1]; exact List.mem_cons_of_mem _ hb) h6
theorem ER.put' (er : ER G K S0 HF own σ H env) {i : Nat} (hi : i < env.length) {v : V} {d : D} (r : Rep G.fa K (hid (SS S0 own) H) v d) : ∃ own', ER G K S0 HF own' (σ.set i (some v)) H (env.set i (.sh d)) := by
  obtain ⟨own', er', hl⟩ := er.release i
  have r' : Rep G.fa K (hid (SS S0 own') H) v d := r.mono (Le.of (hid_mono (Same.refl _) fun a _ _ z => z.imp id fun ⟨j, w⟩ => ⟨j, hl j a w⟩))
  have hf : freeze env i = env.set i (match env[i]? with | some s => s.un | none => .em) := by
    unfold freeze
    cases q : env[i]? with
    | none => rw [List.getElem?_eq_getElem hi] at q; cases q
    | some s => rfl
  have ho : isOwn (freeze env i)[i]? = false := by
    rw [hf, List.getElem?_set_self hi]
    cases env[i]? with
    | none => rfl
    | some s => cases s <;> rfl
  have er2 := er'.put (by rw [hf, List.length_set]; exact hi) ho r'
  rw [hf, List.set_set] at er2
  exact ⟨own', er2⟩
end
end Pu
end
section
set_option maxRecDepth 100000
set_option maxHeartbeats 1000000
namespace Pu
open PySem PySem.Spec PyProof.Rows L2 L2H
def Caught (H : Hp) (D : Addr) (p : Addr × Obj) : Prop := p.2.cls = .ref D ∧ (∃ vs, p.2.data = .fields vs) ∧ (p.2.dict = none ∨ ∃ dd fs, p.2.dict = some dd ∧ H dd = some (.xd fs))
theorem Caught.later {H H' : Hp} {D : Addr} {p : Addr × Obj} (h : Caught H D p) (s : Same H H') : Caught H' D p := ⟨h.1, h.2.1, h.2.2.imp id fun ⟨dd, fs, e1, e2⟩ => ⟨dd, fs, e1, s _ _ e2⟩⟩
structure ClsF (K : PySem.W.Frag) (cl : Nat → Addr) : Prop where
  ec : ∀ k, k < 11 → ExcC K (cl k)
  ki : ∀ k j, k < 11 → j < 11 → PySem.W.kitOne K (.ref (cl k)) (.ref (cl j)) = some (decide (k = j))
  kv : ∀ k, k < 11 → PySem.W.kitOne K (.ref (cl k)) (.type "ValueError") = some true
  em : ∀ k, k < 11 → PySem.W.exmOne K (.ref (cl k)) (.ref (cl 11)) = some true
  en : ∀ k, k < 11 → PySem.W.exmOne K (.ref (cl k)) (.ref (cl 4)) = some (decide (k = 4))
structure FnP (P : Program) (w : World) (K : PySem.W.Frag) (mg : Str → Option Value) (base : Heap) (k : Nat) (f : Addr) (fd : FuncData) (ps : List Str) (p : Addr × Obj) (sp : Sp) : Prop where
  len : ∀ (xs : List V) (H : Hp) (Q : VK) (E : XK), sp xs H Q E → xs.length = ps.length
  run : ∀ (A : Around) (outer : List PySem.Env) (s : Shared) (H : Hp) (args : Args) (us : List Value) (vs : List V) (Q : VK), RoomH k A → Hot1 A p → PinOk outer H s p → Env0 P w K mg base A outer s H → BindsTo s fd args (ps.zip us) → Vals vs us → sp vs H Q (fun _ _ _ => False) →
    codeAny (model P w) A (.call (.ref f) args) (CR (L2N.CX P w) outer P w H s Q (fun _ _ _ => False)) s
def spW (cl : Nat → Addr) (p : Addr × Obj) (k : Nat) : Sp := fun vs H Q _ => vs = [.ref p.1] ∧ Caught H (cl k) p ∧ ∀ q H', Same H H' → H q = none → H' q = some (.tup [.str sRefused, .int k]) → Q (.ref q) H'
def WhOk (X : Cx) (cl : Nat → Addr) (x : Str) : Prop := ClsF X.K cl ∧ ∃ f fd e, X.mg x = some (.ref f) ∧ PySem.W.keepIn X.K (.ref f) = true ∧ Binds X.K fd [e] [] ∧ ∀ p k, k < 11 → FnP X.prog X.w X.K X.mg X.base 1 f fd [e] p (spW cl p k)
def spI (C : Addr) : Sp := fun vs H Q _ => ∃ (e : Addr) (v : V), vs = [.ref e, v] ∧ H e = some (exo e C none) ∧ ∀ dx, H dx = none → dx ≠ e → Q .non (upd (upd H dx (exd dx [(xNumber, v)])) e (exo e C (some dx)))
structure NrOk (X : Cx) (C : Addr) : Prop where
  T : OexC X.K C
  hno : PySem.W.findIn X.K (.ref C) xNumber = some none
  ini : ∃ fI fd ps, PySem.W.findIn X.K (.ref C) "__init__" = some (some (.ref fI)) ∧ PySem.W.typeIn X.K (.ref fI) = some (.type "function") ∧ FnOk X.prog X.w X.K X.mg X.base (L2N.CX X.prog X.w) 1 fI fd ps (spI C) ∧ Binds X.K fd ps []
end Pu
end
section
set_option maxRecDepth 100000
set_option maxHeartbeats 1000000
namespace Pu
open PySem PySem.Spec L2
structure Sok (c : Cfg) (G : Gc) (P : Pr) (X : Cx) (n : Nat) (W : WX) : Prop where
  ok : Cok c G P X n
  tk : L2N.Takes X W
  po : PassesOwn (model X.prog X.w) X.A X.env X.xe
  bk : X.env.blockKind = .function
  fnT : ∀ x, X.fn x = true
  cls : ∀ k x, (k, x) ∈ c.cls → X.mg x = some (.ref (G.cl k)) ∧ PySem.W.keepIn X.K (.ref (G.cl k)) = true ∧ (k ≠ 4 → Raises X (.ref (G.cl k)) ∧ PySem.W.excIn X.K (G.cl k) [.type "ValueError", .type "Exception", .type "BaseException", .type "object"] "ValueError.__new__" = true)
  wh : ∀ x, x ∈ c.wh → WhOk X G.cl x
  fs : X.stack = X.env :: X.outer ∧ X.env.frame = some X.env.locals
  nr : c.nr = true → NrOk X (G.cl 4)
section
variable {c : Cfg} {G : Gc} {P : Pr} {X : Cx} {n : Nat} {W : WX}
theorem Sok.hp (so : Sok c G P X n W) : ∀ σ, PassesAt (L2N.CX X.prog X.w) X σ (WE W σ) := fun σ => L2N.passAt so.tk σ
def isLc : Expr → Bool
  | .ListComp _ _ _ _ => true
  | .SetComp _ _ _ _ => true
  | .DictComp _ _ _ _ _ => true
  | _ => false
theorem swaps_no {x : Expr} {t : Option Expr} {l : Nat} {env : PySem.Env} (h : isLc x = false) : swapsWith x t l env = pure false := by
  cases x <;> first | rfl | cases h
theorem swaps_sub {x a b : Expr} {p : Pos} {l : Nat} {env : PySem.Env} : swapsWith x (some (.Subscript a b p)) l env = pure false := by
  cases x <;> rfl
theorem swaps_tup {x : Expr} {xs : List Expr} {k : Nat} {p : Pos} {l : Nat} {env : PySem.Env} : swapsWith x (some (.Tuple xs k p)) l env = pure false := by
  cases x <;> rfl
def isComp : E → Bool
  | .comp _ _ _ _ => true
  | _ => false
theorem S_asg (so : Sok c G P X n W) {e : E} {x : Expr} {i : Nat} {y : Str} {py pos : Pos} (h : mE c X.N e X.env.scope x = true) (hi : X.N[i]? = some y) (hl : locB X.env.scope y = true) (hc : isLc x = true → isComp e = true) (env : Env) :
    PS X (.Assign [.Name y py] x pos) (tAsg (tE G X.K W env (evE P env e) (frE e)) (gName i)) := by
  have he := (sE (P := P) e X W x so.ok so.hp h).1 env
  have plain : swapsWith x (some (.Name y py)) pos.line X.env = pure false → PS X (.Assign [.Name y py] x pos) (tAsg (tE G X.K W env (evE P env e) (frE e)) (gName i)) := fun hs =>
    ps_set so.ok.nd hi (loc_of hl) he hs (.inl (so.fnT y))
  cases hx : isLc x with
  | false => exact plain (swaps_no hx)
  | true =>
    have hc := hc hx
    cases e with
    | comp elt tg it cnd =>
      unfold mE at h
      split at h
      · rename_i xe xt xi ifs k scope pos'
        simp only [decide_eq_true_eq, Bool.and_eq_true] at h
        obtain ⟨⟨⟨⟨⟨⟨⟨hk, hb⟩, ho⟩, ht⟩, hpx⟩, hit⟩, hcn⟩, he'⟩ := h
        subst hk
        cases hB : (X.env.blockKind == ScopeKind.function && X.env.kindOf y == some NameKind.local && py.line == pos'.line && !scope.names.any fun x => match x with | (n, k) => n == y && (k == NameKind.local || k == NameKind.cell)) with
        | false => exact plain (congrArg (fun b => (pure b : Sem Bool)) hB)
        | true =>
          have hs : swapsWith (.ListComp xe [⟨xt, xi, ifs, 0⟩] scope pos') (some (.Name y py)) pos.line X.env = pure true := congrArg (fun b => (pure b : Sem Bool)) hB
          have hloc : X.env.scope.names.lookup y = some .local := by
            simp only [Bool.and_eq_true] at hB
            have := hB.1.1.2
            exact eq_of_beq this
          have cp : CompOk G P X elt tg cnd (frE elt) xe xt ifs scope (ownN X.N tg.ids) := ⟨blkOk_by hb, ho, fun s H C cl fp env => L_tg (X := X.blk s H scope (compEnvC scope cl C X.env) fp) (fnB := fnBof scope) so.ok.nd so.ok.calm (fun x z => z) ht env,
            fun s H C cl fp env => (sO cnd).2 _ _ ifs (so.ok.blk s H scope _ fp) (takes_blk s H scope _ fp) hcn env, fun s H C cl fp env => (sE elt _ _ xe (so.ok.blk s H scope _ fp) (takes_blk s H scope _ fp) he').1 env⟩
          by_cases hki : ∃ i, it = .keys i
          · obtain ⟨i', e⟩ := hki
            subst e
            unfold mI at hit
            split at hit
            · simp only [Bool.and_eq_true, decide_eq_true_eq] at hit
              exact L_compKS so.ok hi hloc hit.1 hit.2 cp hs
            · cases hit
          · exact L_compS so.ok hi hloc (sI it _ _ xt xi so.ok so.hp hit (fun i e => hki ⟨i, e⟩) env) cp hpx hs
      · cases h
    | _ => cases hc
theorem S_set (so : Sok c G P X n W) {e : E} {x : Expr} {i : Nat} {y : Str} {py pos : Pos} (h : mE c X.N e X.env.scope x = true) (hi : X.N[i]? = some y) (hl : locB X.env.scope y = true) (hc : isLc x = true → isComp e = true) (env : Env) :
    PS X (.Assign [.Name y py] x pos) (tS G X.K W env (evS P env (.set i e))) :=
  PS.imp (S_asg so h hi hl hc env) fun D σ H ⟨S0, HF, own, er, q⟩ => by
    rw [evS] at q
    exact ⟨S0, HF, own, er, FT.step er q fun x d H1 e1 s1 r1 _ er1 q1 => by
      unfold setE at q1
      split at q1
      · rename_i hi'
        obtain ⟨own', er'⟩ := er1.put' hi' r1
        exact q1 _ _ _ er'
      · exact q1.elim⟩
theorem S_own (so : Sok c G P X n W) {e : E} {x : Expr} {i : Nat} {y : Str} {py pos : Pos} (h : mE c X.N e X.env.scope x = true) (hi : X.N[i]? = some y) (hl : locB X.env.scope y = true) (hc : isLc x = true → isComp e = true) (hf : frE e = true) (env : Env) :
    PS X (.Assign [.Name y py] x pos) (tS G X.K W env (evS P env (.own i e))) :=
  PS.imp (S_asg so h hi hl hc env) fun D σ H ⟨S0, HF, own, er, q⟩ => by
    rw [evS] at q
    exact ⟨S0, HF, own, er, FT.step er q fun x d H1 e1 s1 r1 p1 er1 q1 => by
      rw [hf] at p1
      obtain ⟨p, h1, h2, h3⟩ := p1
      subst h1
      have q2 : FT G X.K W S0 HF (Fl.of (setE env i (.ow d)) .nx) D := by
        cases d <;> first | exact q1 | exact q1.elim
      unfold setE at q2
      split at q2
      · rename_i hi'
        exact q2 _ _ _ (er.take s1 hi' h2 h3)
      · exact q2.elim⟩
def isTup : Expr → Bool
  | .Tuple _ _ _ => true
  | _ => false
theorem stores_none {x : Expr} {xs : List Expr} {k : Nat} {p : Pos} {env : PySem.Env} (h : isTup x = false) : swappedStores [.Tuple xs k p] x env = pure none := by
  cases x <;> first | rfl | cases h
theorem S_unp (so : Sok c G P X n W) {e : E} {x : Expr} {is : List Nat} {xs : List Expr} {k : Nat} {py pos : Pos} (h : mE c X.N e X.env.scope x = true) (ht : tgX X.N X.env.scope (fun _ => true) (.many is) (.Tuple xs k py) = true) (hx : isTup x = false) (env : Env) :
    PS X (.Assign [.Tuple xs k py] x pos) (tS G X.K W env (evS P env (.unp is e))) := by
  have g : PG X (.Tuple xs k py) (tgX1 G X.K (.many is)) := ⟨fun pins s' σ H' v u Q I r ⟨env, q⟩ => (L_tg (G := G) so.ok.nd so.ok.calm (fun x _ => so.fnT x) ht env).run pins s' σ H' v u Q I r q⟩
  refine PS.imp (ps_asg ((sE (P := P) e X W x so.ok so.hp h).1 env) g (swaps_tup (x := x) (xs := xs) (k := k) (p := py) (l := pos.line) (env := X.env)) (stores_none hx) rfl) fun D σ H ⟨S0, HF, own, er, q⟩ => ?_
  rw [evS] at q
  exact ⟨S0, HF, own, er, FT.step er q fun x d H1 e1 s1 r1 _ er1 q1 => by
    cases e2 : bindT env (.many is) d with
    | exc c p => exact (bindT_ne c p e2).elim
    | bad => rw [e2] at q1; exact q1.elim
    | ok env' => rw [e2] at q1; exact ⟨env, S0, HF, own, d, env', er1, r1, e2, fun σ' er' _ _ => q1 _ _ _ er'⟩⟩
theorem few_of {x : Expr} {env : PySem.Env} {cpos : Pos} (h : plainX x = true) : ((((backTo cpos (starEach [x] env)).all fun x => !x.1) && (backToKw cpos (keywordEach [] env)).all fun x => x.1.isSome) && decide (([x].length + ([] : List Keyword).length + if ([] : List Keyword).isEmpty = true then 0 else 1) < 30)) = true := by
  rw [star_of (es := []) h]; rfl
theorem ER.owA {K : PySem.W.Frag} {S0 : Addr → Prop} {HF : Hp} {own : Nat → List Addr} {σ : St} {H : Hp} {env : Env} (er : ER G K S0 HF own σ H env) {i : Nat} {ds : List D} (e : env[i]? = some (.ow (.lst ds))) :
    ∃ a vs, own i = [a] ∧ σ[i]? = some (some (.ref a)) ∧ H a = some (.lst vs) ∧ vs.length ≤ sizeLine ∧ RepL G.fa K (hid (SS S0 own) H) vs ds := by
  obtain ⟨a, h1, h2, h3⟩ := er.ow i _ e
  rcases h3 with ⟨vs, ds', h, h4, h5, h6⟩ | ⟨_, _, h, _⟩ | ⟨_, _, h, _⟩
  · cases h; exact ⟨a, vs, h1, h2, h4, h5, h6⟩
  · cases h
  · cases h
theorem S_app (so : Sok c G P X n W) {e : E} {x : Expr} {i : Nat} {y : Str} {py ap cp pos : Pos} (h : mE c X.N e X.env.scope x = true) (hi : X.N[i]? = some y) (hv : visB X.env.scope y = true) (hx : plainX x = true) (hl : (ap.endLine == cp.line) = true) (env : Env) :
    PS X (.Expr (.Call (.Attribute (.Name y py) "append" ap) [x] [] cp) pos) (tS G X.K W env (evS P env (.app i e))) := by
  have he := (sE (P := P) e X W x so.ok so.hp h).1 env
  refine PS.imp (ps_expr (pe_bm PySem.F.plainAttrs_list PySem.F.slot_list_append PySem.F.type_list_append mt_append (pe_var hi (vis_of hv).1 (vis_of hv).2.1 (vis_of hv).2.2) (pa_cons he pa_nil (star_of hx)) (base_of rfl _) (few_of hx) hl (star_of hx) rfl) rfl) fun D σ H ⟨S0, HF, own, er, q⟩ => ?_
  rw [evS] at q
  split at q
  · rename_i ds e0
    obtain ⟨a, vs, h1, h2, h3, h4, h5⟩ := er.owA e0
    refine ⟨_, h2, .inl ⟨rfl, vs, SqL.of h3⟩, S0, HF, own, er, FT.step er q fun v d H1 e1 s1 r1 _ er1 q1 => ?_⟩
    split at q1
    · rename_i hz
      have hl' : vs.length < sizeLine := by rw [h5.length]; exact hz
      refine ⟨a, vs, v, rfl, rfl, s1 _ _ h3, hl', q1 _ _ _ (er1.mut e0 h1 (.inl ⟨vs ++ [v], ds ++ [d], rfl, upd_same, by simp; omega, (h5.later s1).append (.cons r1 .nil)⟩))⟩
    · exact q1.elim
  · exact q.elim
theorem S_ext (so : Sok c G P X n W) {e : E} {x : Expr} {i : Nat} {y : Str} {py ap cp pos : Pos} (h : mE c X.N e X.env.scope x = true) (hi : X.N[i]? = some y) (hv : visB X.env.scope y = true) (hx : plainX x = true) (hl : (ap.endLine == cp.line) = true) (env : Env) :
    PS X (.Expr (.Call (.Attribute (.Name y py) "extend" ap) [x] [] cp) pos) (tS G X.K W env (evS P env (.ext i e))) := by
  have he := (sE (P := P) e X W x so.ok so.hp h).1 env
  refine PS.imp (ps_expr (pe_bm PySem.F.plainAttrs_list PySem.F.slot_list_extend PySem.F.type_list_extend mt_extend (pe_var hi (vis_of hv).1 (vis_of hv).2.1 (vis_of hv).2.2) (pa_cons he pa_nil (star_of hx)) (base_of rfl _) (few_of hx) hl (star_of hx) rfl) rfl) fun D σ H ⟨S0, HF, own, er, q⟩ => ?_
  rw [evS] at q
  split at q
  · rename_i ds e0
    obtain ⟨a, vs, h1, h2, h3, h4, h5⟩ := er.owA e0
    refine ⟨_, h2, .inl ⟨rfl, vs, SqL.of h3⟩, S0, HF, own, er, FT.step er q fun v d H1 e1 s1 r1 _ er1 q1 => ?_⟩
    cases d with
    | lst es =>
      simp only at q1
      split at q1
      · rename_i hz
        cases r1 with | @lst b ws _ g1 g2 g3 => ?_
        have hz' : vs.length + ws.length ≤ sizeLine := by rw [h5.length, g3.length]; exact hz
        refine ⟨a, b, vs, ws, rfl, rfl, s1 _ _ h3, hid_same _ _ g1, hz', q1 _ _ _ (er1.mut e0 h1 (.inl ⟨vs ++ ws, ds ++ es, rfl, upd_same, by simp; omega, (h5.later s1).append g3⟩))⟩
      · exact q1.elim
    | _ => exact q1.elim
  · exact q.elim
theorem S_put (so : Sok c G P X n W) {k v : E} {xk xv : Expr} {i : Nat} {y : Str} {py p2 pos : Pos} (hk : mE c X.N k X.env.scope xk = true) (hv : mE c X.N v X.env.scope xv = true) (hi : X.N[i]? = some y) (hy : visB X.env.scope y = true) (env : Env) :
    PS X (.Assign [.Subscript (.Name y py) xk p2] xv pos) (tS G X.K W env (evS P env (.put i k v))) := by
  have h1 := (sE (P := P) k X W xk so.ok so.hp hk).1 env
  have h2 := (sE (P := P) v X W xv so.ok so.hp hv).1 env
  refine PS.imp (ps_dput so.ok.hu (pe_var hi (vis_of hy).1 (vis_of hy).2.1 (vis_of hy).2.2) h1 h2 swaps_sub) fun D σ H ⟨S0, HF, own, er, q⟩ => ?_
  rw [evS] at q
  split at q
  · rename_i t kvs e0
    refine ⟨S0, HF, own, er, FT.step er q fun w dv H1 e1 s1 r1 _ er1 q1 => ?_⟩
    obtain ⟨a, g1, g2, g3⟩ := er.ow i _ e0
    refine ⟨.ref a, g2, S0, HF, own, er1, FT.step er1 q1 fun u dk H2 e2 s2 r2 _ er2 q2 => ?_⟩
    obtain ⟨kk, e3, q3⟩ := q2.ofO
    split at q3
    · rename_i hz
      obtain ⟨a', g1', _, g3'⟩ := er2.ow i _ e0
      rw [g1] at g1'
      cases g1'
      rcases g3' with ⟨_, _, h, _⟩ | ⟨kv0, _, h, f1, f2, f3⟩ | ⟨kv0, _, h, f1, f2, f3, f4⟩
      · cases h
      · cases h
        simp only [keyOf] at e3
        cases e4 : key1 dk with
        | none => simp only [e4] at e3; cases e3
        | some k1 =>
          rw [e4] at e3
          cases e3
          have el := f3.length
          rw [List.length_map] at el
          have hl : kv0.length < sizeLine := by rw [el]; exact hz
          refine ⟨a, _, rfl, .inl ⟨kv0, k1, f1, key1_of e4 r2, hl, rfl⟩, q3 _ _ _ (er2.mut e0 g1 (.inr (.inl ⟨putK kv0 k1 w, dput kvs [k1] dv, rfl, upd_same, Nat.le_trans (putK_len kv0 k1 w) hl, ?_⟩)))⟩
          rw [← wrap_put]
          exact f3.put [k1] (r1.later s2)
      · cases h
        cases dk with
        | tup xs =>
          simp only [keyOf] at e3
          cases r2 with | @tup b vs _ b1 b2 b3 => ?_
          have ev := keys_of e3 b3
          have hl : kv0.length < sizeLine := by rw [f3.length]; exact hz
          subst ev
          refine ⟨a, _, rfl, .inr ⟨kv0, kk, b, f1, rfl, hid_same _ _ b1, hl, rfl⟩, q3 _ _ _ (er2.mut e0 g1 (.inr (.inr ⟨putK kv0 kk w, dput kvs kk dv, rfl, upd_same, Nat.le_trans (putK_len kv0 kk w) hl, f3.put kk (r1.later s2), ?_⟩)))⟩
          exact putK_keys f4 (by rw [List.length_map] at b2; exact b2)
        | _ => cases e3
    · exact q3.elim
  · exact q.elim
where
  putK_len {α : Type} [DecidableEq α] (kvs : List (α × V)) (k : α) (v : V) : (putK kvs k v).length ≤ kvs.length + 1 := by
    unfold putK
    split
    · rw [List.length_map]; exact Nat.le_succ _
    · simp
  putK_keys {kvs : List (List Key × V)} {k : List Key} {v : V} (h : ∀ p ∈ kvs, p.1.length ≤ sizeLine) (hk : k.length ≤ sizeLine) : ∀ p ∈ putK kvs k v, p.1.length ≤ sizeLine := by
    intro p hp
    unfold putK at hp
    split at hp
    · obtain ⟨p0, h1, h2⟩ := List.mem_map.mp hp
      split at h2
      · subst h2; exact h p0 h1
      · subst h2; exact h p0 h1
    · rcases List.mem_append.mp hp with z | z
      · exact h p z
      · have : p = (k, v) := by simpa using z
        subst this; exact hk
end
end Pu
end
section
set_option maxRecDepth 100000
set_option maxHeartbeats 1000000
namespace Pu
open PySem PySem.Spec L2
section
variable {X : Cx} {G : Gc} {n : Nat}
def rRemD (G : Gc) (K : PySem.W.Frag) : V → List V → Hp → VK → Prop := fun x xs H Q => ∃ l vs ds y d j, x = .ref l ∧ xs = [y] ∧ H l = some (.lst vs) ∧ RepL G.fa K H vs ds ∧ Rep G.fa K H y d ∧ (ck 8 d.py && ds.all (fun y => ck 8 y.py)) = true ∧
  ds.findIdx? (fun y => PyData.eqv y.py d.py) = some j ∧ Q .non (upd H l (.lst (vs.eraseIdx j)))
theorem mt_remD (hr : Room n X.A) : MtM X "list.remove" (rRemD G X.K) := by
  intro pins s σ H x xs v us Q I rx rxs hyp
  obtain ⟨l, vs, ds, y, d, j, ex, ey, hH, rl, ry, hc, hj, q⟩ := hyp
  subst ex ey
  cases rx
  obtain ⟨u, eu, ru⟩ := vals1 rxs
  subst eu
  have hu : X.A.units + 200 < cLine := by have := hr.un; omega
  rw [Bool.and_eq_true, List.all_eq_true] at hc
  obtain ⟨c1, c2⟩ := ck_plain _ _ hc.1
  have pa : PyData.plainAll (D.pys ds) = true := by
    rw [D.pys_eq, plainAll_all, List.all_map, List.all_eq_true]
    exact fun z hz => (ck_plain _ _ (hc.2 z hz)).1
  obtain ⟨z, its, k, r, hl, e⟩ := I.lstM hH
  obtain ⟨as, ra⟩ := Dp.readsAll I _ _ _ (rl.dp pa) r
  obtain ⟨bs, rb⟩ := dp_reads I ry ru c1
  have hp : SeqAt.dataPlace (D.pys ds) d.py = some j := by
    rw [D.pys_eq]
    unfold SeqAt.dataPlace
    rw [List.findIdx?_map]
    exact hj
  refine SeqAt.remove_list_data (vs := its.toArray) ⟨_, e, rfl, k, rfl⟩ (by simpa using ra) rb pa c1 (Nat.lt_of_le_of_lt (Nat.add_le_add_left (Nat.le_trans (Nat.min_le_right _ _) c2) _) (by omega)) hp (by rw [List.size_toArray]; omega) ?_
  refine ⟨.non, _, I.lset (its' := its.eraseIdx j) (t' := s.toks) hH e ?_ (r.eraseIdx j) ?_, rfl, q⟩
  · show its.toArray.eraseIdxIfInBounds j = _
    exact List.eraseIdxIfInBounds_toArray ..
  · exact Nat.le_trans (List.length_eraseIdx_le ..) z
end
section
variable {c : Cfg} {G : Gc} {P : Pr} {X : Cx} {n : Nat} {W : WX}
theorem S_rem (so : Sok c G P X n W) {e : E} {x : Expr} {i : Nat} {y : Str} {py ap cp pos : Pos} (h : mE c X.N e X.env.scope x = true) (hi : X.N[i]? = some y) (hv : visB X.env.scope y = true) (hx : plainX x = true) (hl : (ap.endLine == cp.line) = true) (env : Env) :
    PS X (.Expr (.Call (.Attribute (.Name y py) "remove" ap) [x] [] cp) pos) (tS G X.K W env (evS P env (.rem i e))) := by
  have he := (sE (P := P) e X W x so.ok so.hp h).1 env
  refine PS.imp (ps_expr (pe_bm PySem.F.plainAttrs_list PySem.F.slot_list_remove PySem.F.type_list_remove (mt_remD (G := G) so.ok.room) (pe_var hi (vis_of hv).1 (vis_of hv).2.1 (vis_of hv).2.2) (pa_cons he pa_nil (star_of hx)) (base_of rfl _) (few_of hx) hl (star_of hx) rfl) rfl) fun D' σ H ⟨S0, HF, own, er, q⟩ => ?_
  rw [evS] at q
  split at q
  · rename_i ds e0
    obtain ⟨a, vs, h1, h2, h3, h4, h5⟩ := er.owA e0
    refine ⟨_, h2, .inl ⟨rfl, vs, SqL.of h3⟩, S0, HF, own, er, FT.step er q fun v d H1 e1 s1 r1 _ er1 q1 => ?_⟩
    split at q1
    · rename_i hc
      split at q1
      · rename_i j hj
        refine ⟨a, vs, ds, v, d, j, rfl, rfl, s1 _ _ h3, un_hidL (h5.later s1), un_hid r1, hc, hj, q1 _ _ _ (er1.mut e0 h1 (.inl ⟨vs.eraseIdx j, ds.eraseIdx j, rfl, upd_same, Nat.le_trans (List.length_eraseIdx_le ..) h4, (h5.later s1).eraseIdx j⟩))⟩
      · exact q1.elim
    · exact q1.elim
  · exact q.elim
end
end Pu
end
section
set_option maxRecDepth 100000
set_option maxHeartbeats 1000000
namespace Pu
open PySem PySem.Spec L2
section
variable {X : Cx} {D : Addr} {p : Addr × Obj}
theorem inst_of {pins : List (Addr × Obj)} {σ : St} {H : Hp} {s : Shared} (I : Inv X pins σ H s) (hp : p ∈ X.pn) (h : Caught H D p) : ∃ od, PySem.W.InstAt s.heap p.1 p.2 D od := by
  obtain ⟨h1, ⟨vs, h2⟩, h3⟩ := h
  have at_ := (I.pin p (List.mem_append_left _ hp)).1
  have nc : PySem.W.notCls p.2 = true := by unfold PySem.W.notCls; rw [h2]
  rcases h3 with h3 | ⟨dd, fs, h3, h4⟩
  · exact ⟨none, at_, h1, nc, by rw [h3]; trivial⟩
  · obtain ⟨_, ns, _⟩ := (show ObjOk X.prog X.w H s.heap dd (.xd fs) from I.hok dd _ h4)
    obtain ⟨od, ho, _⟩ := lookIn_ns ns
    exact ⟨some od, at_, h1, nc, by rw [h3]; exact ho⟩
theorem call_isP (C : ExcC X.K D) (hp : p ∈ X.pn) : CallR X (.builtin "isinstance") (fun xs H Q => ∃ c cv b, xs = [.ref p.1, c] ∧ Caught H D p ∧ (∀ u, RelV c u → u = cv) ∧ PySem.W.kitOne X.K (.ref D) cv = some b ∧ Q (.bl b) H) := by
  intro pins s σ H as us Q I r ⟨c, cv, b, ea, hc, hv, e, q⟩
  subst ea
  cases r with | cons r1 r2 => ?_
  cases r2 with | cons r2 r3 => ?_
  cases r3
  cases r1
  rw [hv _ r2]
  obtain ⟨od, J⟩ := inst_of I hp hc
  obtain ⟨cd, hcd, _⟩ := PySem.W.any_some C.hd
  exact PySem.W.kia_one (PySem.W.kitx_exc (by rw [hcd]; rfl) C.hg C.hk C.hs C.ha C.hn C.ht C.hm) I.kIn J e (fun z => nomatch z) fun tk => ⟨.bl b, H, I.kept (t' := tk) fun _ _ z => z, rfl, q⟩
theorem mt_countD (hu : X.A.units + 200 < cLine) : MtR X "list.count" (fun x xs H Q => ∃ a y d ds, x = .ref a ∧ xs = [y] ∧ Dp X.K H (.ref a) (.list ds) ∧ Dp X.K H y d ∧ d.plain = true ∧ PyData.plainAll ds = true ∧ d.depth ≤ 60 ∧ Q (.int (ds.countP fun z => PyData.eqv z d : Nat)) H) := by
  intro pins s σ H x as v us Q I rx r ⟨a, y, d, ds, ex, ea, hl, hy, pd, pl, hd, q⟩
  subst ex ea
  cases rx
  cases r with | cons r1 r2 => ?_
  cases r2
  cases hl with | lst hs ha => ?_
  obtain ⟨its, rv, pl2, _⟩ := I.list hs
  obtain ⟨bs, r3⟩ := Dp.reads I d y _ hy r1
  obtain ⟨as, r4⟩ := Dp.readsAll I ds _ its ha rv
  exact PySem.SeqAt.count_list_data (vs := its.toArray) pl2.isList r4 r3 pl pd (by have := Nat.min_le_right (PyData.depthAll ds) d.depth; omega) ⟨.int _, H, I.tok _, ⟨_, rfl⟩, q⟩
theorem dp_bools (K : PySem.W.Frag) (H : Hp) : ∀ bs : List Bool, DpAll K H (bs.map V.bl) (bs.map PyData.bool)
  | [] => .nil
  | b :: bs => .cons (.bl b) (dp_bools K H bs)
theorem bools_plain : ∀ bs : List Bool, PyData.plainAll (bs.map PyData.bool) = true
  | [] => rfl
  | b :: bs => by simp [PyData.plainAll, PyData.plain, bools_plain bs]
theorem bools_count (bs : List Bool) : (bs.map PyData.bool).countP (fun z => PyData.eqv z (.bool true)) = bs.countP id := by
  rw [List.countP_map]
  congr 1
  funext b
  cases b <;> rfl
end
def isiB (c : Cfg) (sc : Scope) (e : Str) (k : Nat) : Expr → Bool
  | .Call (.Name y _) [.Name z _, .Name t _] [] _ => decide (y = "isinstance") && decide (z = e) && decide ((k, t) ∈ c.cls) && glB sc t
  | _ => false
def isisB (c : Cfg) (sc : Scope) (e : Str) : Nat → List Expr → Bool
  | _, [] => true
  | k, x :: xs => isiB c sc e k x && isisB c sc e (k + 1) xs
def oneB (o m : Str) : Str → Str → Pos → Pos → Bool := fun o' m' ap cp => decide (o = o') && decide (m = m') && (ap.endLine == cp.line)
def whB (c : Cfg) (e o : Str) (sc : Scope) : List Stmt → Bool
  | [.Assign [.Name o1 _] (.List l1 _) _, .Expr (.Call (.Attribute (.Name o2 _) m2 a2) [.List l2 _] [] c2) _, .Expr (.Call (.Attribute (.Name o3 _) m3 a3) [.List l3 _] [] c3) _,
      .If (.BoolOp .Or [.Compare (.Call (.Attribute (.Name o4 _) m4 a4) [.Constant (.bool b4) _ _] [] c4) [op] [.Constant (.int j4) _ _] _, .UnaryOp .Not (.Call (.Name y _) [.Name z _, .Name t _] [] _) _] _) _ [] _,
      .Return (some (.Tuple [.Constant (.str r) _ _, .Call (.Attribute (.Name o5 _) m5 a5) [.Constant (.bool b5) _ _] [] c5] _ _)) _] =>
    decide (o = o1) && isisB c sc e 0 l1 && decide (l1.length = 4) && oneB o "extend" o2 m2 a2 c2 && isisB c sc e 4 l2 && decide (l2.length = 4) && oneB o "extend" o3 m3 a3 c3 && isisB c sc e 8 l3 && decide (l3.length = 3) &&
      oneB o "count" o4 m4 a4 c4 && b4 && decide (.NotEq = op) && decide (1 = j4) && decide ("isinstance" = y) && decide (e = z) && decide ("ValueError" = t) && decide (sRefused = r) && oneB o "index" o5 m5 a5 c5 && b5 &&
      glB sc "isinstance" && decide (("isinstance" : Str) ∈ c.bis) && glB sc "ValueError" && decide (("ValueError" : Str) ∈ c.bis) && visB sc e && visB sc o && locB sc o
  | _ => false
section
variable {c : Cfg} {X : Cx} {cl : Nat → Addr} {p : Addr × Obj} {k0 : Nat} {e o : Str}
structure WhC (c : Cfg) (X : Cx) (cl : Nat → Addr) (p : Addr × Obj) (k0 : Nat) (e o : Str) : Prop where
  F : ClsF X.K cl
  hk : k0 < 11
  hp : p ∈ X.pn
  cls : ∀ k x, (k, x) ∈ c.cls → X.mg x = some (.ref (cl k))
  bi : ∀ x, x ∈ c.bis → X.mg x = none
  N : X.N = [e, o]
  nd : X.N.Nodup
  fnT : ∀ x, X.fn x = true
  hu : X.A.units + 200 < cLine
theorem pe_isi (C : WhC c X cl p k0 e o) {t : Str} {pos p1 p2 p3 : Pos} {u : Value} {v : V} {b : Bool} (hg : glB X.env.scope "isinstance" = true) (hb : ("isinstance" : Str) ∈ c.bis) (hv : visB X.env.scope e = true)
    (ht : PE X (.Name t p3) (tC v)) (hr : ∀ w, RelV v w → w = u) (hk : PySem.W.kitOne X.K (.ref (cl k0)) u = some b) :
    PE X (.Call (.Name "isinstance" p1) [.Name e p2, .Name t p3] [] pos) (fun σ H Q => σ[0]? = some (some (.ref p.1)) ∧ Caught H (cl k0) p ∧ Q (.bl b) H) :=
  PE.imp (pe_callB (call_isP (C.F.ec k0 C.hk) C.hp) (gl_of hg).1 (C.bi _ hb) (by rfl) (pa_cons (pe_var (by rw [C.N]; rfl) (vis_of hv).1 (vis_of hv).2.1 (vis_of hv).2.2) (pa_cons ht pa_nil)) (gl_of hg).2.2 (gl_of hg).2.1) fun σ H Q ⟨h1, h2, q⟩ =>
    ⟨_, h1, v, u, b, rfl, h2, hr, hk, q⟩
def told (k0 k : Nat) : Bool := decide (k0 = k)
theorem pa_isis (C : WhC c X cl p k0 e o) (hg : glB X.env.scope "isinstance" = true) (hb : ("isinstance" : Str) ∈ c.bis) (hv : visB X.env.scope e = true) : ∀ (xs : List Expr) (k : Nat), k + xs.length ≤ 11 → isisB c X.env.scope e k xs = true →
    PA X xs (fun σ H Q => σ[0]? = some (some (.ref p.1)) ∧ Caught H (cl k0) p ∧ Q ((List.range' k xs.length).map fun j => V.bl (told k0 j)) H)
  | [], k, _, _ => PA.imp pa_nil fun σ H Q ⟨_, _, q⟩ => q
  | x :: xs, k, hl, h => by
    rw [List.length_cons] at hl
    unfold isisB at h
    rw [Bool.and_eq_true] at h
    obtain ⟨h1, h2⟩ := h
    unfold isiB at h1
    split at h1
    · simp only [Bool.and_eq_true, decide_eq_true_eq] at h1
      obtain ⟨⟨⟨e1, e2⟩, hm⟩, hgt⟩ := h1
      rw [e1, e2]
      refine PA.imp (pa_cons (pe_isi C (b := told k0 k) hg hb hv (pe_glob (v := .ref (cl k)) (gl_of hgt).1 (C.cls _ _ hm) rfl (gl_of hgt).2.1) (fun w r => r) (C.F.ki k0 k C.hk (by omega))) (pa_isis C hg hb hv xs (k + 1) (by omega) h2) rfl) fun σ H Q ⟨q1, q2, q⟩ => ⟨q1, q2, q1, q2, ?_⟩
      rw [List.length_cons, List.range'_succ] at q
      exact q
    · cases h1
abbrev owns (k0 n : Nat) : List V := (List.range' 0 n).map fun j => V.bl (told k0 j)
theorem owns_add (k0 a b : Nat) : owns k0 a ++ (List.range' a b).map (fun j => V.bl (told k0 j)) = owns k0 (a + b) := by
  have e := List.range'_append_1 (s := 0) (m := a) (n := b)
  rw [Nat.zero_add] at e
  rw [owns, ← List.map_append, e]
theorem owns_bools (k0 n : Nat) : owns k0 n = ((List.range' 0 n).map (told k0)).map V.bl := by
  rw [List.map_map]; rfl
theorem count_one {k0 : Nat} (h : k0 < 11) : ((List.range' 0 11).map (told k0)).countP id = 1 := by
  have : ∀ k : Fin 11, ((List.range' 0 11).map (told k.1)).countP id = 1 := by decide
  exact this ⟨k0, h⟩
theorem owns_get {k0 : Nat} (h : k0 < 11) : (owns k0 11)[k0]? = some (.bl true) ∧ ∀ (m : Nat) (z : V), m < k0 → (owns k0 11)[m]? = some z → z = .bl false := by
  have get : ∀ m, m < 11 → (owns k0 11)[m]? = some (.bl (told k0 m)) := fun m hm => by
    unfold owns
    rw [List.getElem?_map, List.getElem?_range' hm]
    simp
  refine ⟨by rw [get k0 h]; simp [told], fun m z hm e => ?_⟩
  rw [get m (by omega)] at e
  cases e
  have : told k0 m = false := decide_eq_false (by omega)
  rw [this]
theorem wh_walk (C : WhC c X cl p k0 e o) {body : List Stmt} (h : whB c e o X.env.scope body = true) :
    PSs X body (fun D σ H => σ.length = 2 ∧ σ[0]? = some (some (.ref p.1)) ∧ Caught H (cl k0) p ∧ ∀ q H', Same H H' → H q = none → H' q = some (.tup [.str sRefused, .int k0]) → D.rt (.ref q) H') := by
  unfold whB at h
  split at h
  case h_2 => cases h
  rename_i o1 p1 l1 p1b p1c o2 p2 m2 a2 l2 p2b c2 p2c o3 p3 m3 a3 l3 p3b c3 p3c o4 p4 m4 a4 b4 i4 p4b c4 op j4 i4b p4c p4d y py z pz t pt py2 pn pb bd pif r i5 p5 o5 p5b m5 a5 b5 i5b p5c c5 k5 p5d p5e
  simp only [decide_eq_true_eq, Bool.and_eq_true] at h
  obtain ⟨⟨⟨⟨⟨⟨⟨⟨⟨⟨⟨⟨⟨⟨⟨⟨⟨⟨⟨⟨⟨⟨⟨⟨⟨e1, g1⟩, n1⟩, q2⟩, g2⟩, n2⟩, q3⟩, g3⟩, n3⟩, q4⟩, e4⟩, eo⟩, ej⟩, ey⟩, ez⟩, et⟩, er⟩, q5⟩, e5⟩, hg⟩, hb⟩, hgv⟩, hbv⟩, hv⟩, hvo⟩, hlo⟩ := h
  unfold oneB at q2 q3 q4 q5
  simp only [Bool.and_eq_true, decide_eq_true_eq] at q2 q3 q4 q5
  obtain ⟨⟨f2, f2'⟩, f2l⟩ := q2
  obtain ⟨⟨f3, f3'⟩, f3l⟩ := q3
  obtain ⟨⟨f4, f4'⟩, f4l⟩ := q4
  obtain ⟨⟨f5, f5'⟩, f5l⟩ := q5
  subst e1 f2 f2' f3 f3' f4 f4' f5 f5' eo ej ey et er ez
  have pe0 : ∀ pos, PE X (.Name o pos) (tVar 1) := fun pos => pe_var (by rw [C.N]; rfl) (vis_of hvo).1 (vis_of hvo).2.1 (vis_of hvo).2.2
  have ix1 : X.N[1]? = some o := by rw [C.N]; rfl
  have pt0 : ∀ (i : Nat) (p' : Pos), PA X [.Constant (.bool true) i p'] (tCons (tC (.bl true)) tNil) := fun i p' => pa_cons pe_bl pa_nil
  have P1 := pa_isis C hg hb hv l1 0 (by omega) g1
  have P2 := pa_isis C hg hb hv l2 4 (by omega) g2
  have P3 := pa_isis C hg hb hv l3 8 (by omega) g3
  rw [n1] at P1
  rw [n2] at P2
  rw [n3] at P3
  have hbv' : PE X (.Name "ValueError" pt) (tC (.ty "ValueError")) := pe_bltn (gl_of hgv).1 (C.bi _ hbv) (by rfl) rfl (gl_of hgv).2.2 (gl_of hgv).2.1
  subst e4 e5
  have ext := fun (l : List Expr) (pl po : Pos) (ap cp : Pos) (t : TA) (h : PA X l t) (hl : (ap.endLine == cp.line) = true) =>
    pe_bm (X := X) (cpos := cp) (apos := ap) PySem.F.plainAttrs_list PySem.F.slot_list_extend PySem.F.type_list_extend mt_extend (pe0 po) (pa_cons (pe_lst (pos := pl) h) pa_nil) (base_of rfl _) (few_of rfl) hl (star_of rfl) rfl
  have cnt := pe_bm (X := X) (cpos := c4) (apos := a4) PySem.F.plainAttrs_list PySem.F.slot_list_count PySem.F.type_list_count (mt_countD C.hu) (pe0 p4) (pt0 i4 p4b) (base_of rfl _) (few_of rfl) f4l (star_of rfl) rfl
  have ixr := pe_bm (X := X) (cpos := c5) (apos := a5) PySem.F.plainAttrs_list PySem.F.slot_list_index PySem.F.type_list_index mt_index (pe0 p5b) (pt0 i5b p5c) (base_of rfl _) (few_of rfl) f5l (star_of rfl) rfl
  have never : PSs X bd (fun _ _ _ => False) := ⟨fun _ _ _ _ _ _ z => z.elim⟩
  refine PSs.imp (pss_cons (ps_set (i := 1) C.nd ix1 (loc_of hlo) (pe_lst P1) (swaps_no rfl) (.inl (C.fnT o))) (pss_cons (ps_expr (ext l2 p2b p2 a2 c2 _ P2 f2l) rfl) (pss_cons (ps_expr (ext l3 p3b p3 a3 c3 _ P3 f3l) rfl)
    (pss_cons (ps_if (PT.of (pw_or (pt_cmpR op_ne cnt pe_int (marks_of rfl)) (pw_or1 (pt_not (pt_val (pe_isi C hg hb hv hbv' (fun w r => r) (C.F.kv k0 C.hk)) (val_of rfl)))))) never pss_nil)
      (pss_one (ps_ret (pe_tup (pa_cons pe_str (pa_cons ixr pa_nil (star_of rfl)) (star_of rfl))))))))) fun D σ H ⟨hl, h0, hc, q⟩ => ?_
  have olen : ∀ n, (owns k0 n).length = n := fun n => by simp [owns]
  refine ⟨h0, hc, sz_words (by simp), fun a ha => ?_⟩
  have hs1 : (σ.set 1 (some (.ref a)))[1]? = some (some (.ref a)) := List.getElem?_set_self (by omega)
  have hs0 : (σ.set 1 (some (.ref a)))[0]? = some (some (.ref p.1)) := by rw [List.getElem?_set_ne (by decide)]; exact h0
  show tSeq _ _ D (σ.set 1 (some (.ref a))) (upd H a (.lst (owns k0 4)))
  generalize σ.set 1 (some (.ref a)) = σ1 at hs1 hs0
  have step : ∀ (n m : Nat) (Hn : Hp) (Qn : Hp → Prop), Same H Hn → Hn a = some (.lst (owns k0 n)) → n + m ≤ 11 → (∀ H', Same H H' → H' a = some (.lst (owns k0 (n + m))) → Qn H') →
      tBM X.K "list" rExtend (tVar 1) (tCons (tLst (fun σ H Q => σ[0]? = some (some (.ref p.1)) ∧ Caught H (cl k0) p ∧ Q ((List.range' n m).map fun j => V.bl (told k0 j)) H)) tNil) σ1 Hn (fun _ H' => Qn H') := fun n m Hn Qn s1 e1 hm k => by
    refine ⟨_, hs1, .inl ⟨rfl, _, SqL.of e1⟩, hs0, hc.later s1, sz_words (by simp; omega), fun b hb => ⟨a, b, owns k0 n, _, rfl, rfl, (Same.upd hb) _ _ e1, upd_same, sz_words (by simp [olen]; omega), k _ (fun x u ex => ?_) ?_⟩⟩
    · have na : x ≠ a := ne_of_none ex ha
      rw [upd_ne na]
      exact (s1.trans (Same.upd hb)) x u ex
    · rw [upd_same, owns_add]
  refine step 4 4 _ _ (Same.upd ha) upd_same (by decide) fun H2 s2 e2 => step 8 3 _ _ s2 e2 (by decide) fun H3 s3 e3 => ?_
  have dp : DpAll X.K H3 (owns k0 11) (((List.range' 0 11).map (told k0)).map PyData.bool) := by rw [owns_bools]; exact dp_bools _ _ _
  refine ⟨_, hs1, .inl ⟨rfl, _, SqL.of e3⟩, a, .bl true, .bool true, _, rfl, rfl, .lst (SqL.of e3) dp, .bl true, rfl, bools_plain _, by decide, ?_⟩
  rw [bools_count, count_one C.hk]
  refine ⟨rfl, ?_⟩
  refine ⟨false, by simp, hs0, hc.later s3, true, rfl, ?_⟩
  show tRet (tTup (tCons (tC (V.str sRefused)) (tCons (tBM X.K "list" (rIndex X.K) (tVar 1) (tCons (tC (V.bl true)) tNil)) tNil))) D σ1 H3
  obtain ⟨t1, t2⟩ := owns_get C.hk
  refine ⟨_, hs1, .inl ⟨rfl, _, SqL.of e3⟩, a, owns k0 11, .bl true, k0, .bl true, rfl, rfl, SqL.of e3, rfl, ?_, t1, rfl, fun m z hm ez => ?_, sz_words (by simp), fun q' hq => q q' _ (s3.trans (Same.upd hq)) ?_ upd_same⟩
  · rw [List.all_eq_true]
    intro v hv
    obtain ⟨j, _, rfl⟩ := List.mem_map.mp hv
    rfl
  · rw [t2 m z hm ez]; rfl
  · exact none_of s3 hq
end
end Pu
end
section
set_option maxRecDepth 100000
set_option maxHeartbeats 2000000
namespace Pu
open PySem PySem.Spec PyProof.Rows L2 L2H
section
variable {P : Program} {w : World} {K : PySem.W.Frag} {mg : Str → Option Value} {base : Heap} {x qual : Str} {params : Arguments} {body : List Stmt} {scope : Scope} {f : Addr} {fd : FuncData} {p : Addr × Obj}
abbrev Xh (P : Program) (w : World) (K : PySem.W.Frag) (mg : Str → Option Value) (base : Heap) (N : List Str) (qual : Str) (scope : Scope) (f : Addr) (cdv : Value) (A : Around) (outer : List PySem.Env) (s : Shared) (H : Hp) (p : Addr × Obj) : Cx := cxH (L2N.CX P w) P w K mg base N qual scope f cdv A outer s H (fun _ _ _ => False) p
theorem fnP_of {N ps : List Str} {k : Nat} {sp : Sp} (F : FunD K x qual params body scope [] [] f fd) (S : FnScope N ps scope) (len : ∀ vs H Q E, sp vs H Q E → vs.length = ps.length)
    (walk : ∀ (cdv : Value) (A : Around) (outer : List PySem.Env) (s : Shared) (H : Hp) (vs : List V) (Q : VK), RoomH k (A.deeper (envOfC qual scope s.heap.objs.size f cdv)) → sp vs H Q (fun _ _ _ => False) →
      ∃ t, PSs (Xh P w K mg base N qual scope f cdv A outer s H p) body t ∧ t { nx := fun _ H' => Q .non H', rt := Q } (L2.start N vs) H) : FnP P w K mg base (k + 1) f fd ps p sp := by
  obtain ⟨oc, od, dV, kV, doc, pm, an, cdv, ct, osl, e, lk, hcd, _, _⟩ := F.ex
  subst e
  refine ⟨len, fun A outer s H args us vs Q room hot pin e0 hb r hs => ?_⟩
  have kin : K.In s.heap := e0.mod.kin.keeps fun b o z => (e0.bs b o z).1
  have par : ∀ y ∈ ps.zip us, scope.names.lookup y.1 = some .local ∨ (scope.names.lookup y.1 = some .cell ∧ ((cellsFrom (s.heap.objs.size + 1) scope.names []).lookup y.1).isSome = true) := fun y hy =>
    (S.par y.1 (List.of_mem_zip (a := y.1) (b := y.2) hy).1).imp id fun z => ⟨z, PySem.W.cellsFrom_some _ _ _ (.inl z)⟩
  refine codeAny_call_function room.depth (kin _ _ lk) rfl S.co S.gen rfl (PySem.W.codeRec_of kin hcd) (hb _ _ _ _ (wpAny_newFunctionEnv_cells S.kind par fun env ee s1 z => ?_))
  subst ee
  refine ⟨(e0.mod.nolimit.keeps fun b o z => (e0.bs b o z).1).keeps z.toInCall.keep, codeAny_func ?_⟩
  obtain ⟨t, h1, h2⟩ := walk cdv A outer s H vs Q (room.deeper _) hs
  have I : Inv (Xh P w K mg base N qual scope f cdv A outer s H p) [] (L2.start N vs) H s1 := inv_startH S pin e0 (len _ _ _ _ hs) r z
  refine wpAny_mono (h1.run [] s1 _ H _ I h2) (fun fl s' q => ?_) fun e s' q => q
  match fl, q with
  | .ret u, ⟨v, σ', H', J, rv, q⟩ => exact ⟨v, H', J.os, J.bare, J.base, J.hok, rv, q⟩
  | .next, ⟨σ', H', J, q⟩ => exact ⟨.non, H', J.os, J.bare, J.base, J.hok, rfl, q⟩
  | .brk, ⟨_, _, _, q⟩ => exact q.elim
  | .cont, ⟨_, _, _, q⟩ => exact q.elim
end
section
variable {X : Cx} {f : Addr} {fd : FuncData} {e : Str} {p : Addr × Obj} {cl : Nat → Addr} {k : Nat}
theorem run_fnP {pins : List (Addr × Obj)} {σ : L2.St} {H : Hp} {s : Shared} {Q : VK} {u : Value} (F : FnP X.prog X.w X.K X.mg X.base 1 f fd [e] p (spW cl p k)) (hr : RoomH 1 X.A) (hot : Hot1 X.A p) (hp : p ∈ X.pn) (hb : Binds X.K fd [e] []) (I : Inv X pins σ H s) (ru : RelV (.ref p.1) u)
    (h : spW cl p k [.ref p.1] H Q (fun _ _ _ => False)) (no : ∀ er s', ¬ L2N.CX X.prog X.w X.stack H s (fun _ _ _ => False) er s') : wpAny (model X.prog X.w) X.A (call (.ref f) [u]) (EP X pins σ Q) X.xe s := by
  have b := hb s [u] I.kIn rfl
  rw [List.append_nil] at b
  obtain ⟨g1, g2, g3, g4, g5⟩ := I.pin p (List.mem_append_left _ hp)
  refine wpAny_call (codeAny_mono (F.run X.A X.stack s H ⟨[u], []⟩ [u] _ Q hr hot ⟨g1, g2, fun hm => (List.mem_cons.mp (I.stkSub p.1 hm)).elim g3 g4, g5⟩ I.env0 b (.cons ru .nil) h) fun r s' q => ?_)
  match r, q with
  | .error er, q => exact (no er s' q).elim
  | .ok (.ret _), q => exact I.after q
  | .ok .next, q => exact q.elim
  | .ok .brk, q => exact q.elim
  | .ok .cont, q => exact q.elim
theorem cx_no {P : Program} {w : World} {outer : List PySem.Env} {H : Hp} {s : Shared} (er : Value) (s' : Shared) : ¬ L2N.CX P w outer H s (fun _ _ _ => False) er s' := fun ⟨_, _, _, _, _, _, _, _, _, _, _, _, z⟩ => z
theorem pe_which {x n : Str} {i : Nat} {p1 p2 pos : Pos} (F : FnP X.prog X.w X.K X.mg X.base 1 f fd [e] p (spW cl p k)) (hr : RoomH 1 X.A) (hot : Hot1 X.A p) (hp : p ∈ X.pn) (hb : Binds X.K fd [e] []) (hg : glB X.env.scope x = true) (hm : X.mg x = some (.ref f)) (hk : PySem.W.keepIn X.K (.ref f) = true)
    (hi : X.N[i]? = some n) (hv : visB X.env.scope n = true) : PE X (.Call (.Name x p1) [.Name n p2] [] pos) (fun σ H Q => σ[i]? = some (some (.ref p.1)) ∧ spW cl p k [.ref p.1] H Q (fun _ _ _ => False)) := by
  have pa := pa_cons (pe_var (pos := p2) hi (vis_of hv).1 (vis_of hv).2.1 (vis_of hv).2.2) pa_nil
  refine ⟨fun pins s σ H Q I ⟨h1, h2⟩ => wpAny_Call_Name_kw (ld_glob I (gl_of hg).1 hm ?_ (gl_of hg).2.1)⟩
  refine PySem.W.callWith_K (h₀ := X.base) I.ok.mod.kin hk (thn (pa.run pos pins s σ H (fun vs H1 => vs = [.ref p.1] ∧ H1 = H) I ⟨_, h1, rfl, rfl⟩) fun us s1 ⟨vs, H1, I1, r, ev, eH⟩ => ⟨I1.kIn, ?_⟩) rfl rfl
  subst ev eH
  cases r with | cons r1 r2 => ?_
  cases r2
  exact run_fnP F hr hot hp hb I1 r1 h2 (fun er s' => cx_no er s')
end
end Pu
end
section
set_option maxRecDepth 100000
set_option maxHeartbeats 1000000
namespace Pu
open PySem PySem.Spec L2
section
variable {c : Cfg} {G : Gc} {P : Pr} {X : Cx} {n : Nat} {W : WX}
theorem S_ex (so : Sok c G P X n W) {e : E} {x : Expr} {pos : Pos} (h : mE c X.N e X.env.scope x = true) (hx : isLc x = false) (env : Env) : PS X (.Expr x pos) (tS G X.K W env (evS P env (.ex e))) :=
  PS.imp (ps_expr ((sE (P := P) e X W x so.ok so.hp h).1 env) (swaps_no hx)) fun D σ H ⟨S0, HF, own, er, q⟩ => by
    rw [evS] at q
    exact ⟨S0, HF, own, er, FT.step er q fun x d H1 e1 s1 r1 _ er1 q1 => q1 _ _ _ er1⟩
theorem S_doc {i : Str} {j : Nat} {pos p2 : Pos} (env : Env) : PS X (.Expr (.Constant (.str i) j pos) p2) (tS G X.K W env (.nx env)) := PS.imp ps_doc fun D σ H ⟨S0, HF, own, er, q⟩ => q _ _ _ er
theorem Rep.out {S0 : Addr → Prop} {HF : Hp} {own : Nat → List Addr} {σ : St} {H : Hp} {env : Env} {v : V} {d : D} {K : PySem.W.Frag} (r : Rep G.fa K (hid (SS S0 own) H) v d) : Rep G.fa K (hid S0 H) v d := r.mono (Le.of (hid_mono (Same.refl _) fun _ _ _ z => .inl z))
theorem S_ret (so : Sok c G P X n W) {e : E} {x : Expr} {pos : Pos} (h : mE c X.N e X.env.scope x = true) (env : Env) : PS X (.Return (some x) pos) (tS G X.K W env (evS P env (.ret e))) :=
  PS.imp (ps_ret ((sE (P := P) e X W x so.ok so.hp h).1 env)) fun D σ H ⟨S0, HF, own, er, q⟩ => by
    rw [evS] at q
    exact ⟨S0, HF, own, er, FT.step er q fun x d H1 e1 s1 r1 _ er1 q1 => q1 _ _ er1.hf (Rep.out (σ := σ) (HF := HF) (env := env) r1)⟩
theorem S_retn {pos : Pos} (env : Env) : PS X (.Return none pos) (tS G X.K W env (evS P env .retn)) :=
  PS.imp ps_retN fun D σ H ⟨S0, HF, own, er, q⟩ => by
    rw [evS] at q
    exact q _ _ er.hf .non
theorem S_brk {pos : Pos} (env : Env) : PS X (.Break pos) (tS G X.K W env (evS P env .brk)) :=
  PS.imp ps_break fun D σ H ⟨S0, HF, own, er, q⟩ => by
    rw [evS] at q
    exact q _ _ _ er
theorem S_pass {pos : Pos} (env : Env) : PS X (.Pass pos) (tS G X.K W env (evS P env .pass)) :=
  PS.imp ps_pass fun D σ H ⟨S0, HF, own, er, q⟩ => by
    rw [evS] at q
    exact q _ _ _ er
theorem S_rais (so : Sok c G P X n W) {k : Nat} {g m : Str} {j : Nat} {p p2 p3 pos : Pos} (hk : (k, g) ∈ c.cls) (hg : glB X.env.scope g = true) (h4 : k ≠ 4) (env : Env) :
    PS X (.Raise (some (.Call (.Name g p) [.Constant (.str m) j p2] [] p3)) none pos) (tS G X.K W env (evS P env (.rais k))) := by
  obtain ⟨h1, h2, h3⟩ := so.cls k g hk
  obtain ⟨h3, h5⟩ := h3 h4
  refine PS.imp (L2N.ps_raise so.ok.calm so.tk (L2N.pmk_own PySem.F.excBase_ValueError h5 h1 h2 h3 (gl_of hg).1 (gl_of hg).2.1)) fun D σ H ⟨S0, HF, own, er, q⟩ => ?_
  rw [evS] at q
  exact q none σ H er.hf ⟨fun z => (h4 z).elim, fun _ => rfl⟩
theorem S_iff (so : Sok c G P X n W) {t : E} {a b : SL} {x : Expr} {xa xb : List Stmt} {pos : Pos} (h : mE c X.N t X.env.scope x = true) (env : Env)
    (ha : PSs X xa (tS G X.K W env (evSL P env a))) (hb : PSs X xb (tS G X.K W env (evSL P env b))) : PS X (.If x xa xb pos) (tS G X.K W env (evS P env (.iff t a b))) :=
  PS.imp (ps_if ((sE (P := P) t X W x so.ok so.hp h).2 env) ha hb) fun D σ H ⟨S0, HF, own, er, q⟩ => by
    rw [evS] at q
    have q : FT G X.K W S0 HF (Fl.of ((evE P env t).bind asB) fun r => if r then evSL P env a else evSL P env b) D := by
      cases e : evE P env t <;> rw [e] at q <;> exact q
    exact ⟨S0, HF, own, er, FT.stepB er q fun r H1 e1 s1 er1 q1 => by
      cases r with
      | true => exact ⟨S0, HF, own, er1, q1⟩
      | false => exact ⟨S0, HF, own, er1, q1⟩⟩
theorem FT.lift {S0 : Addr → Prop} {HF HF1 : Hp} {fl : Fl} {D D' : Ends} {K : PySem.W.Frag} (s : Same HF HF1) (q : FT G K W S0 HF (match fl with | .nx _ => .bad | .brk e => .nx e | f => f) D) (hrt : D'.rt = D.rt) (hbk : D'.bk = D.nx)
    (hs : ∀ a, S0 a → NT HF a) (n : ∀ e, fl ≠ .nx e) : FT G K W S0 HF1 fl D' := by
  cases fl with
  | nx e => exact (n e rfl).elim
  | ret d => intro v H' s' r; rw [hrt]; exact q v H' (s.trans s') r
  | exc c p => intro dd σ' H' s' e; exact q dd σ' H' (s.trans s') e
  | brk e => intro σ' H' own' er'; rw [hbk]; exact q σ' H' own' (er'.weak s hs)
  | bad => exact q
def bodyX (G : Gc) (K : PySem.W.Frag) (P : Pr) (W : WX) (b : SL) : TS := fun D σ H => ∃ env, tS G K W env (evSL P env b) D σ H
theorem for_go {tg : Tg} {b : SL} {env : Env} {S0 : Addr → Prop} {HF : Hp} {own : Nat → List Addr} {σ : St} {H1 : Hp} {J : L2.It} {ds : List D} {D : Ends} (K : PySem.W.Frag)
    (er : ER G K S0 HF own σ H1 env) (gv : Gives G.fa K J (hid (SS S0 own) H1) ds) (q : FT G K W S0 HF (forL (fun env d => bindT env tg d) (fun env => evSL P env b) ds env) D) :
    ∃ Wv : Nat → Nat → St → Hp → Prop, (∃ m, Wv 0 m σ H1) ∧ ∀ i m σ H, Wv i m σ H → (J.stop i H ∧ D.nx σ H) ∨ (J.go i H ∧ ∃ N : St → Hp → Prop, (∀ σ' H', N σ' H' → ∃ m', m' < m ∧ Wv (i + 1) m' σ' H') ∧ ∀ x H', J.yld i H x H' →
      tgX1 G K tg x σ H' fun σ2 H2 => bodyX G K P W b { nx := N, rt := D.rt, bk := D.nx, ct := N } σ2 H2) := by
  obtain ⟨er1, sF⟩ := er.freezeH
  let N : Nat → St → Hp → Prop := fun i σ2 H2 => i ≤ ds.length ∧ ∃ own2 env2, ER G K S0 (hid (OwnS own) H1) own2 σ2 H2 env2 ∧ FT G K W S0 HF (forL (fun env d => bindT env tg d) (fun env => evSL P env b) (ds.drop i) env2) D
  refine ⟨fun i m σ2 H2 => m = ds.length - i ∧ N i σ2 H2, ⟨ds.length, rfl, Nat.zero_le _, own, env, er1, by rw [List.drop_zero]; exact q⟩, fun i m σ2 H2 ⟨hm, hi, own2, env2, er2, q2⟩ => ?_⟩
  have g2 := gv.2 (SS S0 own2) H2 (fun a o e => by
      obtain ⟨n1, e1⟩ := hid_iff.mp e
      exact er2.hf a o (hid_iff.mpr ⟨fun z => n1 (.inr z), e1⟩)) (fun a z => by
      cases e : hid (SS S0 own) H1 a with
      | none => rfl
      | some o =>
        obtain ⟨n1, e1⟩ := hid_iff.mp e
        rcases z with z | ⟨j, z⟩
        · exact (n1 (.inl z)).elim
        · have := er2.fr j a z
          have e2 : hid (OwnS own) H1 a = some o := hid_iff.mpr ⟨fun z => n1 (.inr z), e1⟩
          rw [e2] at this; cases this) er2.nt
  by_cases hlt : i < ds.length
  · right
    have ed : ds[i]? = some ds[i] := List.getElem?_eq_getElem hlt
    obtain ⟨go, yl⟩ := g2.1 i _ ed
    refine ⟨go, N (i + 1), fun σ' H' p => ⟨_, by omega, rfl, p⟩, fun x H3 hy => ?_⟩
    obtain ⟨s2, rx⟩ := yl x H3 hy
    rw [List.drop_eq_getElem_cons hlt] at q2
    unfold forL at q2
    cases eb : bindT env2 tg ds[i] with
    | bad => rw [eb] at q2; exact q2.elim
    | exc c p => rw [eb] at q2; exact q2.elim
    | ok env3 =>
      rw [eb] at q2
      refine ⟨env2, S0, _, own2, _, env3, er2.same s2, rx, eb, fun σ' er3 _ _ => ⟨env3, S0, _, own2, er3, ?_⟩⟩
      simp only at q2
      cases ef : evSL P env3 b with
      | nx env4 =>
        rw [ef] at q2
        exact fun σ4 H4 own4 er4 => ⟨hlt, own4, env4, er4, q2⟩
      | ret d => rw [ef] at q2; exact FT.lift (fl := .ret d) sF q2 rfl rfl er.s0 (fun e z => nomatch z)
      | exc c p => rw [ef] at q2; exact FT.lift (fl := .exc c p) sF q2 rfl rfl er.s0 (fun e z => nomatch z)
      | brk e => rw [ef] at q2; exact FT.lift (fl := .brk e) sF q2 rfl rfl er.s0 (fun e z => nomatch z)
      | bad => rw [ef] at q2; exact q2.elim
  · left
    have ei : i = ds.length := by omega
    subst ei
    rw [List.drop_length] at q2
    exact ⟨g2.2, q2 _ _ _ (er2.weak sF er.s0)⟩
theorem S_frr (so : Sok c G P X n W) {tg : Tg} {it : Pu.It} {b : SL} {xt xi : Expr} {xb : List Stmt} {pos : Pos} (ht : tgX X.N X.env.scope (fun _ => true) tg xt = true) (hi : mI c X.N it X.env.scope xt xi = true) (hk : ∀ i, it ≠ .keys i) (hx : plainX xi = true)
    (hb : ∀ env, PSs X xb (tS G X.K W env (evSL P env b))) (env : Env) : PS X (.For xt xi xb [] pos) (tS G X.K W env (evS P env (.frr tg it b))) := by
  have g : PG X xt (tgX1 G X.K tg) := ⟨fun pins s' σ H' v u Q I r ⟨env, q⟩ => (L_tg (G := G) so.ok.nd so.ok.calm (fun x _ => so.fnT x) ht env).run pins s' σ H' v u Q I r q⟩
  have bd : PSs X xb (bodyX G X.K P W b) := ⟨fun pins s σ H D I ⟨env, q⟩ => (hb env).run pins s σ H D I q⟩
  refine PS.imp (ps_for so.po so.ok.calm (sI it X W xt xi so.ok so.hp hi hk env) g bd (fold_of hx)) fun D σ H ⟨S0, HF, own, er, q⟩ => ?_
  rw [evS] at q
  refine ⟨S0, HF, own, er, ?_⟩
  cases e1 : evI P env it with
  | exc c p => rw [e1] at q; exact fun dd H' s e => q dd σ H' (er.hf.trans s) e
  | bad => rw [e1] at q; exact q.elim
  | ok ds =>
    rw [e1] at q
    exact fun J H1 s1 gv => for_go X.K (er.same s1) gv q
def lockW (H0 : Hp) (W : WX) : WX := fun cls d σ H => ∃ a od u, H a = some (.frz od u) ∧ (∀ o x, H0 a ≠ some (.frz o x)) ∧ W cls d σ (upd H a u)
theorem takes_lock (t : L2N.Takes X W) : L2N.Takes X (lockW X.H_0 W) := fun u s' ⟨a, B, sI, pins, σ, H, cls, d, e, I, nb, up, sky, na, os, ag, b, od, u', h1, h2, w⟩ =>
  t u s' ⟨a, B, sI, pins, σ, _, cls, d, e, I.unlock h1 h2, nb, up, sky, by
    have : a ≠ b := fun z => by subst z; rw [na] at h1; cases h1
    rw [upd_ne this]; exact na, os, ag, w⟩
theorem Sok.lock (so : Sok c G P X n W) : Sok c G P X n (lockW X.H_0 W) := ⟨so.ok, takes_lock so.tk, so.po, so.bk, so.fnT, so.cls, so.wh, so.fs, so.nr⟩
theorem S_frK (so : Sok c G P X n W) {tg : Tg} {i : Nat} {b : SL} {xt : Expr} {y : Str} {py : Pos} {xb : List Stmt} {pos : Pos} (ht : tgX X.N X.env.scope (fun _ => true) tg xt = true) (hi : X.N[i]? = some y) (hv : visB X.env.scope y = true)
    (hb : ∀ env, PSs X xb (tS G X.K W env (evSL P env b))) (hb' : ∀ env, PSs X xb (tS G X.K (lockW X.H_0 W) env (evSL P env b))) (env : Env) : PS X (.For xt (.Name y py) xb [] pos) (tS G X.K W env (evS P env (.frr tg (.keys i) b))) := by
  have g : PG X xt (tgX1 G X.K tg) := ⟨fun pins s' σ H' v u Q I r ⟨env, q⟩ => (L_tg (G := G) so.ok.nd so.ok.calm (fun x _ => so.fnT x) ht env).run pins s' σ H' v u Q I r q⟩
  have bd : PSs X xb (bodyX G X.K P W b) := ⟨fun pins s σ H D I ⟨env, q⟩ => (hb env).run pins s σ H D I q⟩
  have bd' : PSs X xb (bodyX G X.K P (lockW X.H_0 W) b) := ⟨fun pins s σ H D I ⟨env, q⟩ => (hb' env).run pins s σ H D I q⟩
  have base := ps_for (pos := pos) so.po so.ok.calm (pi_keys (tg := xt) (pe_var (pos := py) hi (vis_of hv).1 (vis_of hv).2.1 (vis_of hv).2.2)) g bd (fold_of rfl)
  have base' := ps_for (pos := pos) so.po so.ok.calm (pi_keys (tg := xt) (pe_var (pos := py) hi (vis_of hv).1 (vis_of hv).2.1 (vis_of hv).2.2)) g bd' (fold_of rfl)
  refine ⟨fun pins s σ H D I ⟨S0, HF, own, er, q⟩ => ?_⟩
  rw [evS, evI] at q
  unfold getE at q
  split at q
  case h_2 => exact q.elim
  rename_i d ed
  obtain ⟨v, e1, r⟩ := er.sh i d ed
  rw [R.bind_ok] at q
  cases d with
  | dct t kvs =>
    simp only [keysD, Fl.of_ok] at q
    have core : ∀ (W1 : WX) (a : Addr) (o : Obj) (u : HO) (H0 : Hp) (HF0 : Hp) (D0 : Ends), v = .ref a → ER G X.K S0 HF0 own σ H0 env → H0 a = some (.frz o u) → ¬ SS S0 own a →
        ((∃ kv0, t = false ∧ u = .dK kv0 ∧ kv0.length ≤ sizeLine ∧ RepKV G.fa X.K (hid (SS S0 own) H0) (wrap kv0) kvs) ∨ (∃ kv0, t = true ∧ u = .dT kv0 ∧ kv0.length ≤ sizeLine ∧ RepKV G.fa X.K (hid (SS S0 own) H0) kv0 kvs ∧ ∀ p ∈ kv0, p.1.length ≤ sizeLine)) →
        FT G X.K W1 S0 HF0 (forL (fun env d => bindT env tg d) (fun env => evSL P env b) (kvs.map fun kv => keyD t kv.1) env) D0 →
        tFor (iKeys (tVar i)) (tgX1 G X.K tg) (bodyX G X.K P W1 b) D0 σ H0 := fun W1 a o u H0 HF0 D0 ev er0 h0 na hu q0 => by
      subst ev
      refine ⟨_, e1, a, o, rfl, ?_⟩
      rcases hu with ⟨kv0, rfl, rfl, hz, rk⟩ | ⟨kv0, rfl, rfl, hz, rk, hk⟩
      · exact .inl ⟨kv0, h0, for_go X.K er0 ((gives_keys (t := false)).1 kv0 h0 na hz rk) q0⟩
      · exact .inr ⟨kv0, h0, for_go X.K er0 ((gives_keys (t := true)).2 kv0 h0 na hz rk hk) q0⟩
    have fin : ∀ (a : Addr) (u : HO), v = .ref a → Rd (hid (SS S0 own) H) a u → isDct (cont u) = true → (∀ od, cont (.frz od u) = cont u) → Mut (some u) →
        ((∃ kv0, t = false ∧ u = .dK kv0 ∧ kv0.length ≤ sizeLine ∧ RepKV G.fa X.K (hid (SS S0 own) H) (wrap kv0) kvs) ∨ (∃ kv0, t = true ∧ u = .dT kv0 ∧ kv0.length ≤ sizeLine ∧ RepKV G.fa X.K (hid (SS S0 own) H) kv0 kvs ∧ ∀ p ∈ kv0, p.1.length ≤ sizeLine)) →
        wpAny (model X.prog X.w) X.A (exec (.For xt (.Name y py) xb [] pos) X.env) (SP X pins D) X.xe s := fun a u ev rd du cu mu hu => by
      rcases rd with rd | ⟨o, rd⟩
      · obtain ⟨na, ha⟩ := hid_iff.mp rd
        refine (ps_lock base').run pins s σ H D I ⟨a, u, ha, mu, fun od => ?_⟩
        have lf := fun S (_ : ¬ S a) => le_frz (S := S) (od := od) ha du (cu od)
        have er0 := er.swap na lf
        have nown : ¬ OwnS own a := fun z => na (.inr z)
        have hfa : ∀ H', Same (hid (OwnS own) (upd H a (.frz od u))) H' → H' a = some (.frz od u) := fun H' s => s _ _ (hid_iff.mpr ⟨nown, upd_same⟩)
        have back : ∀ H', Same (hid (OwnS own) (upd H a (.frz od u))) H' → Same HF (upd H' a u) := fun H' s b w e => by
          by_cases z : b = a
          · subst z; rw [upd_same]; have := er.hf _ _ e; rw [ha] at this; exact this
          · rw [upd_ne z]
            refine s _ _ (hid_iff.mpr ⟨fun ⟨j, y⟩ => ?_, by rw [upd_ne z]; exact er.hf _ _ e⟩)
            have := er.fr j b y
            rw [e] at this; cases this
        have erb : ∀ {σ' H' own' env'}, ER G X.K S0 (hid (OwnS own) (upd H a (.frz od u))) own' σ' H' env' → ER G X.K S0 HF own' σ' (upd H' a u) env' := fun {σ' H' own' env'} er' => by
          have ha' := hfa H' er'.hf
          have na' : ¬ SS S0 own' a := fun z => by
            rcases z with z | ⟨j, z⟩
            · exact na (.inl z)
            · have := er'.fr j a z
              rw [hid_iff.mpr ⟨nown, upd_same⟩] at this; cases this
          have e2 := er'.swap (o' := u) na' fun S _ => le_unfrz ha' du (cu od)
          refine e2.weak (fun b w e => ?_) er.s0
          refine hid_iff.mpr ⟨fun ⟨j, y⟩ => ?_, back H' er'.hf b w e⟩
          have h1 := er'.fr j b y
          have h2 : hid (OwnS own) (upd H a (.frz od u)) b ≠ none := fun z2 => by
            by_cases z : b = a
            · subst z; rw [hid_iff.mpr ⟨nown, upd_same⟩] at z2; cases z2
            · rw [hid_iff.mpr ⟨fun ⟨k, y'⟩ => (by have := er.fr k b y'; rw [e] at this; cases this), by rw [upd_ne z]; exact er.hf _ _ e⟩] at z2; cases z2
          exact h2 h1
        refine core _ a od u _ _ _ ev er0 upd_same na ?_ ?_
        · rcases hu with ⟨kv0, h1, h2, h3, h4⟩ | ⟨kv0, h1, h2, h3, h4, h5⟩
          · exact .inl ⟨kv0, h1, h2, h3, h4.mono (lf _ na)⟩
          · exact .inr ⟨kv0, h1, h2, h3, h4.mono (lf _ na), h5⟩
        · cases ef : forL (fun env d => bindT env tg d) (fun env => evSL P env b) (kvs.map fun kv => keyD t kv.1) env with
          | nx env' => rw [ef] at q; exact fun σ' H' own' er' => ⟨hfa H' er'.hf, q _ _ _ (erb er')⟩
          | brk env' => rw [ef] at q; exact fun σ' H' own' er' => ⟨hfa H' er'.hf, q _ _ _ (erb er')⟩
          | ret d => rw [ef] at q; exact fun v H' s' r => ⟨hfa H' s', q v _ (back H' s') (r.mono (le_unfrz (hfa H' s') du (cu od)))⟩
          | exc c p =>
            rw [ef] at q
            refine fun dd σ' H' s' ex => ⟨a, od, u, hfa H' s', I.nofrz ha mu, q dd σ' _ (back H' s') ⟨fun z => ?_, ex.2⟩⟩
            obtain ⟨b, w, h1, h2, h3⟩ := ex.1 z
            refine ⟨b, w, h1, ?_, h3⟩
            have : b ≠ a := fun z => by
              subst z
              rw [hfa H' s'] at h2
              cases h2
            rw [upd_ne this]; exact h2
          | bad => rw [ef] at q; exact q.elim
      · obtain ⟨na, ha⟩ := hid_iff.mp rd
        exact base.run pins s σ H D I (core _ a o u H HF D ev er ha na hu q)
    cases r with
    | @dK a kv0 _ hr hz rk => exact fin a _ rfl hr rfl (fun _ => rfl) trivial (.inl ⟨kv0, rfl, rfl, hz, rk⟩)
    | @dT a kv0 _ hr hz rk hk => exact fin a _ rfl hr rfl (fun _ => rfl) trivial (.inr ⟨kv0, rfl, rfl, hz, rk, hk⟩)
  | _ => exact q.elim
end
end Pu
end
section
set_option maxRecDepth 100000
set_option maxHeartbeats 2000000
namespace Pu
open PySem PySem.Spec L2
open PyProof.Rows hiding St
section
variable {X : Cx} {C : Addr}
theorem let_go {H : Hp} {a d C : Addr} {v : V} (ha : H a = none) (hd : H d = none) (ne : d ≠ a) :
    upd (del (upd (upd (upd H a (exo a C none)) d (exd d [(xNumber, v)])) a (exo a C (some d))) a) d (.xd [(xNumber, v)]) = upd H d (.xd [(xNumber, v)]) := funext fun b => by
  by_cases q : b = d
  · subst q; rw [upd_same, upd_same]
  · rw [upd_ne q, upd_ne q]
    by_cases r : b = a
    · subst r; rw [del_same, ha]
    · rw [del_ne r, upd_ne r, upd_ne q, upd_ne r]
theorem pmk_num (N : NrOk X C) (hr : Room 2 X.A) {x : Str} {e : Expr} {te : TE} {p pos : Pos} (hg : glB X.env.scope x = true) (hm : X.mg x = some (.ref C)) (he : PE X e te) (hp : plainX e = true) :
    L2N.PMk X (.Call (.Name x p) [e] [] pos) (fun σ H Q => te σ H fun v H1 => ∀ d, H1 d = none → Q (.ref C) (some d) (upd H1 d (.xd [(xNumber, v)]))) := by
  intro pins s σ H Q I h
  obtain ⟨nm, qn, nN, bs, bm, sn, sub, ab, col, dd, k0, k1, k2, k3, k5, hC, hbm⟩ := N.T.cls
  obtain ⟨fI, fd, ps, iC, tI, fo, hb⟩ := N.ini
  have pa := pa_cons he pa_nil (star_of hp)
  refine wpAny_Call_Name_kw (ld_glob I (gl_of hg).1 hm ?_ (gl_of hg).2.1)
  refine PySem.W.callWith_K (h₀ := X.base) I.ok.mod.kin N.T.kC (thn (pa.run pos pins _ σ H (fun vs H1 => ∃ v, vs = [v] ∧ ∀ d, H1 d = none → Q (.ref C) (some d) (upd H1 d (.xd [(xNumber, v)]))) I (by
    show te σ H _
    have : (fun v H1 => ∀ d, H1 d = none → Q (.ref C) (some d) (upd H1 d (.xd [(xNumber, v)]))) = fun (x : V) (H' : Hp) => (fun vs H1 => ∃ v, vs = [v] ∧ ∀ d, H1 d = none → Q (.ref C) (some d) (upd H1 d (.xd [(xNumber, v)]))) (x :: []) H' := by
      funext v H1
      exact propext ⟨fun z => ⟨v, rfl, z⟩, fun ⟨v', e, z⟩ => by cases e; exact z⟩
    rw [this] at h
    exact h)) fun us s1 ⟨vs, H1, I1, r1, v, ev, q⟩ => ⟨I1.kIn, ?_⟩) (star_of hp) rfl
  subst ev
  cases r1 with | @cons _ u _ _ rv r0 => ?_
  cases r0
  obtain ⟨hp1, g1, dr, tk, os⟩ := s1
  have hsz : hp1.objs.size ≤ hp1.objs.size + 1 := Nat.le_succ _
  have kp : ∀ b o, hp1.get? b = some o → ((hp1.push (PySem.W.kdv_tup [u])).push (PySem.HandSPX.excO C hp1.objs.size)).get? b = some o := fun b o z => Heap.get?_push_of_some _ (Heap.get?_push_of_some _ z)
  have at1 : ((hp1.push (PySem.W.kdv_tup [u])).push (PySem.HandSPX.excO C hp1.objs.size)).get? (hp1.objs.size + 1) = some (PySem.HandSPX.excO C hp1.objs.size) := by heap_get
  have new : H1 (hp1.objs.size + 1) = none := I1.hok.fresh hsz
  have I2 : Inv X pins σ (upd H1 (hp1.objs.size + 1) (exo (hp1.objs.size + 1) C none)) ⟨(hp1.push (PySem.W.kdv_tup [u])).push (PySem.HandSPX.excO C hp1.objs.size), g1, dr, tk, os⟩ :=
    I1.laid (t' := tk) (o := exo (hp1.objs.size + 1) C none) kp hsz (exo_ok at1)
  let Done : V → Hp → Prop := fun w H2 => w = .non ∧ ∃ d, H2 (hp1.objs.size + 1) = some (exo (hp1.objs.size + 1) C (some d)) ∧ H2 d = some (exd d [(xNumber, v)]) ∧ H1 d = none ∧ Q (.ref C) (some d) (upd (del H2 (hp1.objs.size + 1)) d (.xd [(xNumber, v)]))
  have hs : spI C [.ref (hp1.objs.size + 1), v] (upd H1 (hp1.objs.size + 1) (exo (hp1.objs.size + 1) C none)) Done (fun _ _ _ => False) := ⟨_, v, rfl, upd_same, fun d hd ne => by
    rw [upd_ne ne] at hd
    refine ⟨rfl, d, upd_same, by rw [upd_ne ne, upd_same], hd, ?_⟩
    rw [let_go new hd ne]
    exact q d hd⟩
  have hl := fo.len _ _ _ _ hs
  have b2 := hb _ [Value.ref (hp1.objs.size + 1), u] I2.kIn hl
  rw [List.append_nil] at b2
  change wpAny (model X.prog X.w) X.A (call (.ref C) [u]) _ _ _
  refine wpAny_call (PySem.HandSPX.call_own PySem.F.excBase_ValueError (fun Y => PySem.HandSPX.refsVE_contains Y bm hbm) (I1.kIn _ _ hC) (PySem.W.looks_findIn I1.kIn iC) (fun self => PySem.W.bind_fn I1.kIn self tI) (sz_words (by simp))
    (codeAny_mono (fo.run _ X.stack _ _ ⟨[.ref (hp1.objs.size + 1), u], []⟩ [.ref (hp1.objs.size + 1), u] [.ref (hp1.objs.size + 1), v] Done (fun _ _ _ => False) (hr.make C [u] []) (I2.env0.make C [u] []) b2 (.cons rfl (.cons rv .nil)) hs) fun r s2 z => ?_))
  match r, z with
  | .error er, z => exact (cx_no er s2 z).elim
  | .ok .next, z => exact z.elim
  | .ok .brk, z => exact z.elim
  | .ok .cont, z => exact z.elim
  | .ok (.ret w), ⟨_, H2, o2, bare, un, hok, rw', ew, d, e1, e2, e3, q2⟩ =>
    subst ew
    obtain ⟨h2, g2, d2, t2, os2⟩ := s2
    obtain ⟨t0, Gh, J, kG, gn, hoe, na⟩ := mk_end0 (d2 := d2) (t2 := t2) I1 hsz kp un hok o2 bare e1 e2 e3
    exact ⟨rw', _, _, _, ⟨Gh, g2, d2, t2, os2⟩, _, .ref C, some d, rfl, J, kG, gn, hoe, ⟨rfl, rfl, fun vs hv => by cases hv; rfl⟩, rfl, rfl, na, rfl, bare, raises_own N.T.exC N.T.tyC, q2⟩
end
section
variable {c : Cfg} {G : Gc} {P : Pr} {X : Cx} {n : Nat} {W : WX}
theorem num_eq (P : Pr) (env : Env) (k : Nat) (e : E) : evS P env (.raisn k e) = Fl.of (evE P env e) fun d => match d with
    | .non => .exc k .non
    | .int i => .exc k (.int i)
    | _ => .bad := by rw [evS] <;> rfl
theorem S_raisn (so : Sok c G P X n W) (N : NrOk X (G.cl 4)) {g : Str} {e : E} {x : Expr} {p p3 pos : Pos} (hk : (4, g) ∈ c.cls) (hg : glB X.env.scope g = true) (he : mE c X.N e X.env.scope x = true) (hp : plainX x = true) (env : Env) :
    PS X (.Raise (some (.Call (.Name g p) [x] [] p3)) none pos) (tS G X.K W env (evS P env (.raisn 4 e))) := by
  refine PS.imp (L2N.ps_raise so.ok.calm so.tk (pmk_num N (so.ok.room.mono (by omega)) hg (so.cls 4 g hk).1 ((sE (P := P) e X W x so.ok so.hp he).1 env) hp)) fun D σ H ⟨S0, HF, own, er, q⟩ => ⟨S0, HF, own, er, ?_⟩
  rw [num_eq] at q
  refine FT.step er q fun v d H1 e1 s1 r1 _ er1 q1 dd hd => ?_
  have fin : ∀ pl, VP v pl → FT G X.K W S0 HF (.exc 4 pl) D → W (.ref (G.cl 4)) (some dd) σ (upd H1 dd (.xd [(xNumber, v)])) := fun pl vp q => q (some dd) σ _ (er1.hf.trans (Same.upd hd)) ⟨fun _ => ⟨dd, v, rfl, upd_same, vp⟩, fun z => (z rfl).elim⟩
  cases d with
  | non => cases r1; exact fin .non (.inl ⟨rfl, rfl⟩) q1
  | int i => cases r1; exact fin (.int i) (.inr ⟨i, rfl, rfl⟩) q1
  | _ => exact q1.elim
end
def oexB (K : PySem.W.Frag) (C : Addr) : Bool := (match K.lookup C with
  | some ⟨.type "type", _, .cls k, sl⟩ => (match k.mro, sl.toList with
    | .ref C' :: bm, [_, _, _, _, some (.builtin nw), _] => decide (C' = C) && decide (nw = "ValueError.__new__") && !k.hasDel && k.hasDict && PySem.HandSPX.refsVE bm
    | _, _ => false)
  | _ => false) && He.eqO (PySem.W.findIn K (.ref C) "__setattr__") (some (some (.builtin "object.__setattr__"))) && decide (PySem.W.subIn K (.ref C) (.type "BaseException") = some true) && decide (PySem.W.typeIn K (.ref C) = some (.type "type")) && PySem.W.keepIn K (.ref C)
theorem oexB_ok {K : PySem.W.Frag} {C : Addr} (h : oexB K C = true) : OexC K C := by
  unfold oexB at h
  simp only [decide_eq_true_eq, Bool.and_eq_true] at h
  obtain ⟨⟨⟨⟨h, h2⟩, h3⟩, h4⟩, h5⟩ := h
  refine ⟨?_, He.eqO_ok h2, h3, h4, h5⟩
  split at h
  · rename_i dd cd sl ho
    split at h
    · rename_i C' bm k0 k1 k2 k3 nw k5 hm hs
      simp only [decide_eq_true_eq, Bool.and_eq_true, Bool.not_eq_true'] at h
      obtain ⟨⟨⟨⟨g1, g2⟩, g3⟩, g4⟩, g5⟩ := h
      subst g1 g2
      obtain ⟨nm, bs, mr, ns, qn, hd, sn, sub, ab, col, dl⟩ := cd
      dsimp only at hm g3 g4
      subst hm g3 g4
      have hsl : sl = #[k0, k1, k2, k3, some (.builtin "ValueError.__new__"), k5] := by
        obtain ⟨l⟩ := sl
        simp only at hs
        rw [hs]
      subst hsl
      exact ⟨nm, qn, ns, bs, bm, sn, sub, ab, col, dd, k0, k1, k2, k3, k5, ho, g5⟩
    · cases h
  · cases h
def iniB (a b : Str) (sc : Scope) : List Stmt → Bool
  | [.Assign [.Attribute (.Name a' _) f _] (.Name b' _) _] => decide (a' = a) && decide (f = xNumber) && decide (b' = b) && visB sc a && visB sc b
  | _ => false
theorem ini_ok {P : Program} {w : World} {K : PySem.W.Frag} {mg : Str → Option Value} {base : Heap} {x qual a b : Str} {params : Arguments} {body : List Stmt} {scope : Scope} {f C : Addr} {fd : FuncData} (F : FunD K x qual params body scope [] [] f fd) (S : FnScope [a, b] [a, b] scope) (h : iniB a b scope body = true)
    (T : OexC K C) (hno : PySem.W.findIn K (.ref C) xNumber = some none) : FnOk P w K mg base (L2N.CX P w) 1 f fd [a, b] (spI C) := by
  unfold iniB at h
  split at h
  · rename_i a' p1 f' p2 b' p3 p4
    simp only [decide_eq_true_eq, Bool.and_eq_true] at h
    obtain ⟨⟨⟨⟨g1, g2⟩, g3⟩, g4⟩, g5⟩ := h
    subst g1 g2 g3
    refine F.ok (CX := L2N.CX P w) (k := 0) S (fun vs H Q E z => ?_) fun cdv A outer s H vs Q E hr hs => ?_
    · obtain ⟨e, v, z, _⟩ := z
      subst z
      rfl
    · obtain ⟨e, v, z, he, q⟩ := hs
      subst z
      let X := cxOf (L2N.CX P w) P w K mg base [a', b'] qual scope f cdv A outer s H E
      refine ⟨_, pss_one (ps_ost (X := X) (pe_var (i := 0) rfl (vis_of g4).1 (vis_of g4).2.1 (vis_of g4).2.2) (pe_var (i := 1) rfl (vis_of g5).1 (vis_of g5).2.1 (vis_of g5).2.2)), ?_⟩
      exact ⟨v, rfl, .ref e, rfl, e, C, rfl, T, hno, .inl ⟨he, fun dx hd ne => q dx hd ne⟩⟩
  · cases h
end Pu
end
section
set_option maxRecDepth 100000
set_option maxHeartbeats 1000000
namespace Pu
open PySem PySem.Spec L2
section
variable {c : Cfg} {G : Gc} {P : Pr} {X : Cx} {n : Nat} {W : WX}
theorem S_whl (so : Sok c G P X n W) {k : Nat} {t : E} {b : SL} {x : Expr} {xb : List Stmt} {pos : Pos} (ht : mE c X.N t X.env.scope x = true) (hb : ∀ env, PSs X xb (tS G X.K W env (evSL P env b))) (env : Env) :
    PS X (.While x xb [] pos) (tS G X.K W env (evS P env (.whl k t b))) := by
  have h1 : PT X x (fun σ H Q => ∃ env, tT G X.K W env ((evE P env t).bind asB) σ H Q) := ⟨fun pins s σ H Q I ⟨env, q⟩ => ((sE (P := P) t X W x so.ok so.hp ht).2 env).run pins s σ H Q I q⟩
  have bd : PSs X xb (bodyX G X.K P W b) := ⟨fun pins s σ H D I ⟨env, q⟩ => (hb env).run pins s σ H D I q⟩
  refine PS.imp (ps_while so.po h1 bd) fun D σ H ⟨S0, HF, own, er, q⟩ => ?_
  rw [evS] at q
  obtain ⟨er1, sF⟩ := er.freezeH
  refine ⟨fun m σ2 H2 => ∃ own2 env2, ER G X.K S0 (hid (OwnS own) H) own2 σ2 H2 env2 ∧ FT G X.K W S0 HF (whileL (fun env => (evE P env t).bind asB) (fun env => evSL P env b) m env2) D, ⟨k, own, env, er1, q⟩, fun m σ2 H2 ⟨own2, env2, er2, q2⟩ => ?_⟩
  cases m with
  | zero => exact q2.elim
  | succ m =>
    unfold whileL at q2
    refine ⟨env2, S0, _, own2, er2, ?_⟩
    cases e1 : (evE P env2 t).bind asB with
    | exc c p => rw [e1] at q2; exact fun dd H' s e => q2 dd σ2 H' (sF.trans (er2.hf.trans s)) e
    | bad => rw [e1] at q2; exact q2.elim
    | ok r =>
      rw [e1, Fl.of_ok] at q2
      intro r' H3 s3 e3
      subst e3
      cases r' with
      | false => exact q2 _ _ _ ((er2.same s3).weak sF er.s0)
      | true =>
        rw [if_pos rfl] at q2 ⊢
        refine ⟨fun σ' H' => ∃ own2 env2, ER G X.K S0 (hid (OwnS own) H) own2 σ' H' env2 ∧ FT G X.K W S0 HF (whileL (fun env => (evE P env t).bind asB) (fun env => evSL P env b) m env2) D, fun σ' H' p => ⟨m, Nat.lt_succ_self m, p⟩, env2, S0, _, own2, er2.same s3, ?_⟩
        cases ef : evSL P env2 b with
        | nx env4 => rw [ef] at q2; exact fun σ4 H4 own4 er4 => ⟨own4, env4, er4, q2⟩
        | ret d => rw [ef] at q2; exact FT.lift (fl := .ret d) sF q2 rfl rfl er.s0 (fun e z => nomatch z)
        | exc c p => rw [ef] at q2; exact FT.lift (fl := .exc c p) sF q2 rfl rfl er.s0 (fun e z => nomatch z)
        | brk e => rw [ef] at q2; exact FT.lift (fl := .brk e) sF q2 rfl rfl er.s0 (fun e z => nomatch z)
        | bad => rw [ef] at q2; exact q2.elim
theorem S_popto (so : Sok c G P X n W) {i j : Nat} {y z : Str} {py pz ap cp pos : Pos} (hi : X.N[i]? = some y) (hv : visB X.env.scope y = true) (hj : X.N[j]? = some z) (hl : locB X.env.scope z = true) (ha : (ap.endLine == cp.line) = true) (env : Env) :
    PS X (.Assign [.Name z pz] (.Call (.Attribute (.Name y py) "pop" ap) [] [] cp) pos) (tS G X.K W env (evS P env (.popto j i))) := by
  refine PS.imp (ps_set so.ok.nd hj (loc_of hl) (pe_bm0 PySem.F.plainAttrs_list PySem.F.slot_list_pop PySem.F.type_list_pop mt_pop (pe_var hi (vis_of hv).1 (vis_of hv).2.1 (vis_of hv).2.2) (base_of rfl _) ha) (swaps_no rfl) (.inl (so.fnT z))) fun D σ H ⟨S0, HF, own, er, q⟩ => ?_
  rw [evS] at q
  split at q
  · rename_i ds e0
    obtain ⟨a, vs, h1, h2, h3, h4, h5⟩ := er.owA e0
    split at q
    · rename_i d ed
      split at q
      · rename_i ne
        have ed' : ds[ds.length - 1]? = some d := by rw [← List.getLast?_eq_getElem?]; exact ed
        obtain ⟨v, g1, g2⟩ := h5.get ed'
        refine ⟨_, h2, .inl ⟨rfl, vs, SqL.of h3⟩, a, vs, v, rfl, rfl, h3, by rw [h5.length]; exact g1, ?_⟩
        have er1 := er.mut (o' := .lst vs.dropLast) (d' := .lst ds.dropLast) e0 h1 (.inl ⟨vs.dropLast, ds.dropLast, rfl, upd_same, by rw [List.length_dropLast]; omega, h5.dropLast⟩)
        unfold setE at q
        split at q
        · rename_i hj'
          have sa : SS S0 own a := .inr ⟨i, by rw [h1]; exact List.mem_cons_self⟩
          obtain ⟨own', er2⟩ := er1.put' hj' (v := v) (d := d) (by rw [hid_upd sa]; exact g2)
          exact q _ _ _ er2
        · exact q.elim
      · exact q.elim
    · exact q.elim
  · exact q.elim
def tNews : Nat → TA
  | 0 => tNil
  | k + 1 => tCons (tLst tNil) (tNews k)
theorem pa_news : ∀ (k : Nat) {xs : List Expr}, xs.length = k → (xs.all fun x => match x with | .List [] _ => true | _ => false) = true → PA X xs (tNews k)
  | 0, [], _, _ => pa_nil
  | 0, _ :: _, h, _ => by cases h
  | k + 1, [], h, _ => by cases h
  | k + 1, x :: xs, h, hx => by
    rw [List.all_cons, Bool.and_eq_true] at hx
    obtain ⟨h1, h2⟩ := hx
    split at h1
    · exact pa_cons (pe_lst pa_nil) (pa_news k (by simpa using h) h2) rfl
    · cases h1
theorem news_go : ∀ (k : Nat) {σ : St} {H : Hp} {Q : List V → Hp → Prop}, (∀ (as : List Addr) (H' : Hp), as.length = k → Same H H' → as.Nodup → (∀ a ∈ as, H a = none ∧ H' a = some (.lst [])) → Q (as.map .ref) H') → tNews k σ H Q
  | 0, σ, H, Q, h => h [] H rfl (Same.refl H) .nil fun _ z => nomatch z
  | k + 1, σ, H, Q, h => ⟨Nat.zero_le _, fun p hp => news_go k fun as H' hl s nd hh => by
      refine h (p :: as) H' (by simp [hl]) ((Same.upd hp).trans s) (List.nodup_cons.mpr ⟨fun z => ?_, nd⟩) fun a ha => ?_
      · have := (hh p z).1
        rw [upd_same] at this; cases this
      · rcases List.mem_cons.mp ha with z | z
        · subst z; exact ⟨hp, s _ _ upd_same⟩
        · obtain ⟨g1, g2⟩ := hh a z
          exact ⟨none_of (Same.upd hp) g1, g2⟩⟩
theorem ER.take2 {K : PySem.W.Frag} {S0 : Addr → Prop} {HF : Hp} {own : Nat → List Addr} {σ : St} {H H1 : Hp} {env : Env} (er : ER G K S0 HF own σ H env) (s : Same H H1) {i k : Nat} (hi : i < env.length) (hk : k ≤ 1000) {p : Addr} {as : List Addr} (hp : H p = none) (hl : as.length = k) (nd : (p :: as).Nodup)
    (h1 : H1 p = some (.lst (as.map .ref))) (ha : ∀ a ∈ as, H a = none ∧ H1 a = some (.lst [])) : ER G K S0 HF (upO own i (p :: as)) (σ.set i (some (.ref p))) H1 (env.set i (.o2 (List.replicate k []))) := by
  have fr : ∀ a, a ∈ p :: as → H a = none := fun a z => by
    cases List.mem_cons.mp z with
    | inl z => subst z; exact hp
    | inr z => exact (ha a z).1
  have nown : ∀ j a, a ∈ own j → a ∉ p :: as := fun j a z q => by
    obtain ⟨u, e, _⟩ := er.tr j a z
    rw [fr a q] at e; cases e
  have key : Le (hid (SS S0 own) H) (hid (SS S0 (upO own i (p :: as))) H1) := Le.of (hid_mono s fun a u e z => by
    rcases z with z | ⟨j, z⟩
    · exact .inl z
    · rcases mem_upO z with ⟨_, z⟩ | ⟨_, z⟩
      · rw [fr a z] at e; cases e
      · exact .inr ⟨j, z⟩)
  refine ⟨by rw [List.length_set, List.length_set]; exact er.len, fun j d' e => ?_, fun j d' e => ?_, fun j xs e => ?_, fun j a z => ?_, fun j => ?_, fun j k a z1 z2 => ?_, er.hf.trans s, fun j a z => ?_, fun j a z => ?_, er.s0⟩
  · rcases set_get e with ⟨rfl, e'⟩ | ⟨ne, e'⟩
    · cases e'
    · obtain ⟨v, h1, h2⟩ := er.sh j d' e'
      exact ⟨v, by rw [List.getElem?_set_ne ne]; exact h1, h2.mono key⟩
  · rcases set_get e with ⟨rfl, e'⟩ | ⟨ne, e'⟩
    · cases e'
    · obtain ⟨a, h1, h2, h3⟩ := er.ow j d' e'
      exact ⟨a, by rw [upO_ne (Ne.symm ne)]; exact h1, by rw [List.getElem?_set_ne ne]; exact h2, h3.mono (s a) key⟩
  · rcases set_get e with ⟨rfl, e'⟩ | ⟨ne, e'⟩
    · cases e'
      refine ⟨p, as, upO_self, by rw [List.getElem?_set_self (er.lt hi)], h1, by rw [List.length_replicate]; exact hl, by rw [List.length_replicate]; exact hk, fun j b ds e1 e2 => ?_⟩
      have : ds = [] := by
        rw [List.getElem?_replicate] at e2
        split at e2
        · exact (Option.some.inj e2).symm
        · cases e2
      subst this
      exact ⟨[], (ha b (List.mem_of_getElem? e1)).2, Nat.zero_le _, .nil⟩
    · obtain ⟨a, as', h1, h2, h3, h4, h5, h6⟩ := er.o2 j xs e'
      refine ⟨a, as', by rw [upO_ne (Ne.symm ne)]; exact h1, by rw [List.getElem?_set_ne ne]; exact h2, s _ _ h3, h4, h5, fun k b ds e1 e2 => ?_⟩
      obtain ⟨vs, g1, g2, g3⟩ := h6 k b ds e1 e2
      exact ⟨vs, s _ _ g1, g2, g3.mono key⟩
  · rcases mem_upO z with ⟨rfl, z⟩ | ⟨ne, z⟩
    · rw [List.getElem?_set_self hi]; rfl
    · rw [List.getElem?_set_ne (Ne.symm ne)]; exact er.no j a z
  · unfold upO; split
    · exact nd
    · exact er.nd j
  · rcases mem_upO z1 with ⟨e1, y1⟩ | ⟨e1, y1⟩
    · rcases mem_upO z2 with ⟨e2, y2⟩ | ⟨e2, y2⟩
      · rw [e1, e2]
      · exact (nown k a y2 y1).elim
    · rcases mem_upO z2 with ⟨e2, y2⟩ | ⟨e2, y2⟩
      · exact (nown j a y1 y2).elim
      · exact er.inj j k a y1 y2
  · rcases mem_upO z with ⟨_, z⟩ | ⟨_, z⟩
    · exact none_of er.hf (fr a z)
    · exact er.fr j a z
  · rcases mem_upO z with ⟨_, z⟩ | ⟨_, z⟩
    · cases List.mem_cons.mp z with
      | inl z => subst z; exact ⟨_, h1, fun _ z => nomatch z⟩
      | inr z => exact ⟨_, (ha a z).2, fun _ z => nomatch z⟩
    · obtain ⟨u, e, nt⟩ := er.tr j a z
      exact ⟨u, s a u e, nt⟩
theorem S_own2 (so : Sok c G P X n W) {i k : Nat} {y : Str} {xs : List Expr} {py p2 pos : Pos} (hi : X.N[i]? = some y) (hl : locB X.env.scope y = true) (hn : xs.length = k) (hk : k ≤ 1000) (hx : (xs.all fun x => match x with | .List [] _ => true | _ => false) = true) (env : Env) :
    PS X (.Assign [.Name y py] (.List xs p2) pos) (tS G X.K W env (evS P env (.own2 i k))) := by
  refine PS.imp (ps_set so.ok.nd hi (loc_of hl) (pe_lst (pa_news k hn hx)) (swaps_no rfl) (.inl (so.fnT y))) fun D σ H ⟨S0, HF, own, er, q⟩ => ?_
  rw [evS] at q
  refine news_go k fun as H' hlen s nd hh => ⟨by rw [List.length_map, hlen]; exact sz_words hk, fun p hp => ?_⟩
  unfold setE at q
  split at q
  · rename_i hi'
    have np : p ∉ as := fun z => by
      have := (hh p z).2
      rw [hp] at this; cases this
    exact q _ _ _ (er.take2 (s.trans (Same.upd hp)) hi' hk (none_of s hp) hlen (List.nodup_cons.mpr ⟨np, nd⟩) upd_same fun a z => ⟨(hh a z).1, by
      have ne : a ≠ p := fun w => np (by rw [← w]; exact z)
      rw [upd_ne ne]; exact (hh a z).2⟩)
  · exact q.elim
theorem S_app2 (so : Sok c G P X n W) {k e : E} {xk x : Expr} {i : Nat} {y : Str} {py p2 ap cp pos : Pos} (hk : mE c X.N k X.env.scope xk = true) (h : mE c X.N e X.env.scope x = true) (hi : X.N[i]? = some y) (hv : visB X.env.scope y = true) (hxk : plainX xk = true) (hx : plainX x = true) (hl : (ap.endLine == cp.line) = true) (env : Env) :
    PS X (.Expr (.Call (.Attribute (.Subscript (.Name y py) xk p2) "append" ap) [x] [] cp) pos) (tS G X.K W env (evS P env (.app2 i k e))) := by
  have he := (sE (P := P) e X W x so.ok so.hp h).1 env
  have hk := (sE (P := P) k X W xk so.ok so.hp hk).1 env
  refine PS.imp (ps_expr (pe_bm PySem.F.plainAttrs_list PySem.F.slot_list_append PySem.F.type_list_append mt_append (pe_ix ix_list (pe_var hi (vis_of hv).1 (vis_of hv).2.1 (vis_of hv).2.2) hk (ix_of hxk)) (pa_cons he pa_nil (star_of hx)) (base_of rfl _) (few_of hx) hl (star_of hx) rfl) rfl) fun D σ H ⟨S0, HF, own, er, q⟩ => ?_
  rw [evS] at q
  split at q
  · rename_i xs e0
    obtain ⟨a, as, h1, h2, h3, h4, h5, h6⟩ := er.o2 i xs e0
    refine ⟨_, h2, S0, HF, own, er, FT.step er q fun vk dk H1 e1 s1 r1 _ er1 q1 => ?_⟩
    cases dk with
    | int kk =>
      cases r1
      simp only at q1
      split at q1
      · rename_i j ej
        have hjlt : j < as.length := by
          rw [h4]
          exact ixN_lt ej
        have eb : as[j]? = some as[j] := List.getElem?_eq_getElem hjlt
        have ex : xs[j]? = some (xs.getD j []) := by
          rw [List.getD_eq_getElem?_getD, List.getElem?_eq_getElem (by rw [← h4]; exact hjlt)]; rfl
        obtain ⟨vs, g1, g2, g3⟩ := h6 j _ _ eb ex
        have eat : atI (as.map V.ref) kk = some (.ref as[j]) := by
          unfold atI
          rw [List.length_map, h4, ej]
          simp [eb]
        refine ⟨a, _, kk, _, rfl, rfl, SqL.of (s1 _ _ h3), eat, .inl ⟨rfl, vs, SqL.of (s1 _ _ g1)⟩, S0, HF, own, er1, FT.step er1 q1 fun v d H2 e2 s2 r2 _ er2 q2 => ?_⟩
        cases d with
        | str z =>
          cases r2
          simp only at q2
          split at q2
          · rename_i hz
            have hvl : vs.length < 1000 := by rw [g3.length]; exact hz
            have s12 := s1.trans s2
            refine ⟨as[j], vs, .str z, rfl, rfl, s12 _ _ g1, Nat.lt_of_lt_of_le hvl (sz_words (Nat.le_refl _)), q2 σ _ own ?_⟩
            have bm : as[j] ∈ own i := by rw [h1]; exact List.mem_cons_of_mem _ (List.getElem_mem hjlt)
            have sb : SS S0 own as[j] := .inr ⟨i, bm⟩
            have heq := hid_upd (H := H2) (o := .lst (vs ++ [V.str z])) sb
            have hi' : i < env.length := (List.getElem?_eq_some_iff.mp e0).1
            have other : ∀ j' b, b ∈ own j' → j' ≠ i → b ≠ as[j] := fun j' b z ne q => ne (er2.inj j' i b z (q ▸ bm))
            have ndo : (a :: as).Nodup := h1 ▸ er2.nd i
            refine ⟨by rw [List.length_set]; exact er2.len, fun m d1 f1 => ?_, fun m d1 f1 => ?_, fun m xs1 f1 => ?_, fun m b w => ?_, er2.nd, er2.inj, fun b u w => ?_, er2.fr, fun m b w => ?_, er2.s0⟩
            · rcases set_get f1 with ⟨rfl, e'⟩ | ⟨ne, e'⟩
              · cases e'
              · obtain ⟨v, k1, k2⟩ := er2.sh m d1 e'
                exact ⟨v, k1, by rw [heq]; exact k2⟩
            · rcases set_get f1 with ⟨rfl, e'⟩ | ⟨ne, e'⟩
              · cases e'
              · obtain ⟨b, k1, k2, k3⟩ := er2.ow m d1 e'
                exact ⟨b, k1, k2, by rw [heq]; exact k3.mono (fun u w => by rw [upd_ne (other m b (by rw [k1]; exact List.mem_cons_self) (Ne.symm ne))]; exact w) (Le.of (Same.refl _))⟩
            · rcases set_get f1 with ⟨rfl, e'⟩ | ⟨ne, e'⟩
              · cases e'
                obtain ⟨a', as', k1, k2, k3, k4, k5, k6⟩ := er2.o2 i xs e0
                rw [h1] at k1
                cases k1
                have na : a ≠ as[j] := fun z => (List.nodup_cons.mp ndo).1 (z ▸ List.getElem_mem hjlt)
                refine ⟨a, as, h1, k2, by rw [upd_ne na]; exact k3, by rw [List.length_set]; exact h4, by rw [List.length_set]; exact h5, fun m b ds w1 w2 => ?_⟩
                rw [heq]
                by_cases q : j = m
                · subst q
                  rw [eb] at w1
                  cases w1
                  rw [List.getElem?_set_self (by rw [← h4]; exact hjlt)] at w2
                  cases w2
                  refine ⟨vs ++ [.str z], upd_same, by rw [List.length_append]; exact sz_words (by simp; omega), ?_⟩
                  obtain ⟨vs', l1, l2, l3⟩ := k6 j _ _ eb ex
                  rw [s12 _ _ g1] at l1
                  cases l1
                  exact l3.append (.cons (.str z) .nil)
                · rw [List.getElem?_set_ne q] at w2
                  obtain ⟨vs', l1, l2, l3⟩ := k6 m b ds w1 w2
                  have nb : b ≠ as[j] := fun z => by
                    have hm := (List.getElem?_eq_some_iff.mp w1)
                    obtain ⟨hm1, hm2⟩ := hm
                    exact q ((List.getElem_inj (List.nodup_cons.mp ndo).2).mp (by rw [hm2, z]))
                  exact ⟨vs', by rw [upd_ne nb]; exact l1, l2, l3⟩
              · obtain ⟨b, as', k1, k2, k3, k4, k5, k6⟩ := er2.o2 m xs1 e'
                refine ⟨b, as', k1, k2, by rw [upd_ne (other m b (by rw [k1]; exact List.mem_cons_self) (Ne.symm ne))]; exact k3, k4, k5, fun k b' ds w1 w2 => ?_⟩
                obtain ⟨vs', l1, l2, l3⟩ := k6 k b' ds w1 w2
                exact ⟨vs', by rw [upd_ne (other m b' (by rw [k1]; exact List.mem_cons_of_mem _ (List.mem_of_getElem? w1)) (Ne.symm ne))]; exact l1, l2, by rw [heq]; exact l3⟩
            · by_cases q : i = m
              · subst q; rw [List.getElem?_set_self hi']; rfl
              · rw [List.getElem?_set_ne q]; exact er2.no m b w
            · have : b ≠ as[j] := fun z => by
                have := er2.fr i as[j] bm
                rw [← z, w] at this; cases this
              rw [upd_ne this]; exact er2.hf b u w
            · by_cases q : b = as[j]
              · subst q; exact ⟨_, upd_same, fun _ z => nomatch z⟩
              · obtain ⟨u, e1, nt⟩ := er2.tr m b w
                exact ⟨u, by rw [upd_ne q]; exact e1, nt⟩
          · exact q2.elim
        | _ => exact q2.elim
      · exact q1.elim
    | _ => exact q1.elim
  · exact q.elim
where
  ixN_lt {n : Nat} {i : Int} {j : Nat} (h : ixN n i = some j) : j < n := (ixN_seq h).2.1
end
end Pu
end
section
set_option maxRecDepth 100000
set_option maxHeartbeats 1000000
namespace Pu
open PySem PySem.Spec L2
section
variable {c : Cfg} {G : Gc} {P : Pr} {X : Cx} {n : Nat} {W : WX}
theorem ER.lt' {K : PySem.W.Frag} {S0 : Addr → Prop} {HF : Hp} {own : Nat → List Addr} {σ : St} {H : Hp} {env : Env} (er : ER G K S0 HF own σ H env) {i : Nat} {v : Option V} (e : σ[i]? = some v) : i < env.length := by
  rw [← er.len]; exact (List.getElem?_eq_some_iff.mp e).1
theorem S_exall (so : Sok c G P X n W) {t i j : Nat} {y z x : Str} {p1 p2 p3 p4 ap cp p5 pos : Pos} (ht : X.N[t]? = some x) (hlt : locB X.env.scope x = true) (hvt : visB X.env.scope x = true) (hi : X.N[i]? = some y) (hv : visB X.env.scope y = true) (hj : X.N[j]? = some z) (hvj : visB X.env.scope z = true) (hl : (ap.endLine == cp.line) = true) (env : Env) :
    PS X (.For (.Name x p1) (.Name y p2) [.Expr (.Call (.Attribute (.Name z p3) "extend" ap) [.Name x p4] [] cp) p5] [] pos) (tS G X.K W env (evS P env (.exall t i j))) := by
  have body := pss_one (ps_expr (pos := p5) (pe_bm (apos := ap) (cpos := cp) PySem.F.plainAttrs_list PySem.F.slot_list_extend PySem.F.type_list_extend (mt_extend (X := X)) (pe_var (pos := p3) hj (vis_of hvj).1 (vis_of hvj).2.1 (vis_of hvj).2.2) (pa_cons (pe_var (pos := p4) ht (vis_of hvt).1 (vis_of hvt).2.1 (vis_of hvt).2.2) pa_nil rfl) (base_of rfl _) (few_of rfl) hl rfl rfl) rfl)
  refine PS.imp (ps_for (pos := pos) so.po so.ok.calm (pi_list (tg := .Name x p1) (pe_var (pos := p2) hi (vis_of hv).1 (vis_of hv).2.1 (vis_of hv).2.2)) (pg_name (pos := p1) so.ok.nd ht (loc_of hlt) (.inl (so.fnT x))) body (fold_of rfl)) fun D σ H ⟨S0, HF, own, er, q⟩ => ?_
  rw [evS] at q
  split at q
  case h_2 => exact q.elim
  rename_i ds e0
  split at q
  case isFalse => exact q.elim
  rename_i ne
  obtain ⟨n1, n2, n3⟩ := ne
  obtain ⟨a, vs, h1, h2, h3, h4, h5⟩ := er.owA e0
  cases eF : exAll t j ds env with
  | exc k p => rw [eF] at q; exact (exAll_ne ds env k p eF).elim
  | bad => rw [eF] at q; exact q.elim
  | ok envF =>
  rw [eF] at q
  refine ⟨_, h2, a, rfl, ⟨vs, SqL.of h3⟩, fun k m σ2 H2 => m = ds.length - k ∧ k ≤ ds.length ∧ ∃ env2, ER G X.K S0 HF own σ2 H2 env2 ∧ env2[i]? = some (.ow (.lst ds)) ∧ exAll t j (ds.drop k) env2 = .ok envF, ⟨ds.length, rfl, Nat.zero_le _, env, er, e0, eF⟩, fun k m σ2 H2 ⟨hm, hk, env2, er2, e2, q2⟩ => ?_⟩
  obtain ⟨a', vs', g1, g2, g3, g4, g5⟩ := er2.owA e2
  obtain rfl : a = a' := by rw [h1] at g1; cases g1; rfl
  by_cases hlt : k < ds.length
  · right
    have ed : ds[k]? = some ds[k] := List.getElem?_eq_getElem hlt
    obtain ⟨v, ev, rv⟩ := g5.get ed
    rw [List.drop_eq_getElem_cons hlt] at q2
    unfold exAll at q2
    have eS : ∃ es xs, ds[k] = .lst es ∧ env2[j]? = some (.ow (.lst xs)) ∧ t < env2.length ∧ isOwn env2[t]? = false ∧ xs.length + es.length ≤ sizeLine ∧ exAll t j (ds.drop (k + 1)) ((env2.set t (.sh (.lst es))).set j (.ow (.lst (xs ++ es)))) = .ok envF := by
      unfold exStep at q2
      split at q2
      · rename_i h
        simp only [Bool.and_eq_true, decide_eq_true_eq, Bool.not_eq_true'] at h
        split at q2
        · rename_i es xs e1 e3
          split at q2
          · rename_i hz
            have q2 : exAll t j (ds.drop (k + 1)) ((env2.set t (.sh ds[k])).set j (.ow (.lst (xs ++ es)))) = .ok envF := q2
            rw [e1] at q2
            exact ⟨es, xs, e1, e3, h.1, h.2, hz, q2⟩
          · cases q2
        · cases q2
      · cases q2
    obtain ⟨es, xs, e1, e3, tl, tn, hz, q3⟩ := eS
    rw [e1] at ed rv
    have g6 := SqL.of (K := X.K) g3
    refine ⟨⟨vs', v, g6, ev⟩, fun σ' H' => k + 1 ≤ ds.length ∧ ∃ env2, ER G X.K S0 HF own σ' H' env2 ∧ env2[i]? = some (.ow (.lst ds)) ∧ exAll t j (ds.drop (k + 1)) env2 = .ok envF, fun σ' H' p => ⟨_, by omega, rfl, p⟩, fun w H3 ⟨eH, hy⟩ => ?_⟩
    subst eH
    have := hy vs' g6
    rw [ev] at this
    cases this
    have er3 := er2.put tl tn rv
    have e4 : (env2.set t (.sh (.lst es)))[j]? = some (.ow (.lst xs)) := by rw [List.getElem?_set_ne n2]; exact e3
    obtain ⟨b, us, b1, b2, b3, b4, b5⟩ := er3.owA e4
    cases rv with | @lst l ws _ r1 r2 r3 => ?_
    have hw : us.length + ws.length ≤ sizeLine := by rw [b5.length, r3.length]; exact hz
    have et : (σ2.set t (some (.ref l)))[t]? = some (some (.ref l)) := List.getElem?_set_self (er2.lt tl)
    refine ⟨.ref b, b2, .inl ⟨rfl, us, SqL.of b3⟩, .ref l, et, b, l, us, ws, rfl, rfl, b3, hid_same _ _ r1, hw, ?_⟩
    have er4 := er3.mut (o' := .lst (us ++ ws)) (d' := .lst (xs ++ es)) e4 b1 (.inl ⟨us ++ ws, xs ++ es, rfl, upd_same, by simp; omega, b5.append r3⟩)
    exact ⟨hlt, _, er4, by rw [List.getElem?_set_ne (Ne.symm n3), List.getElem?_set_ne n1]; exact e2, q3⟩
  · left
    have ek : k = ds.length := by omega
    subst ek
    rw [List.drop_length] at q2
    cases q2
    exact ⟨⟨vs', SqL.of g3, by rw [g5.length]; exact Nat.le_refl _⟩, q _ _ _ er2⟩
where
  exStep_ne (t j : Nat) (env : Env) (d : D) (c : Nat) (p : D) : exStep t j env d ≠ .exc c p := by
    unfold exStep
    split
    · split
      · split <;> first | exact ok_ne | exact bad_ne
      · exact bad_ne
    · exact bad_ne
  exAll_ne {t j : Nat} (ds : List D) (env : Env) : ∀ (c : Nat) (p : D), exAll t j ds env ≠ .exc c p := by
    induction ds generalizing env with
    | nil => exact fun c p => ok_ne
    | cons d ds ih => exact bind_ne (exStep_ne t j env d) fun e => ih e
theorem S_apop (so : Sok c G P X n W) {k : E} {xk : Expr} {i j : Nat} {y z : Str} {p1 p2 ap1 cp1 ap2 cp2 pos : Pos} (hk : mE c X.N k X.env.scope xk = true) (hi : X.N[i]? = some y) (hv : visB X.env.scope y = true) (hj : X.N[j]? = some z) (hvj : visB X.env.scope z = true) (hx : plainX xk = true) (hl1 : (ap1.endLine == cp1.line) = true) (hl2 : (ap2.endLine == cp2.line) = true) (env : Env) :
    PS X (.Expr (.Call (.Attribute (.Name y p1) "append" ap1) [.Call (.Attribute (.Name z p2) "pop" ap2) [xk] [] cp2] [] cp1) pos) (tS G X.K W env (evS P env (.apop i j k))) := by
  have hk := (sE (P := P) k X W xk so.ok so.hp hk).1 env
  have pop := pe_bm (apos := ap2) (cpos := cp2) PySem.F.plainAttrs_list PySem.F.slot_list_pop PySem.F.type_list_pop (mt_popAt (X := X)) (pe_var (pos := p2) hj (vis_of hvj).1 (vis_of hvj).2.1 (vis_of hvj).2.2) (pa_cons hk pa_nil (star_of hx)) (base_of rfl _) (few_of hx) hl2 (star_of hx) rfl
  refine PS.imp (ps_expr (pe_bm PySem.F.plainAttrs_list PySem.F.slot_list_append PySem.F.type_list_append mt_append (pe_var (pos := p1) hi (vis_of hv).1 (vis_of hv).2.1 (vis_of hv).2.2) (pa_cons pop pa_nil (star_of rfl)) (base_of rfl _) (few_of rfl) hl1 (star_of rfl) rfl) rfl) fun D σ H ⟨S0, HF, own, er, q⟩ => ?_
  rw [evS] at q
  split at q
  case h_2 => exact q.elim
  rename_i ds es e0 e1
  obtain ⟨a, vs, h1, h2, h3, h4, h5⟩ := er.owA e0
  obtain ⟨b, ws, g1, g2, g3, g4, g5⟩ := er.owA e1
  refine ⟨_, h2, .inl ⟨rfl, vs, SqL.of h3⟩, _, g2, .inl ⟨rfl, ws, SqL.of g3⟩, S0, HF, own, er, FT.step er q fun v d H1 e2 s1 r1 _ er1 q1 => ?_⟩
  cases d with
  | int kk =>
    cases r1
    simp only at q1
    split at q1
    case h_2 => exact q1.elim
    rename_i m em
    split at q1
    case h_2 => exact q1.elim
    rename_i d ed
    split at q1
    case isFalse => exact q1.elim
    rename_i hne
    obtain ⟨w, ew, rw'⟩ := g5.get ed
    have hm : m < ws.length := (List.getElem?_eq_some_iff.mp ew).1
    have e3 : seqIndex? kk ws.length = some m := (ixN_seq (by rw [g5.length]; exact em)).1
    obtain ⟨_, _, bn1, bn2⟩ := ixN_seq em
    have wl : (es.length : Int) ≤ sizeLine := by rw [← g5.length]; exact Int.ofNat_le.mpr g4
    have z : (sizeLine : Int) < 2 ^ 63 := by rw [sizeLine_eq]; decide
    have er2 := er1.mut (o' := .lst (ws.eraseIdx m)) (d' := .lst (es.eraseIdx m)) e1 g1 (.inl ⟨ws.eraseIdx m, es.eraseIdx m, rfl, upd_same, Nat.le_trans (List.length_eraseIdx_le ..) g4, (g5.later s1).eraseIdx m⟩)
    have e4 : (env.set j (.ow (.lst (es.eraseIdx m))))[i]? = some (.ow (.lst ds)) := by rw [List.getElem?_set_ne (Ne.symm hne.1)]; exact e0
    obtain ⟨a', vs', f1, f2, f3, f4, f5⟩ := er2.owA e4
    rw [h1] at f1
    cases f1
    have hl : vs'.length < sizeLine := by rw [f5.length]; exact hne.2
    have sb : SS S0 own b := .inr ⟨j, by rw [g1]; exact List.mem_cons_self⟩
    refine ⟨b, ws, kk, m, w, rfl, rfl, s1 _ _ g3, by omega, by omega, e3, ew, a, vs', w, rfl, rfl, f3, hl, ?_⟩
    have er3 := er2.mut (o' := .lst (vs' ++ [w])) (d' := .lst (ds ++ [d])) e4 h1 (.inl ⟨vs' ++ [w], ds ++ [d], rfl, upd_same, by simp; omega, f5.append (.cons (by rw [hid_upd sb]; exact rw'.later s1) .nil)⟩)
    have ec : (env.set j (.ow (.lst (es.eraseIdx m)))).set i (.ow (.lst (ds ++ [d]))) = (env.set i (.ow (.lst (ds ++ [d])))).set j (.ow (.lst (es.eraseIdx m))) := List.set_comm _ _ (Ne.symm hne.1)
    rw [ec] at er3
    exact q1 _ _ _ er3
  | _ => exact q1.elim
end
end Pu
end
section
set_option maxRecDepth 100000
set_option maxHeartbeats 2000000
namespace Pu
open PySem PySem.Spec PyProof.Rows L2 L2H
section
variable {c : Cfg} {G : Gc} {P : Pr} {X : Cx} {n : Nat} {W : WX}
def tSu (cl : Nat → Addr) (i : Nat) (form : Nat) (a : Addr) (cls : Value) (d : Option Addr) : TS := fun D σ H => (∃ σ' : L2.St, σ = σ'.set i (some (.ref a))) ∧ ∃ k pl, k < 11 ∧ cls = .ref (cl k) ∧ ExAt k pl d H ∧ (form = 1 → k = 4) ∧
  ∀ v H', Same H H' → (∀ fa K, Rep fa K H' v (hdl form k pl)) → D.rt v H'
theorem caught_of {k : Nat} {pl : D} {d : Option Addr} {H : Hp} {cl : Nat → Addr} {a : Addr} {oe : Obj} (h : ExAt k pl d H) (hz : L2N.Zn (.ref (cl k)) d oe) (hf : ∃ vs, oe.data = .fields vs) : Caught H (cl k) (a, oe) := by
  refine ⟨hz.1, hf, ?_⟩
  by_cases e : k = 4
  · obtain ⟨dd, v, h1, h2, _⟩ := h.1 e
    exact .inr ⟨dd, _, hz.2.1.trans h1, h2⟩
  · exact .inl (hz.2.1.trans (h.2 e))
theorem hot_of {A : Around} {a : Addr} {oe : Obj} {cls : Value} {d : Option Addr} (hz : L2N.Zn cls d oe) (hf : ∃ vs, oe.data = .fields vs) : Hot1 (A.mark (some (.ref a))) (a, oe) := by
  obtain ⟨vs, e⟩ := hf
  exact ⟨rfl, vs, e, hz.2.2 vs e⟩
def wx0 (c : Cfg) (sc : Scope) (n : Str) : Expr → Bool
  | .Call (.Name x _) [.Name m _] [] _ => decide (x ∈ c.wh) && glB sc x && decide (n = m)
  | _ => false
def row1 (c : Cfg) (sc : Scope) (n : Str) : Expr → Bool
  | .Tuple [.Constant (.str r) _ _, .Attribute (.Name m _) f _, x] _ _ => c.nr && decide (r = sRow) && decide (m = n) && decide (f = xNumber) && wx0 c sc n x && plainX x
  | _ => false
def suB (c : Cfg) (sc : Scope) (n : Str) : Nat → Expr → Bool
  | 0, x => wx0 c sc n x
  | 1, x => row1 c sc n x
  | _, _ => false
theorem pe_wx (so : Sok c G P X n W) {i : Nat} {y : Str} (hi : X.N[i]? = some y) (hv : visB X.env.scope y = true) {x : Expr} (h : wx0 c X.env.scope y x = true) {a : Addr} {oe : Obj} {pn : List (Addr × Obj)} {cls : Value} {d : Option Addr} (hz : L2N.Zn cls d oe) (hf : ∃ vs, oe.data = .fields vs) {k : Nat} (hk : k < 11) :
    PE (X.suite a ((a, oe) :: pn)) x (fun σ H Q => σ[i]? = some (some (.ref a)) ∧ spW G.cl (a, oe) k [.ref a] H Q (fun _ _ _ => False)) := by
  unfold wx0 at h
  split at h
  · rename_i x p1 m p2 pos
    simp only [decide_eq_true_eq, Bool.and_eq_true] at h
    obtain ⟨⟨h1, h2⟩, h3⟩ := h
    subst h3
    obtain ⟨_, f, fd, e, g1, g2, g3, g4⟩ := so.wh x h1
    have rm : Room 1 X.A := so.ok.room.mono (by omega)
    exact pe_which (X := X.suite a ((a, oe) :: pn)) (g4 (a, oe) k hk) ⟨rm.dp, rm.un⟩ (hot_of hz hf) List.mem_cons_self g3 h2 g1 g2 hi hv
  · cases h
theorem ps_su (so : Sok c G P X n W) {i : Nat} {y : Str} (hi : X.N[i]? = some y) (hv : visB X.env.scope y = true) {form : Nat} {x : Expr} {rp : Pos} (h : suB c X.env.scope y form x = true) {a : Addr} {oe : Obj} {pn : List (Addr × Obj)} {cls : Value} {d : Option Addr} (hz : L2N.Zn cls d oe) (hf : ∃ vs, oe.data = .fields vs) :
    PSs (X.suite a ((a, oe) :: pn)) [.Return (some x) rp] (tSu G.cl i form a cls d) := by
  refine ⟨fun pins s σ H D I ⟨⟨σ', es⟩, k, pl, hk, ec, ex, h4, q⟩ => ?_⟩
  subst ec
  have hl : σ.length = X.N.length := I.len
  have hs : σ[i]? = some (some (.ref a)) := by
    rw [es, List.length_set] at hl
    rw [es, List.getElem?_set_self]
    rw [hl]
    exact (List.getElem?_eq_some_iff.mp hi).1
  match form, h with
  | 0, h =>
    refine (pss_one (ps_ret (pe_wx so hi hv h hz hf hk))).run pins s σ H D I ⟨hs, rfl, caught_of ex hz hf, fun p H' sm hp hH => ?_⟩
    exact q _ H' sm fun fa K => .tup hH (sz_words (by simp)) (.cons (.str _) (.cons (.int _) .nil))
  | 1, h =>
    have h : row1 c X.env.scope y x = true := h
    unfold row1 at h
    split at h
    · rename_i r i1 p1 m p2 f p3 x k2 p4 hh1 hh2
      simp only [decide_eq_true_eq, Bool.and_eq_true] at h
      obtain ⟨⟨⟨⟨⟨g0, g1⟩, g2⟩, g3⟩, g4⟩, g5⟩ := h
      subst g1 g2 g3
      have k4 := h4 rfl
      subst k4
      obtain ⟨dd, v, e1, e2, vp⟩ := ex.1 rfl
      obtain ⟨x0, hw0, hE⟩ : ∃ x0, x0 ∈ c.wh ∧ True := by
        have g4' := g4
        unfold wx0 at g4'
        split at g4'
        · simp only [decide_eq_true_eq, Bool.and_eq_true] at g4'
          exact ⟨_, g4'.1.1, trivial⟩
        · cases g4'
      have EC := (so.wh x0 hw0).1.ec 4 (by decide)
      have N := so.nr g0
      have px := pe_xf (X := X) (te := tVar i) (pos := p3) (n := xNumber) ⟨EC.hg, EC.hk, EC.hs, EC.hd⟩ N.hno hz.zc hf (pe_var (X := X.suite a ((a, oe) :: pn)) (pos := p2) hi (vis_of hv).1 (vis_of hv).2.1 (vis_of hv).2.2) (pn := pn)
      refine (pss_one (ps_ret (pe_tup (pa_cons pe_str (pa_cons px (pa_cons (pe_wx so hi hv g4 hz hf hk) pa_nil (star_of g5)) (star_of rfl)) (star_of rfl))))).run pins s σ H D I ?_
      refine ⟨_, hs, rfl, rfl, dd, _, v, e1, e2, by simp [xNumber], hs, rfl, caught_of ex hz hf, fun p H' sm hp hH => ⟨sz_words (by simp), fun t ht => q _ _ (sm.trans (Same.upd ht)) fun fa K => .tup upd_same (sz_words (by simp)) (.cons (.str _) (.cons ?_ (.cons (.tup ((Same.upd ht) _ _ hH) (sz_words (by simp)) (.cons (.str _) (.cons (.int _) .nil))) .nil)))⟩⟩
      rcases vp with ⟨z1, z2⟩ | ⟨j, z1, z2⟩
      · subst z1 z2; exact .non
      · subst z1 z2; exact .int j
    · cases h
theorem clsF_of (so : Sok c G P X n W) {y : Str} {form : Nat} {x : Expr} (h : suB c X.env.scope y form x = true) : ClsF X.K G.cl := by
  match form, h with
  | 0, h =>
    have h : wx0 c X.env.scope y x = true := h
    unfold wx0 at h
    split at h
    · simp only [decide_eq_true_eq, Bool.and_eq_true] at h
      exact (so.wh _ h.1.1).1
    · cases h
  | 1, h =>
    have h : row1 c X.env.scope y x = true := h
    unfold row1 at h
    split at h
    · simp only [decide_eq_true_eq, Bool.and_eq_true] at h
      have h := h.1.2
      unfold wx0 at h
      split at h
      · simp only [decide_eq_true_eq, Bool.and_eq_true] at h
        exact (so.wh _ h.1.1).1
      · cases h
    · cases h
theorem Sok.tr (so : Sok c G P X n W) {W' : WX} {pn : List (Addr × Obj)} {xe : Value → Shared → Prop} (tk : L2N.Takes (X.tr pn xe) W') (po : PassesOwn (model X.prog X.w) X.A X.env xe) : Sok c G P (X.tr pn xe) n W' :=
  ⟨so.ok.tr pn xe, tk, po, so.bk, so.fnT, so.cls, so.wh, so.fs, fun z => let N := so.nr z; ⟨N.T, N.hno, N.ini⟩⟩
theorem S_tri (so : Sok c G P X n W) {b : SL} {kc form i : Nat} {y cx : Str} {x : Expr} {body : List Stmt} {np hp' rp pos : Pos} (hcx : (kc, cx) ∈ c.cls) (hg : glB X.env.scope cx = true) (hi : X.N[i]? = some y) (hln : X.env.scope.names.lookup y = some .local)
    (hv : visB X.env.scope y = true) (hk : kc = 11 ∨ kc = 4) (hk1 : form = 1 → kc = 4) (hs : suB c X.env.scope y form x = true)
    (hb : ∀ (W' : WX) (pn : List (Addr × Obj)) (xe : Value → Shared → Prop), L2N.Takes (X.tr pn xe) W' → PassesOwn (model X.prog X.w) X.A X.env xe → ∀ env, PSs (X.tr pn xe) body (tS G X.K W' env (evSL P env b))) (env : Env) :
    PS X (.Try body [.ExceptHandler (some (.Name cx np)) (some y) [.Return (some x) rp] hp'] [] [] pos) (tS G X.K W env (evS P env (.tri b [(kc, form)]))) := by
  have F := clsF_of so hs
  obtain ⟨m1, m2, _⟩ := so.cls kc cx hcx
  refine PS.imp (L2N.ps_try_as (Wout := W) (tb := fun W' => tS G X.K W' env (evSL P env b)) (ts := tSu G.cl i form) so.fs.1 so.fs.2 so.ok.nd hi hln ⟨(gl_of hg).1, (gl_of hg).2.1, .inl m1⟩ so.tk (fun W' pn xe tk po => hb W' pn xe tk po env) fun a oe cls d pn hz hf => ps_su so hi hv hs hz hf) fun D σ H ⟨S0, HF, own, er, q⟩ => ⟨S0, HF, own, er, ?_⟩
  rw [evS] at q
  cases e : evSL P env b with
  | nx env' => rw [e] at q; exact q
  | ret d => rw [e] at q; exact q
  | brk env' => rw [e] at q; exact q
  | bad => rw [e] at q; exact q.elim
  | exc k pl =>
    rw [e] at q
    simp only at q
    split at q
    case isFalse => exact q.elim
    rename_i h11
    intro dd σ' H' sm ex
    have em : PySem.W.exmOne X.K (.ref (G.cl k)) (.ref (G.cl kc)) = some (subC k kc) := by
      rcases hk with z | z
      · subst z; rw [F.em k h11]; simp [subC]
      · subst z; rw [F.en k h11]; simp [subC]
    refine ⟨subC k kc, em, fun hy a ha => ⟨⟨σ', rfl⟩, k, pl, h11, rfl, ex, fun hf => ?_, fun v H2 sm2 hr => ?_⟩, fun hn => ?_⟩
    · have := hk1 hf
      subst this
      simp only [subC, Bool.or_eq_true, decide_eq_true_eq] at hy
      omega
    · have : [(kc, form)].find? (fun h => subC k h.1) = some (kc, form) := by simp [List.find?, hy]
      rw [this] at q
      refine q v H2 (sm.trans sm2) (imm_hid (fun z hz => ?_) ?_ (hr G.fa X.K))
      · obtain ⟨o, e1, nt⟩ := er.s0 z hz
        exact ⟨o, (sm.trans sm2) z o e1, nt⟩
      · match form, hk1, hs with
        | 0, _, _ => rfl
        | 1, hk1, _ =>
          have k4 := hk1 rfl
          subst k4
          simp only [subC, Bool.or_eq_true, decide_eq_true_eq] at hy
          obtain ⟨dd', v', _, _, vp⟩ := ex.1 (by omega)
          rcases vp with ⟨_, e1⟩ | ⟨j, _, e1⟩ <;> (subst e1; rfl)
        | _ + 2, _, hs => cases hs
    · have : [(kc, form)].find? (fun h => subC k h.1) = none := by simp [List.find?, hn]
      rw [this] at q
      exact q dd σ' H' sm ex
end
end Pu
end
section
set_option maxRecDepth 100000
set_option maxHeartbeats 2000000
namespace Pu
open PySem PySem.Spec PyProof.Rows L2 L2H
abbrev Su := Addr → Value → Option Addr → TS
inductive Hds (X : Cx) : List ExceptHandler → List (Value × Nat × Su) → Prop
  | nil : Hds X [] []
  | cons {x y : Str} {cv : Value} {i : Nat} {ts : Su} {b1 : Stmt} {bs : List Stmt} {p1 p2 : Pos} {hs : List ExceptHandler} {l : List (Value × Nat × Su)} (hi : X.N[i]? = some y) (hln : X.env.kindOf y = some .local) (hc : Names X x cv)
      (hsu : ∀ (a : Addr) (oe : Obj) (cls : Value) (d : Option Addr) (pn : List (Addr × Obj)), L2N.Zn cls d oe → (∃ vs, oe.data = .fields vs) → PSs (X.suite a ((a, oe) :: pn)) (b1 :: bs) (ts a cls d)) (r : Hds X hs l) :
      Hds X (.ExceptHandler (some (.Name x p1)) (some y) (b1 :: bs) p2 :: hs) ((cv, i, ts) :: l)
def wAll (K : PySem.W.Frag) (Wo : WX) (D : Ends) : List (Value × Nat × Su) → WX
  | [] => Wo
  | (cv, i, ts) :: l => wAs K cv i ts (wAll K Wo D l) D
section
variable {X : Cx} {body : List Stmt} {h0 : ExceptHandler} {hs : List ExceptHandler} {l : List (Value × Nat × Su)} {pos : Pos} {tb : WX → TS} {Wo : WX}
theorem ps_trys (hst : X.stack = X.env :: X.outer) (hf : X.env.frame = some X.env.locals) (hN : X.N.Nodup) (tk : L2N.Takes X Wo)
    (hb : ∀ (W : WX) (pn : List (Addr × Obj)) (xe : Value → Shared → Prop), L2N.Takes (X.tr pn xe) W → PassesOwn (model X.prog X.w) X.A X.env xe → PSs (X.tr pn xe) body (tb W))
    (hh : Hds X (h0 :: hs) l) : PS X (.Try body (h0 :: hs) [] [] pos) (fun D σ H => tb (wAll X.K Wo D l) D σ H) := by
  (refine ⟨fun pins s σ H D I h => ?_⟩)
  have ok := I.ok
  have fr : X.A.frames = some (X.env :: X.outer) := by rw [ok.frames, hst]
  refine wpAny_Try_except (wpAny_mono ((hb (wAll X.K Wo D l) (X.pn ++ pins) (fun e s1 => wpAny (model X.prog X.w) X.A (noteFrame e X.env) (fun _ s2 => wpAny (model X.prog X.w) X.A (setFlight e none) (fun _ s3 => wpAny (model X.prog X.w) X.A (handleBy e X.env (h0 :: hs)) (SP X pins D) X.xe s3) X.xe s2) X.xe s1)
    (fun u s' xx => ?_) PassesOwn.looking).run [] s σ H D (I.toTry _) h) (fun fl s1 hsp => ?_) fun e s1 he => he)
  · obtain ⟨a, B, sI, ps', σ1, H1, cls, d, rfl, J0, nb, up, sky, na, os, ag, w⟩ := xx
    have J : Inv X pins σ1 H1 sI := J0.ofTry ok
    have sky1 : Sky B (X.env :: X.outer) a (L2N.Zn cls d) X.env.locals s'.heap := hst ▸ sky
    change wpAny (model X.prog X.w) X.A (noteFrame (.ref a) X.env) _ _ _
    refine L2N.Sky.land L2N.Zn.steady fr hf sky1 fun g fl up3 => ?_
    have Jg : Inv X pins σ1 H1 { s' with heap := g } := J.landed nb fl.1 (up.trans up3) os ag
    obtain ⟨og, vg, eg, zg, dg⟩ := fl.there
    have nfr : a ∉ frs (X.env :: X.outer) := fun hm => by
      obtain ⟨_, o', e', nf⟩ := fl.2.2.1.mem hm
      rw [eg] at e'; cases e'
      exact nf _ dg
    (have nL : a ≠ X.env.locals := fun z => nfr (List.mem_filterMap.mpr ⟨X.env, List.mem_cons_self, by rw [hf, z]⟩))
    have nF : ¬ (a ∈ X.fs) := fun hm => by
      (obtain ⟨e, he, q⟩ := List.mem_filterMap.mp hm)
      (exact nfr (List.mem_filterMap.mpr ⟨e, List.mem_cons_of_mem _ he, q⟩))
    have Sg := Jg.suite eg dg na nL nF
    suffices go : ∀ {hs' : List ExceptHandler} {l' : List (Value × Nat × Su)}, Hds X hs' l' → wAll X.K Wo D l' cls d σ1 H1 → wpAny (model X.prog X.w) X.A (handleBy (.ref a) X.env hs') (SP X pins D) X.xe { s' with heap := g } from go hh w
    intro hs' l' hk
    induction hk with
    | nil =>
      intro w
      refine wpAny_handleBy_nil ?_
      obtain ⟨_, _, _, oe, vs, T, oT, ts', he, hz, hd, h1, hr⟩ := id fl
      unfold PySem.passOn
      (refine wpAny_bind (wpAny_field he hd h1 ?_))
      (rw [if_neg (show ¬ ((Value.ref T == Value.none) = true) from by simp)])
      have fin : wpAny (model X.prog X.w) X.A (setFlight (.ref a) X.env.frame) (fun _ s4 => wpAny (model X.prog X.w) X.A (throw (.ref a) : Sem Flow) (SP X pins D) X.xe s4) X.xe { s' with heap := g } := by
        rw [hf]
        exact HandSPX.setFlight_upZ fl fun h4 hh4 up4 => wpAny_throw (tk _ _ ⟨a, B, sI, pins, σ1, H1, cls, d, rfl, J, nb, (up.trans up3).trans up4, .inr (.inr (by rw [hst]; exact hh4)), na, os, ag, w⟩)
      first | exact wpAny_bind (wpAny_pure (wpAny_bind fin)) | exact wpAny_bind fin
    | @cons x y cv i ts b1 bs p1 p2 hs2 l2 hi hln hc hsu r ih =>
      intro w
      (obtain ⟨b, hb1, hyes, hno⟩ := w)
      (refine wpAny_handleBy_cons (codeAny_handlers_test ?_) (by intro q; cases q))
      have LT : PySem.W.Looks (model X.prog X.w) g (typeOf (.ref a)) cls := fun A Q E s k q => wpAny_typeOf_ref (k _ _ eg) (by rw [zg.1]; exact q)
      have LM := PySem.W.exm_one (M := model X.prog X.w) Jg.kIn LT hb1
      have test : ∀ {Q : Value → Shared → Prop} {E : Value → Shared → Prop}, Q cv { s' with heap := g } → wpAny (model X.prog X.w) (X.A.mark (some (.ref a))) (eval (.Name x p1) X.env) Q E { s' with heap := g } := fun {Q E} q => by
        (obtain ⟨hg, hdbg, hm | ⟨hm, hv, hnn⟩⟩ := hc)
        · exact ld_glob (X := X.suite a ((a, og) :: (X.pn ++ pins))) Sg hg hm q hdbg
        · exact ld_blt (X := X.suite a ((a, og) :: (X.pn ++ pins))) Sg hg hm hv q hnn hdbg
      refine test (LM.here ?_)
      cases b with
      | false => exact ih (hno rfl)
      | true =>
        refine codeAny_handlers_suite_as (HandSPX.lands_againZ fl fun h4 fl4 up4 => ?_)
        have J4 : Inv X pins σ1 H1 { s' with heap := h4 } := J.landed nb fl4.1 ((up.trans up3).trans up4) os ag
        obtain ⟨o4, v4, e4, z4, d4⟩ := fl4.there
        have S4 := J4.suite e4 d4 na nL nF
        have loc : Loc X.env.scope y := .inl hln
        refine store_ok (X := X.suite a ((a, o4) :: (X.pn ++ pins))) (v := .ref a) S4 hN hi loc rfl (fun s5 S5 => ?_) (.inr hln)
        refine wpAny_mono ((hsu a o4 cls d (X.pn ++ pins) z4 ⟨_, d4⟩).run [] s5 _ H1 _ S5 (hyes rfl a na)) (fun f6 s6 hsp => ?_) fun _ _ z => False.elim z
        have fin : ∀ {σ6 : L2.St} {H6 : Hp} {Q : Shared → Prop}, Inv (X.suite a ((a, o4) :: (X.pn ++ pins))) [] σ6 H6 s6 → (∀ s7, Inv X pins (σ6.set i none) H6 s7 → Q s7) →
            wpAny (model X.prog X.w) X.A (do bindName X.env y .none; unbindBehindTheSuite X.env y p2) (fun _ s7 => Q s7) X.xe s6 := fun {σ6 H6 Q} S6 hq => gone_ok (S6.unsuite ok) hN hi hln hq
        match f6, hsp with
        | .next, ⟨σ6, H6, S6, q6⟩ => exact fin S6 fun s7 J7 => ⟨_, _, J7, q6⟩
        | .brk, ⟨σ6, H6, S6, q6⟩ => exact fin S6 fun s7 J7 => ⟨_, _, J7, q6⟩
        | .cont, ⟨σ6, H6, S6, q6⟩ => exact fin S6 fun s7 J7 => ⟨_, _, J7, q6⟩
        | .ret u, ⟨v6, σ6, H6, S6, r6, q6⟩ => exact fin S6 fun s7 J7 => ⟨_, _, _, J7, r6, q6⟩
  · match fl, hsp with
    | .next, ⟨σ1, H1, J1, q⟩ => exact wpAny_execs_nil ⟨σ1, H1, J1.ofTry ok, q⟩
    | .brk, ⟨σ1, H1, J1, q⟩ => exact ⟨σ1, H1, J1.ofTry ok, q⟩
    | .cont, ⟨σ1, H1, J1, q⟩ => exact ⟨σ1, H1, J1.ofTry ok, q⟩
    | .ret u, ⟨v, σ1, H1, J1, r, q⟩ => exact ⟨v, σ1, H1, J1.ofTry ok, r, q⟩
end
section
variable {c : Cfg} {G : Gc} {P : Pr} {X : Cx} {n : Nat} {W : WX}
structure Hd where
  kc : Nat
  form : Nat
  i : Nat
  y : Str
  cx : Str
  x : Expr
  np : Pos
  rp : Pos
  hp : Pos
def Hd.st (h : Hd) : ExceptHandler := .ExceptHandler (some (.Name h.cx h.np)) (some h.y) [.Return (some h.x) h.rp] h.hp
structure Hd.Ok (c : Cfg) (X : Cx) (h : Hd) : Prop where
  cx : (h.kc, h.cx) ∈ c.cls
  g : glB X.env.scope h.cx = true
  i : X.N[h.i]? = some h.y
  ln : X.env.scope.names.lookup h.y = some .local
  v : visB X.env.scope h.y = true
  k : h.kc = 11 ∨ h.kc = 4
  k1 : h.form = 1 → h.kc = 4
  s : suB c X.env.scope h.y h.form h.x = true
theorem hds_of (so : Sok c G P X n W) : ∀ hs : List Hd, (∀ h ∈ hs, h.Ok c X) → Hds X (hs.map Hd.st) (hs.map fun h => (.ref (G.cl h.kc), h.i, tSu G.cl h.i h.form))
  | [], _ => .nil
  | h :: hs, a => by
    have o := a h List.mem_cons_self
    exact .cons o.i o.ln ⟨(gl_of o.g).1, (gl_of o.g).2.1, .inl (so.cls h.kc h.cx o.cx).1⟩ (fun a oe cls d pn hz hf => ps_su so o.i o.v o.s hz hf) (hds_of so hs fun h z => a h (List.mem_cons_of_mem _ z))
theorem wAll_of (so : Sok c G P X n W) {S0 : Addr → Prop} {HF H : Hp} {own : Nat → List Addr} {σ : L2.St} {env : Env} (er : ER G X.K S0 HF own σ H env) (F : ClsF X.K G.cl) {k : Nat} {pl : D} (h11 : k < 11) {D' : Ends} : ∀ hs : List Hd, (∀ h ∈ hs, h.Ok c X) →
    FT G X.K W S0 HF (match (hs.map fun h => (h.kc, h.form)).find? (fun h => subC k h.1) with | some h => .ret (hdl h.2 k pl) | none => .exc k pl) D' → ∀ dd σ' H', Same HF H' → ExAt k pl dd H' →
    wAll X.K W D' (hs.map fun h => (.ref (G.cl h.kc), h.i, tSu G.cl h.i h.form)) (.ref (G.cl k)) dd σ' H'
  | [], _, q => fun dd σ' H' sm ex => q dd σ' H' sm ex
  | h :: hs, a, q => fun dd σ' H' sm ex => by
    have o := a h List.mem_cons_self
    have em : PySem.W.exmOne X.K (.ref (G.cl k)) (.ref (G.cl h.kc)) = some (subC k h.kc) := by
      rcases o.k with z | z
      · rw [z, F.em k h11]; simp [subC]
      · rw [z, F.en k h11]; simp [subC]
    refine ⟨subC k h.kc, em, fun hy a' ha => ⟨⟨σ', rfl⟩, k, pl, h11, rfl, ex, fun hf => ?_, fun v H2 sm2 hr => ?_⟩, fun hn => ?_⟩
    · have := o.k1 hf
      rw [this] at hy
      simp only [subC, Bool.or_eq_true, decide_eq_true_eq] at hy
      omega
    · have : ((h :: hs).map fun h => (h.kc, h.form)).find? (fun h => subC k h.1) = some (h.kc, h.form) := by simp [List.find?, hy]
      rw [this] at q
      refine q v H2 (sm.trans sm2) (imm_hid (fun z hz => ?_) ?_ (hr G.fa X.K))
      · obtain ⟨o, e1, nt⟩ := er.s0 z hz
        exact ⟨o, (sm.trans sm2) z o e1, nt⟩
      · have os := o.s
        have ok1 := o.k1
        generalize h.form = fm at os ok1
        match fm, os, ok1 with
        | 0, _, _ => rfl
        | 1, _, ok1 =>
          have k4 := ok1 rfl
          rw [k4] at hy
          simp only [subC, Bool.or_eq_true, decide_eq_true_eq] at hy
          obtain ⟨dd', v', _, _, vp⟩ := ex.1 (by omega)
          rcases vp with ⟨_, e1⟩ | ⟨j, _, e1⟩ <;> (subst e1; rfl)
        | _ + 2, hs, _ => cases hs
    · have : ((h :: hs).map fun h => (h.kc, h.form)).find? (fun h => subC k h.1) = (hs.map fun h => (h.kc, h.form)).find? (fun h => subC k h.1) := by simp [List.find?, hn]
      rw [this] at q
      exact wAll_of so er F h11 hs (fun h z => a h (List.mem_cons_of_mem _ z)) q dd σ' H' sm ex
theorem S_tris (so : Sok c G P X n W) {b : SL} {h0 : Hd} {hs : List Hd} {body : List Stmt} {pos : Pos} (ho : ∀ h ∈ h0 :: hs, h.Ok c X)
    (hb : ∀ (W' : WX) (pn : List (Addr × Obj)) (xe : Value → Shared → Prop), L2N.Takes (X.tr pn xe) W' → PassesOwn (model X.prog X.w) X.A X.env xe → ∀ env, PSs (X.tr pn xe) body (tS G X.K W' env (evSL P env b))) (env : Env) :
    PS X (.Try body ((h0 :: hs).map Hd.st) [] [] pos) (tS G X.K W env (evS P env (.tri b ((h0 :: hs).map fun h => (h.kc, h.form))))) := by
  have F := clsF_of so (ho h0 List.mem_cons_self).s
  refine PS.imp (ps_trys (Wo := W) (tb := fun W' => tS G X.K W' env (evSL P env b)) so.fs.1 so.fs.2 so.ok.nd so.tk (fun W' pn xe tk po => hb W' pn xe tk po env) (hds_of so (h0 :: hs) ho)) fun D σ H ⟨S0, HF, own, er, q⟩ => ⟨S0, HF, own, er, ?_⟩
  rw [evS] at q
  cases e : evSL P env b with
  | nx env' => rw [e] at q; exact q
  | ret d => rw [e] at q; exact q
  | brk env' => rw [e] at q; exact q
  | bad => rw [e] at q; exact q.elim
  | exc k pl =>
    rw [e] at q
    simp only at q
    split at q
    case isFalse => exact q.elim
    rename_i h11
    exact wAll_of so er F h11 (h0 :: hs) ho q
end
end Pu
end
section
set_option maxRecDepth 100000
set_option maxHeartbeats 4000000
namespace Pu
open PySem PySem.Spec L2
def asgB (c : Cfg) (N : List Str) (i : Nat) (e : E) (sc : Scope) (y : Str) (x : Expr) : Bool := decide (N[i]? = some y) && locB sc y && mE c N e sc x && (!isLc x || isComp e)
def hdB (c : Cfg) (N : List Str) (sc : Scope) (k f : Nat) (cx y : Str) (r : Expr) : Bool := decide ((k, cx) ∈ c.cls) && glB sc cx && decide (sc.names.lookup y = some .local) && visB sc y && decide (y ∈ N) && decide (k = 11 ∨ k = 4) && (decide (f ≠ 1) || decide (k = 4)) && suB c sc y f r
theorem hd_of {c : Cfg} {X : Cx} {k f : Nat} {cx y : Str} {r : Expr} {np rp hp : Pos} (h : hdB c X.N X.env.scope k f cx y r = true) : ∃ i, Hd.Ok c X ⟨k, f, i, y, cx, r, np, rp, hp⟩ := by
  simp only [hdB, decide_eq_true_eq, Bool.and_eq_true, Bool.or_eq_true] at h
  obtain ⟨⟨⟨⟨⟨⟨⟨hc, hg⟩, hl⟩, hv⟩, hy⟩, hk⟩, hf⟩, hs⟩ := h
  obtain ⟨i, hi⟩ := List.getElem?_of_mem hy
  exact ⟨i, hc, hg, hi, hl, hv, hk, fun z => hf.resolve_left fun z' => z' z, hs⟩
mutual
def mS (c : Cfg) (N : List Str) : S → Scope → Stmt → Bool
  | .set i e, sc, st => match st with
    | .Assign [.Name y _] x _ => asgB c N i e sc y x
    | _ => false
  | .own i e, sc, st => match st with
    | .Assign [.Name y _] x _ => asgB c N i e sc y x && frE e
    | _ => false
  | .own2 i k, sc, st => match st with
    | .Assign [.Name y _] (.List xs _) _ => decide (N[i]? = some y) && locB sc y && decide (xs.length = k) && decide (k ≤ 1000) && (xs.all fun x => match x with | .List [] _ => true | _ => false)
    | _ => false
  | .unp is e, sc, st => match st with
    | .Assign [.Tuple xs k p] x _ => mE c N e sc x && tgX N sc (fun _ => true) (.many is) (.Tuple xs k p) && !isTup x
    | _ => false
  | .app i e, sc, st => match st with
    | .Expr (.Call (.Attribute (.Name y _) m ap) [x] [] cp) _ => decide (m = "append") && mE c N e sc x && decide (N[i]? = some y) && visB sc y && plainX x && decide ((ap.endLine == cp.line) = true)
    | _ => false
  | .ext i e, sc, st => match st with
    | .Expr (.Call (.Attribute (.Name y _) m ap) [x] [] cp) _ => decide (m = "extend") && mE c N e sc x && decide (N[i]? = some y) && visB sc y && plainX x && decide ((ap.endLine == cp.line) = true)
    | _ => false
  | .put i k v, sc, st => match st with
    | .Assign [.Subscript (.Name y _) xk _] xv _ => mE c N k sc xk && mE c N v sc xv && decide (N[i]? = some y) && visB sc y
    | _ => false
  | .rem i e, sc, st => match st with
    | .Expr (.Call (.Attribute (.Name y _) m ap) [x] [] cp) _ => decide (m = "remove") && mE c N e sc x && decide (N[i]? = some y) && visB sc y && plainX x && decide ((ap.endLine == cp.line) = true)
    | _ => false
  | .apop i j k, sc, st => match st with
    | .Expr (.Call (.Attribute (.Name y _) m ap1) [.Call (.Attribute (.Name z _) m2 ap2) [xk] [] cp2] [] cp1) _ => decide (m = "append") && decide (m2 = "pop") && mE c N k sc xk && decide (N[i]? = some y) && visB sc y && decide (N[j]? = some z) && visB sc z && plainX xk && decide ((ap1.endLine == cp1.line) = true) && decide ((ap2.endLine == cp2.line) = true)
    | _ => false
  | .exall t i j, sc, st => match st with
    | .For (.Name x _) (.Name y _) [.Expr (.Call (.Attribute (.Name z _) m ap) [.Name x2 _] [] cp) _] [] _ => decide (m = "extend") && decide (x2 = x) && decide (N[t]? = some x) && locB sc x && visB sc x && decide (N[i]? = some y) && visB sc y && decide (N[j]? = some z) && visB sc z && decide ((ap.endLine == cp.line) = true)
    | _ => false
  | .popto j i, sc, st => match st with
    | .Assign [.Name z _] (.Call (.Attribute (.Name y _) m ap) [] [] cp) _ => decide (m = "pop") && decide (N[i]? = some y) && visB sc y && decide (N[j]? = some z) && locB sc z && decide ((ap.endLine == cp.line) = true)
    | _ => false
  | .app2 i k e, sc, st => match st with
    | .Expr (.Call (.Attribute (.Subscript (.Name y _) xk _) m ap) [x] [] cp) _ => decide (m = "append") && mE c N k sc xk && mE c N e sc x && decide (N[i]? = some y) && visB sc y && plainX xk && plainX x && decide ((ap.endLine == cp.line) = true)
    | _ => false
  | .ex e, sc, st => match st with
    | .Expr x _ => mE c N e sc x && !isLc x
    | _ => false
  | .iff t a b, sc, st => match st with
    | .If x xa xb _ => mE c N t sc x && mSL c N a sc xa && mSL c N b sc xb
    | _ => false
  | .whl _ t b, sc, st => match st with
    | .While x xb [] _ => mE c N t sc x && mSL c N b sc xb
    | _ => false
  | .frr tg it b, sc, st => match st with
    | .For xt xi xb [] _ => tgX N sc (fun _ => true) tg xt && mI c N it sc xt xi && plainX xi && mSL c N b sc xb
    | _ => false
  | .ret e, sc, st => match st with
    | .Return (some x) _ => mE c N e sc x
    | _ => false
  | .retn, _, st => match st with
    | .Return none _ => true
    | _ => false
  | .rais k, sc, st => match st with
    | .Raise (some (.Call (.Name g _) [.Constant (.str _) _ _] [] _)) none _ => decide ((k, g) ∈ c.cls) && glB sc g && decide (k ≠ 4)
    | _ => false
  | .raisn k e, sc, st => match st with
    | .Raise (some (.Call (.Name g _) [x] [] _)) none _ => c.nr && decide (k = 4) && decide ((4, g) ∈ c.cls) && glB sc g && mE c N e sc x && plainX x
    | _ => false
  | .brk, _, st => match st with
    | .Break _ => true
    | _ => false
  | .pass, _, st => match st with
    | .Pass _ => true
    | .Expr (.Constant (.str _) _ _) _ => true
    | _ => false
  | .tri b hs, sc, st => match hs with
    | [(kc, form)] => (match st with
      | .Try body [.ExceptHandler (some (.Name cx _)) (some y) [.Return (some r) _] _] [] [] _ => mSL c N b sc body && decide ((kc, cx) ∈ c.cls) && glB sc cx && decide (sc.names.lookup y = some .local) && visB sc y && decide (y ∈ N) && decide (kc = 11 ∨ kc = 4) && (decide (form ≠ 1) || decide (kc = 4)) && suB c sc y form r
      | _ => false)
    | [(k1, f1), (k2, f2)] => (match st with
      | .Try body [.ExceptHandler (some (.Name c1 _)) (some y1) [.Return (some r1) _] _, .ExceptHandler (some (.Name c2 _)) (some y2) [.Return (some r2) _] _] [] [] _ => mSL c N b sc body && hdB c N sc k1 f1 c1 y1 r1 && hdB c N sc k2 f2 c2 y2 r2
      | _ => false)
    | _ => false
def mSL (c : Cfg) (N : List Str) : SL → Scope → List Stmt → Bool
  | .nil, _, xs => xs.isEmpty
  | .cons s r, sc, xs => match xs with
    | x :: xs => mS c N s sc x && mSL c N r sc xs
    | [] => false
  | .fz _ r, sc, xs => mSL c N r sc xs
end
section
variable {c : Cfg} {G : Gc} {P : Pr} {n : Nat}
def GS (c : Cfg) (G : Gc) (P : Pr) (n : Nat) (s : S) : Prop := ∀ (X : Cx) (W : WX) (x : Stmt), Sok c G P X n W → mS c X.N s X.env.scope x = true → ∀ env, PS X x (tS G X.K W env (evS P env s))
def GSL (c : Cfg) (G : Gc) (P : Pr) (n : Nat) (s : SL) : Prop := ∀ (X : Cx) (W : WX) (xs : List Stmt), Sok c G P X n W → mSL c X.N s X.env.scope xs = true → ∀ env, PSs X xs (tS G X.K W env (evSL P env s))
mutual
theorem sS : ∀ s : S, GS c G P n s
  | .set i e => fun X W x so h env => by
    unfold mS at h
    split at h
    · simp only [asgB, Bool.and_eq_true, decide_eq_true_eq, Bool.or_eq_true, Bool.not_eq_true'] at h
      exact S_set so h.1.2 h.1.1.1 h.1.1.2 (fun z => h.2.resolve_left (by rw [z]; simp)) env
    · cases h
  | .own i e => fun X W x so h env => by
    unfold mS at h
    split at h
    · simp only [asgB, Bool.and_eq_true, decide_eq_true_eq, Bool.or_eq_true, Bool.not_eq_true'] at h
      exact S_own so h.1.1.2 h.1.1.1.1 h.1.1.1.2 (fun z => h.1.2.resolve_left (by rw [z]; simp)) h.2 env
    · cases h
  | .own2 i k => fun X W x so h env => by
    unfold mS at h
    split at h
    · simp only [decide_eq_true_eq, Bool.and_eq_true] at h
      exact S_own2 so h.1.1.1.1 h.1.1.1.2 h.1.1.2 h.1.2 h.2 env
    · cases h
  | .unp is e => fun X W x so h env => by
    unfold mS at h
    split at h
    · simp only [Bool.and_eq_true, Bool.not_eq_true'] at h
      exact S_unp so h.1.1 h.1.2 h.2 env
    · cases h
  | .app i e => fun X W x so h env => by
    unfold mS at h
    split at h
    · simp only [decide_eq_true_eq, Bool.and_eq_true] at h
      obtain ⟨⟨⟨⟨⟨hm, he⟩, hi⟩, hv⟩, hx⟩, hl⟩ := h
      subst hm
      exact S_app so he hi hv hx hl env
    · cases h
  | .ext i e => fun X W x so h env => by
    unfold mS at h
    split at h
    · simp only [decide_eq_true_eq, Bool.and_eq_true] at h
      obtain ⟨⟨⟨⟨⟨hm, he⟩, hi⟩, hv⟩, hx⟩, hl⟩ := h
      subst hm
      exact S_ext so he hi hv hx hl env
    · cases h
  | .put i k v => fun X W x so h env => by
    unfold mS at h
    split at h
    · simp only [decide_eq_true_eq, Bool.and_eq_true] at h
      exact S_put so h.1.1.1 h.1.1.2 h.1.2 h.2 env
    · cases h
  | .rem i e => fun X W x so h env => by
    unfold mS at h
    split at h
    · simp only [decide_eq_true_eq, Bool.and_eq_true] at h
      obtain ⟨⟨⟨⟨⟨hm, he⟩, hi⟩, hv⟩, hx⟩, hl⟩ := h
      subst hm
      exact S_rem so he hi hv hx hl env
    · cases h
  | .apop i j k => fun X W x so h env => by
    unfold mS at h
    split at h
    · simp only [decide_eq_true_eq, Bool.and_eq_true] at h
      obtain ⟨⟨⟨⟨⟨⟨⟨⟨⟨hm, hm2⟩, hk⟩, hi⟩, hv⟩, hj⟩, hvj⟩, hx⟩, hl1⟩, hl2⟩ := h
      subst hm; subst hm2
      exact S_apop so hk hi hv hj hvj hx hl1 hl2 env
    · cases h
  | .exall t i j => fun X W x so h env => by
    unfold mS at h
    split at h
    · simp only [decide_eq_true_eq, Bool.and_eq_true] at h
      obtain ⟨⟨⟨⟨⟨⟨⟨⟨⟨hm, hx⟩, ht⟩, hlt⟩, hvt⟩, hi⟩, hv⟩, hj⟩, hvj⟩, hl⟩ := h
      subst hm; subst hx
      exact S_exall so ht hlt hvt hi hv hj hvj hl env
    · cases h
  | .popto j i => fun X W x so h env => by
    unfold mS at h
    split at h
    · simp only [decide_eq_true_eq, Bool.and_eq_true] at h
      obtain ⟨⟨⟨⟨⟨hm, hi⟩, hv⟩, hj⟩, hl⟩, ha⟩ := h
      subst hm
      exact S_popto so hi hv hj hl ha env
    · cases h
  | .app2 i k e => fun X W x so h env => by
    unfold mS at h
    split at h
    · simp only [decide_eq_true_eq, Bool.and_eq_true] at h
      obtain ⟨⟨⟨⟨⟨⟨⟨hm, hk⟩, he⟩, hi⟩, hv⟩, hxk⟩, hx⟩, hl⟩ := h
      subst hm
      exact S_app2 so hk he hi hv hxk hx hl env
    · cases h
  | .ex e => fun X W x so h env => by
    unfold mS at h
    split at h
    · simp only [Bool.and_eq_true, Bool.not_eq_true'] at h
      exact S_ex so h.1 h.2 env
    · cases h
  | .iff t a b => fun X W x so h env => by
    unfold mS at h
    split at h
    · simp only [Bool.and_eq_true, true_and] at h
      exact S_iff so h.1.1 env (sSL a X W _ so h.1.2 env) (sSL b X W _ so h.2 env)
    · cases h
  | .whl k t b => fun X W x so h env => by
    unfold mS at h
    split at h
    · simp only [Bool.and_eq_true, true_and] at h
      exact S_whl so h.1 (fun env => sSL b X W _ so h.2 env) env
    · cases h
  | .frr tg it b => fun X W x so h env => by
    unfold mS at h
    split at h
    · simp only [Bool.and_eq_true, true_and] at h
      obtain ⟨⟨⟨ht, hi⟩, hx⟩, hb⟩ := h
      by_cases hki : ∃ i, it = .keys i
      · obtain ⟨i, e⟩ := hki
        subst e
        unfold mI at hi
        split at hi
        · simp only [Bool.and_eq_true, decide_eq_true_eq] at hi
          exact S_frK so ht hi.1 hi.2 (fun env => sSL b X W _ so hb env) (fun env => sSL b X _ _ so.lock hb env) env
        · cases hi
      · exact S_frr so ht hi (fun i e => hki ⟨i, e⟩) hx (fun env => sSL b X W _ so hb env) env
    · cases h
  | .ret e => fun X W x so h env => by
    unfold mS at h
    split at h
    · exact S_ret so h env
    · cases h
  | .retn => fun X W x so h env => by
    unfold mS at h
    split at h
    · exact S_retn env
    · cases h
  | .rais k => fun X W x so h env => by
    unfold mS at h
    split at h
    · simp only [decide_eq_true_eq, Bool.and_eq_true] at h
      exact S_rais so h.1.1 h.1.2 h.2 env
    · cases h
  | .raisn k e => fun X W x so h env => by
    unfold mS at h
    split at h
    · simp only [decide_eq_true_eq, Bool.and_eq_true] at h
      obtain ⟨⟨⟨⟨⟨h0, h1⟩, h2⟩, h3⟩, h4⟩, h5⟩ := h
      subst h1
      exact S_raisn so (so.nr h0) h2 h3 h4 h5 env
    · cases h
  | .brk => fun X W x so h env => by
    unfold mS at h
    split at h
    · exact S_brk env
    · cases h
  | .pass => fun X W x so h env => by
    unfold mS at h
    split at h
    · exact S_pass env
    · rw [evS]; exact S_doc env
    · cases h
  | .tri b hs => fun X W x so h env => by
    unfold mS at h
    split at h
    · split at h
      · simp only [decide_eq_true_eq, Bool.and_eq_true, Bool.or_eq_true] at h
        obtain ⟨⟨⟨⟨⟨⟨⟨⟨hb, hc⟩, hg⟩, hl⟩, hv⟩, hy⟩, hk⟩, hf⟩, hs⟩ := h
        obtain ⟨i, hi⟩ := List.getElem?_of_mem hy
        exact S_tri so hc hg hi hl hv hk (fun z => hf.resolve_left fun z' => z' z) hs (fun W' pn xe tk po env => sSL b (X.tr pn xe) W' _ (so.tr tk po) hb env) env
      · cases h
    · split at h
      · simp only [Bool.and_eq_true] at h
        obtain ⟨⟨hb, h1⟩, h2⟩ := h
        obtain ⟨i1, o1⟩ := hd_of h1
        obtain ⟨i2, o2⟩ := hd_of h2
        exact S_tris so (h0 := ⟨_, _, i1, _, _, _, _, _, _⟩) (hs := [⟨_, _, i2, _, _, _, _, _, _⟩]) (fun h z => by
          (rcases List.mem_cons.mp z with z | z)
          · rw [z]; exact o1
          · rw [List.mem_singleton.mp z]; exact o2) (fun W' pn xe tk po env => sSL b (X.tr pn xe) W' _ (so.tr tk po) hb env) env
      · cases h
    · cases h
theorem sSL : ∀ s : SL, GSL c G P n s
  | .nil => fun X W xs so h env => by
    cases xs with
    | nil =>
      refine PSs.imp pss_nil fun D σ H ⟨S0, HF, own, er, q⟩ => ?_
      rw [evSL] at q
      exact q _ _ _ er
    | cons _ _ => simp [mSL] at h
  | .cons s r => fun X W xs so h env => by
    cases xs with
    | nil => simp [mSL] at h
    | cons x xs =>
      unfold mSL at h
      simp only [Bool.and_eq_true, true_and] at h
      have h1 := sS s X W x so h.1 env
      have h2 : PSs X xs (bodyX G X.K P W r) := ⟨fun pins s σ H D I ⟨env, q⟩ => (sSL r X W xs so h.2 env).run pins s σ H D I q⟩
      refine PSs.imp (pss_cons h1 h2) fun D σ H ⟨S0, HF, own, er, q⟩ => ⟨S0, HF, own, er, ?_⟩
      rw [evSL] at q
      cases e : evS P env s with
      | nx env' => rw [e] at q; exact fun σ' H' own' er' => ⟨env', S0, HF, own', er', q⟩
      | ret d => rw [e] at q; exact q
      | exc c p => rw [e] at q; exact q
      | brk env' => rw [e] at q; exact q
      | bad => rw [e] at q; exact q
  | .fz i r => fun X W xs so h env => by
    unfold mSL at h
    refine PSs.imp (sSL r X W xs so h (freeze env i)) fun D σ H ⟨S0, HF, own, er, q⟩ => ?_
    obtain ⟨own', er', _⟩ := er.release i
    rw [evSL] at q
    exact ⟨S0, HF, own', er', q⟩
end
structure FnS where
  x : Str
  N : List Str
  ps : List Str
  params : Arguments
  body : List Stmt
  scope : Scope
  F : Fn
def scopeB (N ps : List Str) (sc : Scope) : Bool := (match sc.kind with | .function => true | _ => false) && !sc.isCoroutine && !sc.isGenerator && decide N.Nodup && decide (List.take ps.length N = ps) && (ps.all fun x => locB sc x) && (sc.names.all fun y => match y.2 with | .free => false | _ => true)
theorem scope_of {N ps : List Str} {sc : Scope} (h : scopeB N ps sc = true) : FnScope N ps sc := by
  simp only [scopeB, Bool.and_eq_true, decide_eq_true_eq, Bool.not_eq_true', List.all_eq_true] at h
  obtain ⟨⟨⟨⟨⟨⟨h1, h2⟩, h3⟩, h4⟩, h5⟩, h6⟩, hz⟩ := h
  refine ⟨?_, h2, h3, h4, h5, fun x hx => loc_of (h6 x hx), fun y hy z => ?_⟩
  · cases e : sc.kind <;> rw [e] at h1 <;> first | rfl | cases h1
  · have := hz y hy
    rw [z] at this
    cases this
def chkF (c : Cfg) (d : FnS) : Bool := scopeB d.N d.ps d.scope && decide (d.F.np = d.ps.length) && decide (d.F.nn = d.N.length) && mSL c d.N d.F.body d.scope d.body
theorem start_len {N : List Str} {vs : List V} (h : vs.length ≤ N.length) : (L2.start N vs).length = N.length := by
  unfold L2.start
  rw [List.length_append, List.length_map, List.length_replicate]; omega
theorem start_get {N : List Str} {vs : List V} {i : Nat} {v : V} (h : vs[i]? = some v) : (L2.start N vs)[i]? = some (some v) := by
  unfold L2.start
  have hi := (List.getElem?_eq_some_iff.mp h).1
  rw [List.getElem?_append_left (by rw [List.length_map]; exact hi), List.getElem?_map, h]; rfl
theorem er_start {K : PySem.W.Frag} {F : Fn} {N : List Str} {vs : List V} {ds : List D} {S : Addr → Prop} {H : Hp} (hN : F.nn = N.length) (hl : ds.length ≤ N.length) (hS : ∀ z, S z → NT H z) (r : RepL G.fa K (hid S H) vs ds) :
    ER G K S H (fun _ => []) (L2.start N vs) H (startE F ds) := by
  have hvl := r.length
  have hs : ∀ s, SS S (fun _ => []) s ↔ S s := fun s => ⟨fun z => z.elim id (fun ⟨_, w⟩ => nomatch w), .inl⟩
  have key : Le (hid S H) (hid (SS S (fun _ => [])) H) := Le.of (hid_mono (Same.refl _) fun a _ _ z => (hs a).mp z)
  have get : ∀ (i : Nat) (s : Sl), (startE F ds)[i]? = some s → s = .em ∨ ∃ d, s = .sh d ∧ ds[i]? = some d := fun i s e => by
    unfold startE at e
    by_cases hi : i < ds.length
    · rw [List.getElem?_append_left (by rw [List.length_map]; exact hi), List.getElem?_map, List.getElem?_eq_getElem hi] at e
      cases e
      exact .inr ⟨ds[i], rfl, List.getElem?_eq_getElem hi⟩
    · rw [List.getElem?_append_right (by rw [List.length_map]; omega), List.getElem?_replicate] at e
      split at e
      · cases e; exact .inl rfl
      · cases e
  refine ⟨?_, fun i d e => ?_, fun i d e => ?_, fun i d e => ?_, fun _ _ z => (nomatch z), fun _ => .nil, fun _ _ _ z => (nomatch z), Same.refl _, fun _ _ z => (nomatch z), fun _ _ z => (nomatch z), hS⟩
  · rw [start_len (by omega)]
    unfold startE
    rw [List.length_append, List.length_map, List.length_replicate]; omega
  · rcases get i _ e with z | ⟨d', z, e'⟩
    · cases z
    · cases z
      obtain ⟨v, h1, h2⟩ := r.get e'
      exact ⟨v, start_get h1, h2.mono key⟩
  · rcases get i _ e with z | ⟨d', z, e'⟩ <;> cases z
  · rcases get i _ e with z | ⟨d', z, e'⟩ <;> cases z
end
end Pu
end
section
set_option maxRecDepth 100000
set_option maxHeartbeats 1000000
namespace Pu
open PySem PySem.Spec L2
structure Glob (c : Cfg) (Ds : List (Nat × FnS)) (G : Gc) (T : Nat → Option Fn) (gl : Nat → D) (Pg : Program) (w : World) (K : PySem.W.Frag) (mg : Str → Option Value) (base : Heap) : Prop where
  tab : ∀ f d, Ds.lookup f = some d → T f = some d.F
  fns : ∀ f x, (f, x) ∈ c.fns → ∃ d, Ds.lookup f = some d ∧ d.x = x
  chk : ∀ f d, Ds.lookup f = some d → chkF c d = true
  fn : ∀ f d, Ds.lookup f = some d → ∃ a, G.fa f = some a ∧ mg d.x = some (.ref a) ∧ ∃ qual fd, FunD K d.x qual d.params d.body d.scope [] [] a fd ∧ Binds K fd d.ps []
  fv : ∀ f a, G.fa f = some a → ∃ x, (f, x) ∈ c.fns
  wh : ∀ x, x ∈ c.wh → ClsF K G.cl ∧ ∃ f fd e o qual params body scope, mg x = some (.ref f) ∧ FunD K x qual params body scope [] [] f fd ∧ Binds K fd [e] [] ∧ FnScope [e, o] [e] scope ∧ whB c e o scope body = true
  bi : ∀ x, x ∈ c.bis → mg x = none
  tg : ∀ j x, (j, x) ∈ c.tgs → ∃ (a : Addr) (ws : List Str), mg x = some (.ref a) ∧ gl j = .tup (ws.map .str) ∧ ws.length ≤ 1000 ∧ ∀ H, SqT K H a (ws.map V.str)
  gl : ∀ j x, (j, x) ∈ c.gls → ∃ u v, mg x = some u ∧ RelV v u ∧ ∀ H, Rep G.fa K H v (gl j)
  cls : ∀ k x, (k, x) ∈ c.cls → mg x = some (.ref (G.cl k)) ∧ PySem.W.keepIn K (.ref (G.cl k)) = true ∧ (k ≠ 4 → (∀ X : Cx, X.K = K → Raises X (.ref (G.cl k))) ∧ PySem.W.excIn K (G.cl k) [.type "ValueError", .type "Exception", .type "BaseException", .type "object"] "ValueError.__new__" = true)
  nr : c.nr = true → OexC K (G.cl 4) ∧ PySem.W.findIn K (.ref (G.cl 4)) xNumber = some none ∧ ∃ fI fd x a b qual params body scope, PySem.W.findIn K (.ref (G.cl 4)) "__init__" = some (some (.ref fI)) ∧ PySem.W.typeIn K (.ref fI) = some (.type "function") ∧ FunD K x qual params body scope [] [] fI fd ∧ Binds K fd [a, b] [] ∧ FnScope [a, b] [a, b] scope ∧ iniB a b scope body = true
section
variable {c : Cfg} {Ds : List (Nat × FnS)} {G : Gc} {T : Nat → Option Fn} {gl : Nat → D} {Pg : Program} {w : World} {K : PySem.W.Frag} {mg : Str → Option Value} {base : Heap}
theorem spF_len {call : Nat → List D → R D} {f : Nat} {vs : List V} {H : Hp} {Q : VK} {E : XK} {k : Nat} (hc : ∀ ds, call f ds ≠ .bad → ds.length = k) (h : spF G K call f vs H Q E) : vs.length = k := by
  obtain ⟨S, ds, hS, r, q⟩ := h
  rw [r.length]
  refine hc ds fun z => ?_
  rw [z] at q
  exact q
theorem wh_of (g : Glob c Ds G T gl Pg w K mg base) {X : Cx} {x : Str} (hx : x ∈ c.wh) (hP : X.prog = Pg := by rfl) (hw : X.w = w := by rfl) (hK : X.K = K := by rfl) (hm : X.mg = mg := by rfl) (hb : X.base = base := by rfl) : WhOk X G.cl x := by
  subst hP hw hK hm hb
  obtain ⟨F, f, fd, e, o, qual, params, body, scope, h1, h2, h3, h4, h5⟩ := g.wh x hx
  refine ⟨F, f, fd, e, h1, h2.kp, h3, fun p k hk => fnP_of (k := 0) h2 h4 (fun vs H Q E z => ?_) fun cdv A outer s H vs Q rm hs => ?_⟩
  · obtain ⟨z, _⟩ := z
    subst z
    rfl
  · obtain ⟨z, hc, q⟩ := hs
    subst z
    refine ⟨_, wh_walk (X := Xh X.prog X.w X.K X.mg X.base [e, o] qual scope f cdv A outer s H p) (c := c) (cl := G.cl) (p := p) (k0 := k) (e := e) (o := o) ⟨F, hk, List.mem_cons_self, fun k x hx => (g.cls k x hx).1, g.bi, rfl, h4.nd, fun _ => rfl, by have := rm.un; show (A.deeper _).units + 200 < cLine; omega⟩ h5, rfl, rfl, hc, q⟩
theorem nr_of (g : Glob c Ds G T gl Pg w K mg base) {X : Cx} (h : c.nr = true) (hP : X.prog = Pg := by rfl) (hw : X.w = w := by rfl) (hK : X.K = K := by rfl) (hm : X.mg = mg := by rfl) (hb : X.base = base := by rfl) : NrOk X (G.cl 4) := by
  subst hP hw hK hm hb
  obtain ⟨h1, h2, fI, fd, x, a, b, qual, params, body, scope, h3, h4, h5, h6, h7, h8⟩ := g.nr h
  exact ⟨h1, h2, fI, fd, [a, b], h3, h4, ini_ok h5 h7 h8 h1 h2, h6⟩
theorem all_ok (g : Glob c Ds G T gl Pg w K mg base) : ∀ (n f : Nat) (d : FnS), Ds.lookup f = some d → ∀ qual fd, ∀ a, FunD K d.x qual d.params d.body d.scope [] [] a fd → FnOk Pg w K mg base (L2N.CX Pg w) (n + 2) a fd d.ps (spF G K (callN T gl n) f)
  | 0, f, d, hd, qual, fd, a, F => ⟨fun vs H Q E ⟨S, ds, hS, r, q⟩ => q.elim, fun A outer s H args us vs Q E hr he hb hv ⟨S, ds, hS, r, q⟩ => q.elim⟩
  | n + 1, f, d, hd, qual, fd, a, F => by
    have hc := g.chk f d hd
    simp only [chkF, Bool.and_eq_true, decide_eq_true_eq] at hc
    obtain ⟨⟨⟨c1, c2⟩, c3⟩, c4⟩ := hc
    have sc := scope_of c1
    have hT : T f = some d.F := g.tab f d hd
    have hrun : ∀ ds, callN T gl (n + 1) f ds = runFn ⟨callN T gl n, gl⟩ d.F ds := fun ds => by
      show (match T f with | some F => _ | none => _) = _
      rw [hT]
    have hps : d.ps.length ≤ d.N.length := by
      have := congrArg List.length sc.pre
      rw [List.length_take] at this
      omega
    refine F.ok (CX := L2N.CX Pg w) sc (fun vs H Q E h => spF_len (fun ds hb => ?_) h) fun cdv A outer s H vs Q E hr hsp => ?_
    · rw [hrun] at hb
      unfold runFn at hb
      split at hb
      · rename_i e; rw [e, c2]
      · exact (hb rfl).elim
    · obtain ⟨S, ds, hS, r, q⟩ := hsp
      rw [hrun] at q
      unfold runFn at q
      by_cases hl : ds.length = d.F.np
      case neg => rw [if_neg hl] at q; exact q.elim
      rw [if_pos hl] at q
      let X := cxOf (L2N.CX Pg w) Pg w K mg base d.N qual d.scope a cdv A outer s H E
      have ok : Cok c G ⟨callN T gl n, gl⟩ X n := ⟨rfl, hr, sc.nd, g.bi, g.gl, fun f' x hx => by
        obtain ⟨d', e, hx'⟩ := g.fns f' x hx
        subst hx'
        obtain ⟨a', h0, h1, qual', fd', h2, h3⟩ := g.fn f' d' e
        exact ⟨a', h0, h1, h2.kp, fd', d'.ps, all_ok g n f' d' e qual' fd' a' h2, h3⟩, g.fv, g.tg⟩
      have so : Sok c G ⟨callN T gl n, gl⟩ X n (fun cls d x H => E cls d H) := ⟨ok, L2N.takes_of rfl rfl rfl rfl, passes_of rfl, by
        show (if d.scope.kind.isAnnotationScope = true then ScopeKind.function else d.scope.kind) = .function
        rw [sc.kind]; rfl, fun _ => rfl, fun k x hx => by
        obtain ⟨h1, h2, h3⟩ := g.cls k x hx
        exact ⟨h1, h2, fun z => ⟨(h3 z).1 X rfl, (h3 z).2⟩⟩, fun x hx => wh_of g hx, ⟨rfl, rfl⟩, fun z => nr_of g z⟩
      refine ⟨_, sSL d.F.body X _ d.body so c4 (startE d.F ds), S, H, fun _ => [], er_start (c3) (by rw [hl, c2]; exact hps) hS r, ?_⟩
      cases e : evSL ⟨callN T gl n, gl⟩ (startE d.F ds) d.F.body with
      | nx env' => rw [e] at q; exact fun σ' H' own' er' => q .non H' er'.hf .non
      | ret dd => rw [e] at q; exact fun v H' s r => q v H' s r
      | exc k p => rw [e] at q; exact fun dd σ' H' s ex => q dd H' s ex
      | brk env' => rw [e] at q; exact q.elim
      | bad => rw [e] at q; exact q.elim
end
end Pu
end
section
set_option maxRecDepth 100000
set_option maxHeartbeats 1000000
namespace Pu
open PySem PySem.Spec L2
def toD (d : FnS) : He.DefD := ⟨(d.x, none), d.x, d.x, d.params, d.body, d.scope, [], []⟩
def glFa (p : Str × D) : He.Fa := match p.2 with
  | .int i => .int p.1 i
  | .str z => .str p.1 z
  | .tup _ => .glo p.1
  | _ => .free p.1
def glOk (p : Str × D) : Bool := match p.2 with
  | .int _ => true
  | .str _ => true
  | .tup ds => (strsD ds).isSome && decide (ds.length ≤ 1000)
  | _ => false
def faAll (fns bis : List Str) (glv : List (Str × D)) (cls : List (Nat × Str)) : List He.Fa :=
  fns.map .glo ++ (bis.map .free ++ (glv.map glFa ++ (cls.map (fun p => .glo p.2) ++ (cls.map (fun p => .keep p.2) ++ (cls.filter fun p => decide (p.1 ≠ 4)).map fun p => .exc p.2))))
def clOf (K : PySem.W.Frag) (cls : List (Nat × Str)) : Nat → Addr := fun k => He.ga K ((cls.lookup k).getD "")
def gcOf (K : PySem.W.Frag) (Ds : List (Nat × FnS)) (cls : List (Nat × Str)) : Gc := ⟨fun f => (Ds.lookup f).map fun d => He.ga K d.x, clOf K cls⟩
def oneK (K : PySem.W.Frag) (D : Addr) : Bool := He.eqO (PySem.W.findIn K (.ref D) "__getattribute__") (some (some (.builtin "BaseException.__getattribute__"))) && He.eqO (PySem.W.findIn K (.ref D) "__getattr__") (some none) &&
  decide (PySem.W.subIn K (.ref D) (.type "BaseException") = some true) && PySem.W.hasDictIn K D && He.eqO (PySem.W.findIn K (.ref D) "__class__") (some (some (.builtin "object.__class__"))) &&
  He.eqO (PySem.W.specialIn K (.builtin "object.__class__") "__get__") (some (some (.builtin "getset_descriptor.__get__"))) && decide (PySem.W.takesIn K (.builtin "object.__class__") = some true) && decide (PySem.W.mroIn K D (.type "object") = some true)
theorem oneK_ok {K : PySem.W.Frag} {D : Addr} (h : oneK K D = true) : L2.ExcC K D := by
  simp only [oneK, Bool.and_eq_true, decide_eq_true_eq] at h
  obtain ⟨⟨⟨⟨⟨⟨⟨c1, c2⟩, c3⟩, c4⟩, c5⟩, c6⟩, c7⟩, c8⟩ := h
  exact ⟨He.eqO_ok c1, He.eqO_ok c2, c3, c4, He.eqO_ok c5, He.eqO_ok c6, c7, c8⟩
def clsK (K : PySem.W.Frag) (cl : Nat → Addr) : Bool := (List.range 11).all fun k => oneK K (cl k) && ((List.range 11).all fun j => decide (PySem.W.kitOne K (.ref (cl k)) (.ref (cl j)) = some (decide (k = j)))) &&
  decide (PySem.W.kitOne K (.ref (cl k)) (.type "ValueError") = some true) && decide (PySem.W.exmOne K (.ref (cl k)) (.ref (cl 11)) = some true) && decide (PySem.W.exmOne K (.ref (cl k)) (.ref (cl 4)) = some (decide (k = 4)))
theorem clsK_ok {K : PySem.W.Frag} {cl : Nat → Addr} (h : clsK K cl = true) : ClsF K cl := by
  have g : ∀ k, k < 11 → L2.ExcC K (cl k) ∧ (∀ j, j < 11 → PySem.W.kitOne K (.ref (cl k)) (.ref (cl j)) = some (decide (k = j))) ∧ PySem.W.kitOne K (.ref (cl k)) (.type "ValueError") = some true ∧ PySem.W.exmOne K (.ref (cl k)) (.ref (cl 11)) = some true ∧ PySem.W.exmOne K (.ref (cl k)) (.ref (cl 4)) = some (decide (k = 4)) := fun k hk => by
    have z := List.all_eq_true.mp h k (List.mem_range.mpr hk)
    simp only [decide_eq_true_eq, Bool.and_eq_true, List.all_eq_true, List.mem_range] at z
    obtain ⟨⟨⟨⟨z1, z2⟩, z3⟩, z4⟩, z5⟩ := z
    exact ⟨oneK_ok z1, z2, z3, z4, z5⟩
  exact ⟨fun k hk => (g k hk).1, fun k j hk hj => (g k hk).2.1 j hj, fun k hk => (g k hk).2.2.1, fun k hk => (g k hk).2.2.2.1, fun k hk => (g k hk).2.2.2.2⟩
abbrev AlE : Type := He.AlD × Bool
def obsE (fa : List He.Fa) (fn : List He.DefD) (ex : PySem.W.Frag → Bool) (K : PySem.W.Frag) : AlE := (He.obsD fa fn K, ex K)
def lvl (g : Addr → Option Obj) : Nat → List Addr
  | 0 => [mainGlobals]
  | n + 1 => ((lvl g n).flatMap fun a => match g a with
    | some o => He.refsD o
    | none => []).eraseDups
def asL (g : Addr → Option Obj) : Nat → List Addr
  | 0 => lvl g 0
  | n + 1 => asL g n ++ lvl g (n + 1)
def obsEG (n : Nat) (fa : List He.Fa) (fn : List He.DefD) (ex : PySem.W.Frag → Bool) (g : Addr → Option Obj) : AlE := obsE fa fn ex (He.frG g (asL g n))
def SaysE (fa : List He.Fa) (fn : List He.DefD) (ex : PySem.W.Frag → Bool) (K : PySem.W.Frag) : Prop := obsE fa fn ex K = (He.valD fn, true)
theorem SaysE.d {fa : List He.Fa} {fn : List He.DefD} {ex : PySem.W.Frag → Bool} {K : PySem.W.Frag} (h : SaysE fa fn ex K) : He.SaysD fa fn K := (Prod.mk.inj h).1
theorem SaysE.e {fa : List He.Fa} {fn : List He.DefD} {ex : PySem.W.Frag → Bool} {K : PySem.W.Frag} (h : SaysE fa fn ex K) : ex K = true := (Prod.mk.inj h).2
def hookE (n : Nat) (fa : List He.Fa) (fn : List He.DefD) (ex : PySem.W.Frag → Bool) : PySem.W.Hook where
  α := AlE
  obs := fun s => obsEG n fa fn ex s.heap.get?
  val := fun _ => (He.valD fn, true)
  says := fun _ h => ∃ K : PySem.W.Frag, K.In h ∧ SaysE fa fn ex K
  of := fun _ _ e => ⟨_, He.frG_in, e⟩
  keeps := fun _ _ _ ⟨K, h, c⟩ k => ⟨K, h.keeps k, c⟩
theorem obsEG_eq {n : Nat} {fa : List He.Fa} {fn : List He.DefD} {ex : PySem.W.Frag → Bool} {g : Addr → Option Obj} {s : Shared} (h : ∀ a, g a = s.heap.get? a) : obsEG n fa fn ex g = (hookE n fa fn ex).obs s := congrArg (obsEG n fa fn ex) (funext h)
def BindOk (d : FnS) : Prop := ∀ (kV doc pm : Value) (an : Option Addr) (cdv ct : Value) (us : List Value), us.length = d.ps.length → bindArgs (PySem.W.fnOf d.x d.x d.params d.body d.scope .none kV doc pm an cdv ct) ⟨us, []⟩ = pure (d.ps.zip us)
def AllP {α : Type} (p : α → Prop) : List α → Prop
  | [] => True
  | a :: r => p a ∧ AllP p r
theorem AllP.get {α : Type} {p : α → Prop} : ∀ {l : List α} {i : Nat} {a : α}, AllP p l → l[i]? = some a → p a
  | [], _, _, _, hb => by simp at hb
  | b :: r, 0, a, h, e => by simp at e; subst e; exact h.1
  | b :: r, i + 1, a, h, e => AllP.get h.2 (by simpa using e)
theorem fact_mem {fa : List He.Fa} {fn : List He.DefD} {K : PySem.W.Frag} (c : He.SaysD fa fn K) {f : He.Fa} (h : f ∈ fa) : f.ok K = true := by
  obtain ⟨i, hi⟩ := List.getElem?_of_mem h
  exact c.fact i hi
theorem lookup_mem {α : Type} : ∀ {l : List (Nat × α)} {k : Nat} {a : α}, l.lookup k = some a → (k, a) ∈ l
  | [], _, _, h => by cases h
  | (j, b) :: r, k, a, h => by
    rw [List.lookup_cons] at h
    split at h
    · rename_i e
      cases h
      rw [eq_of_beq e]
      exact List.mem_cons_self
    · exact List.mem_cons_of_mem _ (lookup_mem h)
def isTu : D → Bool
  | .tup _ => true
  | _ => false
def cfgOf (Ds : List (Nat × FnS)) (glv : List (Nat × Str × D)) (bis : List Str) (cls : List (Nat × Str)) (whs inis : List FnS) : Cfg := ⟨Ds.map fun p => (p.1, p.2.x), (glv.filter fun p => !isTu p.2.2).map fun p => (p.1, p.2.1), bis, cls, whs.map (·.x), !inis.isEmpty, (glv.filter fun p => isTu p.2.2).map fun p => (p.1, p.2.1)⟩
theorem def_mem {fa : List He.Fa} {fn : List He.DefD} {K : PySem.W.Frag} (c : He.SaysD fa fn K) {d : He.DefD} (h : d ∈ fn) : ∃ fd, FunD K d.name d.qual d.params d.body d.scope (d.dvs K) (d.kws K) (He.fAd K d.at_) fd := by
  obtain ⟨i, hi⟩ := List.getElem?_of_mem h
  exact c.def_ i hi
def chkW (c : Cfg) (d : FnS) : Bool := match d.N with
  | [e, o] => decide (d.ps = [e]) && scopeB d.N d.ps d.scope && whB c e o d.scope d.body
  | _ => false
def toI (rx : Str) (d : FnS) : He.DefD := ⟨(rx, some "__init__"), d.x, rx ++ "." ++ d.x, d.params, d.body, d.scope, [], []⟩
def chkI (d : FnS) : Bool := match d.N with
  | [a, b] => decide (d.ps = [a, b]) && scopeB d.N d.ps d.scope && iniB a b d.scope d.body
  | _ => false
def BindI (rx : Str) (d : FnS) : Prop := ∀ (kV doc pm : Value) (an : Option Addr) (cdv ct : Value) (us : List Value), us.length = d.ps.length → bindArgs (PySem.W.fnOf d.x (rx ++ "." ++ d.x) d.params d.body d.scope .none kV doc pm an cdv ct) ⟨us, []⟩ = pure (d.ps.zip us)
def exI (cls : List (Nat × Str)) (K : PySem.W.Frag) : Bool := oexB K (clOf K cls 4) && He.eqO (PySem.W.findIn K (.ref (clOf K cls 4)) xNumber) (some none) && He.eqO (PySem.W.findIn K (.ref (clOf K cls 4)) "__init__") (some (some (.ref (He.fAd K ((cls.lookup 4).getD "", some "__init__"))))) &&
  decide (PySem.W.typeIn K (.ref (He.fAd K ((cls.lookup 4).getD "", some "__init__"))) = some (.type "function"))
def strItems : List Value → List D → Bool
  | [], [] => true
  | .str x _ :: vs, .str y :: ds => decide (x = y) && strItems vs ds
  | _, _ => false
theorem strItems_ok : ∀ {vs : List Value} {ds : List D}, strItems vs ds = true → ∃ ws : List Str, ds = ws.map D.str ∧ Vals (ws.map V.str) vs
  | [], [], _ => ⟨[], rfl, .nil⟩
  | [], _ :: _, h => by cases h
  | v :: vs, [], h => by cases v <;> cases h
  | v :: vs, d :: ds, h => by
    cases v with
    | str x t =>
      cases d with
      | str y =>
        have h : (decide (x = y) && strItems vs ds) = true := h
        (rw [Bool.and_eq_true, decide_eq_true_eq] at h)
        obtain ⟨ws, e, r⟩ := strItems_ok h.2
        exact ⟨y :: ws, by rw [e] <;> rfl, .cons ⟨t, by rw [h.1]⟩ r⟩
      | _ => cases h
    | _ => cases d <;> cases h
def tupK (K : PySem.W.Frag) (a : Addr) (ds : List D) : Bool := match K.lookup a with
  | some o => (match o.cls, o.data with
    | .type t, .seq its _ => decide (t = "tuple") && decide (its.size ≤ 1000) && strItems its.toList ds
    | _, _ => false)
  | none => false
theorem tupK_ok {K : PySem.W.Frag} {a : Addr} {ds : List D} (h : tupK K a ds = true) : ∃ ws : List Str, ds = ws.map D.str ∧ ws.length ≤ 1000 ∧ ∀ H, SqT K H a (ws.map V.str) := by
  unfold tupK at h
  split at h
  · rename_i o e
    split at h
    · rename_i t its n e1 e2
      rw [Bool.and_eq_true, Bool.and_eq_true, decide_eq_true_eq, decide_eq_true_eq] at h
      obtain ⟨ws, e3, r⟩ := strItems_ok h.2
      have ln : ws.length = its.size := by simpa using r.length
      exact ⟨ws, e3, by rw [ln]; exact h.1.2, fun H => .inr ⟨o, its, n, e, by rw [e1, h.1.1], e2, sz_words h.1.2, r⟩⟩
    · cases h
  · cases h
def exT (glv : List (Nat × Str × D)) (K : PySem.W.Frag) : Bool := glv.all fun p => match p.2.2 with
  | .tup ds => tupK K (He.ga K p.2.1) ds
  | _ => true
def exW (cls : List (Nat × Str)) (whs inis : List FnS) (glv : List (Nat × Str × D)) (K : PySem.W.Frag) : Bool := ((whs.isEmpty || clsK K (clOf K cls)) && (inis.isEmpty || exI cls K)) && exT glv K
def keysOk {α : Type} : List (Nat × α) → Bool
  | [] => true
  | (k, _) :: r => r.all (fun p => p.1 != k) && keysOk r
theorem lookup_of {α : Type} : ∀ {l : List (Nat × α)} {k : Nat} {a : α}, keysOk l = true → (k, a) ∈ l → l.lookup k = some a
  | [], _, _, _, hb => by cases hb
  | (j, b) :: r, k, a, h, hm => by
    unfold keysOk at h
    rw [Bool.and_eq_true, List.all_eq_true] at h
    rw [List.lookup_cons]
    rcases List.mem_cons.mp hm with e1 | e1
    · cases e1; simp
    · have h1 := h.1 _ e1
      have : (k == j) = false := by simpa using h1
      rw [this]
      exact lookup_of h.2 e1
theorem glob_of {T : Nat → Option Fn} {gl : Nat → D} {Ds : List (Nat × FnS)} {bis : List Str} {glv : List (Nat × Str × D)} {cls : List (Nat × Str)} {whs inis : List FnS} {Pg : Program} {w : World} {K : PySem.W.Frag} {mg : Str → Option Value} {base : Heap} {h : Heap} (X : K.In h) (Gn : h.Ns mainGlobals mg)
    (c : He.SaysD (faAll (Ds.map (·.2.x) ++ whs.map (·.x)) bis (glv.map (·.2)) cls) ((Ds.map (·.2) ++ whs).map toD ++ inis.map (toI ((cls.lookup 4).getD ""))) K) (cx : exW cls whs inis glv K = true) (chw : whs.all (chkW (cfgOf Ds glv bis cls whs inis)) = true) (hbw : AllP BindOk whs) (chi : inis.all chkI = true) (hbi : AllP (BindI ((cls.lookup 4).getD "")) inis) (chk : Ds.all (fun p => chkF (cfgOf Ds glv bis cls whs inis) p.2) = true) (hb : AllP BindOk (Ds.map (·.2))) (hg : (glv.map (·.2)).all glOk = true) (hk : (keysOk Ds && keysOk glv && keysOk cls) = true) (hT : AllP (fun p => T p.1 = some p.2.F) Ds) (hG : AllP (fun p => gl p.1 = p.2.2) glv) :
    Glob (cfgOf Ds glv bis cls whs inis) Ds (gcOf K Ds cls) T gl Pg w K mg base where
  tab := fun f d hd => by
    obtain ⟨i, hi⟩ := List.getElem?_of_mem (lookup_mem hd)
    exact hT.get hi
  fns := fun f x hx => by
    obtain ⟨p, hp, e⟩ := List.mem_map.mp hx
    cases e
    rw [Bool.and_eq_true, Bool.and_eq_true] at hk
    exact ⟨p.2, lookup_of hk.1.1 hp, rfl⟩
  chk := fun f d hd => List.all_eq_true.mp chk (f, d) (lookup_mem hd)
  fn := fun f d hd => by
    have hm := lookup_mem hd
    have e : (gcOf K Ds cls).fa f = some (He.ga K d.x) := by show Option.map _ _ = _; rw [hd]; rfl
    have h1 := fact_mem c (f := .glo d.x) (List.mem_append_left _ (List.mem_map_of_mem (List.mem_append_left _ (List.mem_map.mpr ⟨_, hm, rfl⟩))))
    obtain ⟨i, hi⟩ := List.getElem?_of_mem hm
    obtain ⟨fd, F⟩ := def_mem c (d := toD d) (List.mem_append_left _ <| List.mem_map_of_mem (List.mem_append_left _ (List.mem_map.mpr ⟨_, hm, rfl⟩)))
    have F : FunD K d.x d.x d.params d.body d.scope [] [] (He.ga K d.x) fd := F
    exact ⟨_, e, He.glo_ok X Gn h1, d.x, fd, F, F.bindsN (hb.get (i := i) (by rw [List.getElem?_map, hi]; rfl))⟩
  fv := fun f a h => by
    obtain ⟨d, h1, _⟩ := Option.map_eq_some_iff.mp h
    exact ⟨d.x, List.mem_map.mpr ⟨(f, d), lookup_mem h1, rfl⟩⟩
  wh := fun x hx => by
    obtain ⟨d, hd, e⟩ := List.mem_map.mp hx
    subst e
    have ne : whs.isEmpty = false := by
      cases whs with
      | nil => cases hd
      | cons _ _ => rfl
    have cx : (whs.isEmpty || clsK K (clOf K cls)) = true := (Bool.and_eq_true_iff.mp (Bool.and_eq_true_iff.mp cx).1).1
    rw [ne, Bool.false_or] at cx
    have h1 := fact_mem c (f := .glo d.x) (List.mem_append_left _ (List.mem_map_of_mem (List.mem_append_right _ (List.mem_map.mpr ⟨_, hd, rfl⟩))))
    obtain ⟨fd, F⟩ := def_mem c (d := toD d) (List.mem_append_left _ <| List.mem_map_of_mem (List.mem_append_right _ hd))
    have F : FunD K d.x d.x d.params d.body d.scope [] [] (He.ga K d.x) fd := F
    obtain ⟨i, hi⟩ := List.getElem?_of_mem hd
    have B := F.bindsN (hbw.get hi)
    have hc := List.all_eq_true.mp chw d hd
    unfold chkW at hc
    split at hc
    · rename_i e o hN
      simp only [decide_eq_true_eq, Bool.and_eq_true] at hc
      obtain ⟨⟨h2, h3⟩, h4⟩ := hc
      rw [h2] at B h3
      rw [hN] at h3
      exact ⟨clsK_ok cx, _, fd, e, o, _, _, _, _, He.glo_ok X Gn h1, F, B, scope_of h3, h4⟩
    · cases hc
  bi := fun x hx => He.free_ok X Gn (fact_mem c (f := .free x) (List.mem_append_right _ (List.mem_append_left _ (List.mem_map_of_mem hx))))
  gl := fun j x hx => by
    obtain ⟨⟨j', p⟩, hp, e⟩ := List.mem_map.mp hx
    cases e
    obtain ⟨hp, tu⟩ := List.mem_filter.mp hp
    have hp2 : p ∈ glv.map (·.2) := List.mem_map.mpr ⟨_, hp, rfl⟩
    have h1 := fact_mem c (f := glFa p) (List.mem_append_right _ (List.mem_append_right _ (List.mem_append_left _ (List.mem_map_of_mem hp2))))
    have h2 := List.all_eq_true.mp hg p hp2
    rw [Bool.and_eq_true, Bool.and_eq_true] at hk
    have hgl : gl j' = p.2 := by
      obtain ⟨i, hi⟩ := List.getElem?_of_mem hp
      exact hG.get hi
    obtain ⟨y, d⟩ := p
    cases d with
    | int i => obtain ⟨t, e1⟩ := He.int_ok X Gn h1; exact ⟨_, .int i, e1, ⟨t, rfl⟩, fun H => by rw [hgl]; exact .int i⟩
    | str z => obtain ⟨t, e1⟩ := He.str_ok X Gn h1; exact ⟨_, .str z, e1, ⟨t, rfl⟩, fun H => by rw [hgl]; exact .str z⟩
    | tup _ => cases tu
    | _ => cases h2
  cls := fun k x hx => by
    have hx : (k, x) ∈ cls := hx
    rw [Bool.and_eq_true, Bool.and_eq_true] at hk
    have hl : cls.lookup k = some x := lookup_of hk.2 hx
    have e : (gcOf K Ds cls).cl k = He.ga K x := by show He.ga K _ = _; rw [hl]; rfl
    rw [e]
    have h1 := fact_mem c (f := .glo x) (List.mem_append_right _ (List.mem_append_right _ (List.mem_append_right _ (List.mem_append_left _ (List.mem_map.mpr ⟨_, hx, rfl⟩)))))
    have h2 := fact_mem c (f := .keep x) (List.mem_append_right _ (List.mem_append_right _ (List.mem_append_right _ (List.mem_append_right _ (List.mem_append_left _ (List.mem_map.mpr ⟨_, hx, rfl⟩))))))
    refine ⟨He.glo_ok X Gn h1, He.keep_ok h2, fun h4 => ?_⟩
    have h3 := fact_mem c (f := .exc x) (List.mem_append_right _ (List.mem_append_right _ (List.mem_append_right _ (List.mem_append_right _ (List.mem_append_right _ (List.mem_map.mpr ⟨_, List.mem_filter.mpr ⟨hx, by simpa using h4⟩, rfl⟩))))))
    obtain ⟨a1, a2, a3, a4⟩ := He.exc_ok h3
    exact ⟨fun X' hX => raises_own (by rw [hX]; exact a3) (by rw [hX]; exact a4), a1⟩
  tg := fun j x hx => by
    obtain ⟨⟨j', p⟩, hp, e⟩ := List.mem_map.mp hx
    cases e
    obtain ⟨hp, tu⟩ := List.mem_filter.mp hp
    have hp2 : p ∈ glv.map (·.2) := List.mem_map.mpr ⟨_, hp, rfl⟩
    have h1 := fact_mem c (f := glFa p) (List.mem_append_right _ (List.mem_append_right _ (List.mem_append_left _ (List.mem_map_of_mem hp2))))
    have hgl : gl j' = p.2 := by
      obtain ⟨i, hi⟩ := List.getElem?_of_mem hp
      exact hG.get hi
    have hx := List.all_eq_true.mp (Bool.and_eq_true_iff.mp cx).2 _ hp
    obtain ⟨y, d⟩ := p
    cases d with
    | tup ds =>
      obtain ⟨ws, e1, e2, e3⟩ := tupK_ok hx
      exact ⟨_, ws, He.glo_ok X Gn h1, by rw [hgl, ← e1], e2, e3⟩
    | _ => cases tu
  nr := fun h => by
    have h : (!inis.isEmpty) = true := h
    obtain ⟨d, hd⟩ : ∃ d, d ∈ inis := by
      cases inis with
      | nil => cases h
      | cons a _ => exact ⟨a, List.mem_cons_self⟩
    have cx : (inis.isEmpty || exI cls K) = true := (Bool.and_eq_true_iff.mp (Bool.and_eq_true_iff.mp cx).1).2
    have ne : inis.isEmpty = false := by simpa using h
    rw [ne, Bool.false_or] at cx
    simp only [exI, decide_eq_true_eq, Bool.and_eq_true] at cx
    obtain ⟨⟨⟨x1, x2⟩, x3⟩, x4⟩ := cx
    obtain ⟨fd, F⟩ := def_mem c (d := toI ((cls.lookup 4).getD "") d) (List.mem_append_right _ (List.mem_map_of_mem hd))
    have F : FunD K d.x ((cls.lookup 4).getD "" ++ "." ++ d.x) d.params d.body d.scope [] [] (He.fAd K ((cls.lookup 4).getD "", some "__init__")) fd := F
    obtain ⟨i, hi⟩ := List.getElem?_of_mem hd
    have B := F.bindsN (hbi.get hi)
    have hc := List.all_eq_true.mp chi d hd
    unfold chkI at hc
    split at hc
    · rename_i a b hN
      simp only [decide_eq_true_eq, Bool.and_eq_true] at hc
      obtain ⟨⟨h2, h3⟩, h4⟩ := hc
      rw [h2] at B h3
      rw [hN] at h3
      exact ⟨oexB_ok x1, He.eqO_ok x2, _, fd, _, a, b, _, _, _, _, He.eqO_ok x3, x4, F, B, scope_of h3, h4⟩
    · cases hc
def CXw (P : Program) : CXT := fun outer H s E u s' => ∃ w, L2N.CX P w outer H s E u s'
theorem FnOk.toW {P : Program} {w : World} {K : PySem.W.Frag} {mg : Str → Option Value} {base : Heap} {k : Nat} {f : Addr} {fd : FuncData} {ps : List Str} {sp : Sp} (h : FnOk P w K mg base (L2N.CX P w) k f fd ps sp) : FnOk P w K mg base (CXw P) k f fd ps sp :=
  ⟨h.len, fun A outer s H args us vs Q E hr he hb hv hs => codeAny_mono (h.run A outer s H args us vs Q E hr he hb hv hs) fun r s' q => by
    cases r with
    | ok fl => cases fl <;> exact q
    | error e => exact ⟨w, q⟩⟩
theorem CXw.no {P : Program} (H : Hp) (s : Shared) (e : Value) (s' : Shared) (h : CXw P [] H s (fun _ _ _ => False) e s') : False := by
  obtain ⟨w, a, B, H', cls, d, h1, h2, h3, h4, h5, h6, h7, h8⟩ := h
  exact h8
theorem law_end {T : Nat → Option Fn} {gl : Nat → D} {Ds : List (Nat × FnS)} {bis : List Str} {glv : List (Nat × Str × D)} {cls : List (Nat × Str)} {whs inis : List FnS} {Pg : Program} {w : World} {K : PySem.W.Frag} {mg : Str → Option Value} {f : Addr} {h : Heap} {n li : Nat} {d : FnS} {sc : Str} (X : K.In h) (Gn : h.Ns mainGlobals mg)
    (c : He.SaysD (faAll (Ds.map (·.2.x) ++ whs.map (·.x)) bis (glv.map (·.2)) cls) ((Ds.map (·.2) ++ whs).map toD ++ inis.map (toI ((cls.lookup 4).getD ""))) K) (cx : exW cls whs inis glv K = true) (chw : whs.all (chkW (cfgOf Ds glv bis cls whs inis)) = true) (hbw : AllP BindOk whs) (chi : inis.all chkI = true) (hbi : AllP (BindI ((cls.lookup 4).getD "")) inis) (chk : Ds.all (fun p => chkF (cfgOf Ds glv bis cls whs inis) p.2) = true) (hb : AllP BindOk (Ds.map (·.2))) (hg : (glv.map (·.2)).all glOk = true) (hk : (keysOk Ds && keysOk glv && keysOk cls) = true) (hT : AllP (fun p => T p.1 = some p.2.F) Ds) (hG : AllP (fun p => gl p.1 = p.2.2) glv)
    (hd : Ds.lookup li = some d) (hps : d.ps = [sc]) (hf : mg d.x = some (.ref f)) (math : ∀ ns : List Int, ns.length ≤ 63 → callN T gl n li [.scr ns] = .ok (.bl true)) :
    ∃ (fd : FuncData) (sp : Sp), (∀ (s : Shared) (u : Value), BindsTo s fd ⟨[u], []⟩ [(sc, u)]) ∧ (∀ (H : Hp) (a : Addr) (ns : List Int), ns.length ≤ 63 → Only H → SqL K H a (ns.map V.int) → sp [.ref a] H (fun v _ => v = .bl true) fun _ _ _ => False) ∧
      ∀ base : Heap, K.In base → base.Ns mainGlobals mg → FnOk Pg w K mg base (CXw Pg) (n + 2) f fd [sc] sp := by
  have g := fun base => glob_of (Pg := Pg) (w := w) (base := base) X Gn c cx chw hbw chi hbi chk hb hg hk hT hG
  obtain ⟨a0, e0, h1, qual, fd0, _, _⟩ := (g default).fn li d hd
  obtain ⟨i, hi⟩ := List.getElem?_of_mem (lookup_mem hd)
  obtain ⟨fd, F⟩ := def_mem c (d := toD d) (List.mem_append_left _ <| List.mem_map_of_mem (List.mem_append_left _ (List.mem_map.mpr ⟨_, lookup_mem hd, rfl⟩)))
  have F : FunD K d.x d.x d.params d.body d.scope [] [] (He.ga K d.x) fd := F
  have e : (gcOf K Ds cls).fa li = some (He.ga K d.x) := by show Option.map _ _ = _; rw [hd]; rfl
  rw [e] at e0
  cases e0
  rw [h1] at hf
  cases hf
  refine ⟨fd, spF (gcOf K Ds cls) K (callN T gl n) li, fun s u => ?_, fun H a ns hl _ hS => ?_, fun base _ _ => ?_⟩
  · have b := FunD.bindsA F (hb.get (i := i) (by rw [List.getElem?_map, hi]; rfl)) s [u] (by rw [hps]; rfl)
    rw [hps] at b
    exact b
  · have nS : ∀ S : Addr → Prop, (∀ z, ¬ S z) → Rep (gcOf K Ds cls).fa K (hid S H) (.ref a) (.scr ns) := fun S z => .scr ((Le.of fun b o e => hid_iff.mpr ⟨z b, e⟩).sq hS) hl
    refine ⟨fun _ => False, [.scr ns], fun _ z => z.elim, .cons (nS _ fun _ z => z) .nil, ?_⟩
    rw [math ns hl]
    intro v H' s r
    cases r
    rfl
  · have := all_ok (g base) n li d hd d.x fd _ F
    rw [hps] at this
    exact Pu.FnOk.toW this
end Pu
end
section
set_option maxRecDepth 100000
namespace Pu
open PySem
def b0 : SL := (.cons (.ret (.and (.cons (.isi .str (.var 0)) (.cons (.chain .le .le (.int 1) (.b1 .len (.var 0)) (.gl 1)) (.cons (.b1 .all (.comp (.cmp .isin (.var 1) (.gl 0)) (.one 1) (.seq (.var 0)) .none)) .nil))))) .nil)
def f0 : Fn := ⟨1, 2, b0⟩
def b1 : SL := (.cons (.ret (.and (.cons (.isi .int (.var 0)) (.cons (.not (.isi .bool (.var 0))) (.cons (.chain .le .le (.var 1) (.var 0) (.var 2)) .nil))))) .nil)
def f1 : Fn := ⟨3, 3, b1⟩
def b2 : SL := (.cons (.iff (.or (.cons (.not (.isi .tuple (.var 1))) (.cons (.not (.b1 .all (.comp (.and (.cons (.isi .str (.var 2)) (.cons (.cmp .isin (.var 2) (.var 0)) .nil))) (.one 2) (.seq (.var 1)) .none))) .nil))) (.cons (.ret (.bl false)) .nil) .nil) (.cons (.ret (.cmp .eq (.b1 .list (.var 1)) (.b1 .sset (.var 1)))) .nil))
def f2 : Fn := ⟨2, 3, b2⟩
def b3 : SL := (.cons (.ret (.not (.b1 .any (.comp (.cmp .isin (.var 2) (.var 1)) (.one 2) (.seq (.var 0)) .none)))) .nil)
def f3 : Fn := ⟨2, 3, b3⟩
def b4 : SL := (.cons (.iff (.or (.cons (.not (.isi .tuple (.var 1))) (.cons (.cmp .ne (.b1 .len (.var 1)) (.int 6)) (.cons (.not (.call 0 (.cons (.ix (.var 1) (.int 0)) .nil))) .nil)))) (.cons (.ret (.bl false)) .nil) .nil) (.cons (.iff (.or (.cons (.not (.b1 .all (.comp (.call 2 (.cons (.var 0) (.cons (.var 2) .nil))) (.one 2) (.seq (.sl (.var 1) (.some (.int 1)) (.some (.int 5)))) .none))) (.cons (.not (.call 1 (.cons (.ix (.var 1) (.int 5)) (.cons (.int 0) (.cons (.gl 4) .nil))))) .nil))) (.cons (.ret (.bl false)) .nil) .nil) (.cons (.ret (.and (.cons (.call 3 (.cons (.ix (.var 1) (.int 1)) (.cons (.ix (.var 1) (.int 2)) .nil))) (.cons (.call 3 (.cons (.ix (.var 1) (.int 3)) (.cons (.ix (.var 1) (.int 4)) .nil))) .nil)))) .nil)))
def f4 : Fn := ⟨2, 3, b4⟩
def b5 : SL := (.cons (.iff (.or (.cons (.not (.isi .tuple (.var 0))) (.cons (.cmp .ne (.b1 .len (.var 0)) (.int 2)) (.cons (.not (.isi .tuple (.ix (.var 0) (.int 0)))) (.cons (.cmp .gt (.b1 .len (.ix (.var 0) (.int 0))) (.gl 2)) .nil))))) (.cons (.ret (.bl false)) .nil) .nil) (.cons (.iff (.or (.cons (.not (.b1 .all (.comp (.call 0 (.cons (.var 1) .nil)) (.one 1) (.seq (.ix (.var 0) (.int 0))) .none))) (.cons (.cmp .ne (.b1 .list (.ix (.var 0) (.int 0))) (.b1 .sset (.ix (.var 0) (.int 0)))) .nil))) (.cons (.ret (.bl false)) .nil) .nil) (.cons (.iff (.or (.cons (.not (.isi .tuple (.ix (.var 0) (.int 1)))) (.cons (.cmp .gt (.b1 .len (.ix (.var 0) (.int 1))) (.gl 3)) .nil))) (.cons (.ret (.bl false)) .nil) .nil) (.cons (.iff (.not (.b1 .all (.comp (.call 4 (.cons (.ix (.var 0) (.int 0)) (.cons (.var 2) .nil))) (.one 2) (.seq (.ix (.var 0) (.int 1))) .none))) (.cons (.ret (.bl false)) .nil) .nil) (.cons (.ret (.cmp .eq (.b1 .lset (.comp (.ix (.var 2) (.int 0)) (.one 2) (.seq (.ix (.var 0) (.int 1))) .none)) (.b1 .len (.ix (.var 0) (.int 1))))) .nil)))))
def f5 : Fn := ⟨1, 3, b5⟩
def b6 : SL := (.cons (.iff (.not (.call 5 (.cons (.var 0) .nil))) (.cons (.rais 0) .nil) .nil) .nil)
def f6 : Fn := ⟨1, 1, b6⟩
def b7 : SL := (.cons (.ex (.call 6 (.cons (.var 0) .nil))) (.cons (.ret (.var 0)) .nil))
def f7 : Fn := ⟨1, 1, b7⟩
def b8 : SL := (.cons (.iff (.cmp .lt (.var 1) (.b1 .len (.var 0))) (.cons (.ret (.ix (.var 0) (.var 1))) .nil) .nil) (.cons (.iff (.cmp .eq (.var 0) (.lst .nil)) (.cons (.ret (.int 0)) .nil) .nil) (.cons (.ret (.bin .add (.bin .mul (.ix (.var 0) (.bin .mod (.var 1) (.b1 .len (.var 0)))) (.int 31)) (.var 1))) .nil)))
def f8 : Fn := ⟨2, 2, b8⟩
def b9 : SL := (.cons (.set 3 (.bin .mod (.bin .mul (.bin .add (.bin .add (.call 8 (.cons (.var 0) (.cons (.var 1) .nil))) (.bin .mul (.int 7919) (.var 1))) (.int 1)) (.int 48271)) (.int 2147483647))) (.cons (.ret (.bin .mod (.bin .mod (.bin .add (.bin .add (.bin .mul (.var 3) (.var 3)) (.bin .mul (.int 7) (.var 3))) (.var 1)) (.int 2147483629)) (.var 2))) .nil))
def f9 : Fn := ⟨3, 4, b9⟩
def b10_1 : SL := (.cons (.set 2 (.bin .add (.var 2) (.ix (.str "abcdefghijklmnopqrstuvwxyz") (.call 9 (.cons (.var 0) (.cons (.bin .add (.bin .add (.var 1) (.int 1)) (.var 3)) (.cons (.int 26) .nil))))))) .nil)
def b10 : SL := (.cons (.set 2 (.str "")) (.cons (.frr (.one 3) (.rng1 (.ix (.lst (.cons (.int 1) (.cons (.int 2) (.cons (.int 3) (.cons (.int 6) (.cons (.int 1) (.cons (.int 4) .nil))))))) (.call 9 (.cons (.var 0) (.cons (.var 1) (.cons (.int 6) .nil)))))) b10_1) (.cons (.ret (.var 2)) .nil)))
def f10 : Fn := ⟨2, 4, b10⟩
def b11_1 : SL := (.cons (.put 3 (.call 10 (.cons (.var 0) (.cons (.bin .add (.bin .add (.var 1) (.int 1)) (.bin .mul (.int 8) (.var 4))) .nil))) (.bl true)) .nil)
def b11 : SL := (.cons (.own 3 (.dct0 false)) (.cons (.frr (.one 4) (.rng1 (.call 9 (.cons (.var 0) (.cons (.var 1) (.cons (.bin .add (.var 2) (.int 1)) .nil))))) b11_1) (.fz 3 (.cons (.ret (.b1 .tuple (.b1 .sorts (.b1 .list (.var 3))))) .nil))))
def f11 : Fn := ⟨3, 5, b11⟩
def b12 : SL := (.cons (.set 4 (.ix (.var 2) (.call 9 (.cons (.var 0) (.cons (.bin .add (.var 1) (.int 10)) (.cons (.b1 .len (.var 2)) .nil)))))) (.cons (.set 5 (.ix (.var 2) (.call 9 (.cons (.var 0) (.cons (.bin .add (.var 1) (.int 11)) (.cons (.b1 .len (.var 2)) .nil)))))) (.cons (.set 6 (.ix (.var 2) (.call 9 (.cons (.var 0) (.cons (.bin .add (.var 1) (.int 12)) (.cons (.b1 .len (.var 2)) .nil)))))) (.cons (.set 7 (.sl (.lst (.cons (.var 4) (.cons (.var 5) .nil))) .none (.some (.bin .add (.int 1) (.bin .fdiv (.call 9 (.cons (.var 0) (.cons (.bin .add (.var 1) (.int 13)) (.cons (.int 3) .nil)))) (.int 2)))))) (.cons (.set 8 (.comp (.var 9) (.one 9) (.seq (.lst (.cons (.var 6) .nil))) (.some (.and (.cons (.cmp .nin (.var 9) (.var 7)) (.cons (.cmp .eq (.call 9 (.cons (.var 0) (.cons (.bin .add (.var 1) (.int 14)) (.cons (.int 4) .nil)))) (.int 0)) .nil)))))) (.cons (.set 10 (.comp (.var 9) (.one 9) (.seq (.lst (.cons (.var 4) .nil))) (.some (.and (.cons (.cmp .ne (.var 9) (.var 6)) (.cons (.cmp .eq (.call 9 (.cons (.var 0) (.cons (.bin .add (.var 1) (.int 15)) (.cons (.int 3) .nil)))) (.int 0)) .nil)))))) (.cons (.set 11 (.comp (.b1 .tuple (.b1 .sset (.var 12))) (.one 12) (.seq (.tup (.cons (.var 7) (.cons (.var 8) (.cons (.lst (.cons (.var 6) .nil)) (.cons (.var 10) .nil)))))) .none)) (.cons (.ret (.tup (.cons (.var 3) (.cons (.ix (.var 11) (.int 0)) (.cons (.ix (.var 11) (.int 1)) (.cons (.ix (.var 11) (.int 2)) (.cons (.ix (.var 11) (.int 3)) (.cons (.call 9 (.cons (.var 0) (.cons (.var 1) (.cons (.int 5) .nil)))) .nil)))))))) .nil))))))))
def f12 : Fn := ⟨4, 13, b12⟩
def b15 : SL := (.cons (.set 2 (.tup (.cons (.str "x") (.cons (.tup .nil) (.cons (.tup .nil) (.cons (.tup .nil) (.cons (.tup .nil) (.cons (.int 0) .nil)))))))) (.cons (.own 3 (.lst (.cons (.bin .add (.tup (.cons (.str "X") .nil)) (.sl (.var 2) (.some (.int 1)) .none)) (.cons (.sl (.var 2) .none (.some (.int 5))) (.cons (.b1 .list (.var 2)) (.cons .non (.cons (.bin .add (.sl (.var 2) .none (.some (.int 5))) (.tup (.cons (.int 10) .nil))) (.cons (.bin .add (.sl (.var 2) .none (.some (.int 5))) (.tup (.cons (.neg (.int 1)) .nil))) (.cons (.bin .add (.sl (.var 2) .none (.some (.int 5))) (.tup (.cons (.bl true) .nil))) .nil))))))))) (.cons (.ext 3 (.lst (.cons (.bin .add (.bin .add (.sl (.var 2) .none (.some (.int 1))) (.tup (.cons (.lst (.cons (.str "a") .nil)) .nil))) (.sl (.var 2) (.some (.int 2)) .none)) (.cons (.bin .add (.bin .add (.sl (.var 2) .none (.some (.int 1))) (.tup (.cons (.tup (.cons (.str "b") (.cons (.str "a") .nil))) .nil))) (.sl (.var 2) (.some (.int 2)) .none)) .nil)))) (.cons (.app 3 (.bin .add (.bin .add (.sl (.var 2) .none (.some (.int 1))) (.tup (.cons (.tup (.cons (.str "a") (.cons (.str "a") .nil))) .nil))) (.sl (.var 2) (.some (.int 2)) .none))) (.cons (.ext 3 (.lst (.cons (.bin .add (.bin .add (.sl (.var 2) .none (.some (.int 1))) (.tup (.cons (.tup (.cons (.str "a") .nil)) (.cons (.tup (.cons (.str "a") .nil)) .nil)))) (.sl (.var 2) (.some (.int 3)) .none)) (.cons (.bin .add (.bin .add (.sl (.var 2) .none (.some (.int 3))) (.tup (.cons (.tup (.cons (.str "a") .nil)) (.cons (.tup (.cons (.str "a") .nil)) .nil)))) (.sl (.var 2) (.some (.int 5)) .none)) (.cons (.bin .add (.sl (.var 2) .none (.some (.int 4))) (.tup (.cons .non (.cons (.int 0) .nil)))) .nil))))) (.cons (.ext 3 (.lst (.cons (.bin .add (.bin .add (.sl (.var 2) .none (.some (.int 1))) (.tup (.cons (.tup (.cons (.str "zz") .nil)) .nil))) (.sl (.var 2) (.some (.int 2)) .none)) (.cons (.bin .add (.var 2) (.tup (.cons (.int 0) .nil))) (.cons (.bin .add (.bin .add (.sl (.var 2) .none (.some (.int 2))) (.tup (.cons (.tup (.cons (.str "a") (.cons (.int 1) .nil))) .nil))) (.sl (.var 2) (.some (.int 3)) .none)) .nil))))) (.fz 3 (.cons (.ret (.ix (.var 3) (.call 9 (.cons (.var 0) (.cons (.var 1) (.cons (.int 16) .nil)))))) .nil))))))))
def f15 : Fn := ⟨2, 4, b15⟩
def b16 : SL := (.cons (.set 2 (.tup (.cons (.str "a") (.cons (.str "b") .nil)))) (.cons (.set 3 (.tup (.cons (.str "x") (.cons (.tup .nil) (.cons (.tup .nil) (.cons (.tup .nil) (.cons (.tup .nil) (.cons (.int 0) .nil)))))))) (.cons (.set 4 (.call 15 (.cons (.var 0) (.cons (.bin .add (.var 1) (.int 1)) .nil)))) (.cons (.set 5 (.b1 .tuple (.comp (.bin .add (.tup (.cons (.var 6) .nil)) (.sl (.var 3) (.some (.int 1)) .none)) (.one 6) (.seq (.lst (.cons (.str "p") (.cons (.str "q") (.cons (.str "r") (.cons (.str "s") (.cons (.str "t") (.cons (.str "u") (.cons (.str "v") .nil))))))))) .none))) (.cons (.own 7 (.lst (.cons (.tup (.cons (.var 2) (.cons (.tup (.cons (.var 4) .nil)) .nil))) (.cons (.tup (.cons (.var 2) (.cons (.tup (.cons (.var 3) (.cons (.var 4) .nil))) .nil))) (.cons .non .nil))))) (.cons (.ext 7 (.lst (.cons (.tup (.cons (.var 2) (.cons (.tup (.cons (.var 3) (.cons (.var 3) .nil))) .nil))) (.cons (.tup (.cons (.var 2) (.cons (.var 5) .nil))) (.cons (.tup (.cons (.var 2) (.cons (.lst (.cons (.var 3) .nil)) .nil))) (.cons (.tup (.cons (.var 2) .nil)) (.cons (.lst (.cons (.var 2) (.cons (.tup .nil) .nil))) (.cons .non (.cons (.tup (.cons (.tup (.cons (.str "b") (.cons (.str "a") .nil))) (.cons (.tup .nil) .nil))) .nil))))))))) (.cons (.ext 7 (.lst (.cons (.tup (.cons (.tup (.cons (.str "a") (.cons (.str "a") .nil))) (.cons (.tup .nil) .nil))) (.cons (.tup (.cons (.lst (.cons (.str "a") .nil)) (.cons (.tup .nil) .nil))) (.cons (.tup (.cons (.tup (.cons (.str "A") .nil)) (.cons (.tup .nil) .nil))) (.cons (.tup (.cons (.b1 .tups (.str "abcdefg")) (.cons (.tup .nil) .nil))) (.cons (.bin .add (.tup (.cons (.var 2) (.cons (.tup .nil) .nil))) (.tup (.cons (.tup .nil) .nil))) (.cons (.tup (.cons (.tup (.cons (.str "") .nil)) (.cons (.tup .nil) .nil))) .nil)))))))) (.fz 7 (.cons (.ret (.ix (.var 7) (.ix (.lst (.cons (.int 0) (.cons (.int 0) (.cons (.int 0) (.cons (.int 1) (.cons (.int 1) (.cons (.int 3) (.cons (.int 4) (.cons (.int 5) (.cons (.int 6) (.cons (.int 7) (.cons (.int 8) (.cons (.int 9) (.cons (.int 10) (.cons (.int 11) (.cons (.int 12) (.cons (.int 13) (.cons (.int 14) (.cons (.int 15) .nil))))))))))))))))))) (.call 9 (.cons (.var 0) (.cons (.var 1) (.cons (.int 18) .nil))))))) .nil)))))))))
def f16 : Fn := ⟨2, 8, b16⟩
def b20 : SL := (.cons (.ex (.call 6 (.cons (.var 0) .nil))) (.cons (.iff (.not (.call 2 (.cons (.ix (.var 0) (.int 0)) (.cons (.var 1) .nil)))) (.cons (.rais 1) .nil) .nil) .nil))
def f20 : Fn := ⟨2, 2, b20⟩
def b21 : SL := (.cons (.ret (.and (.cons (.b1 .all (.comp (.cmp .isin (.var 2) (.var 0)) (.one 2) (.seq (.ix (.var 1) (.int 0))) .none)) (.cons (.call 3 (.cons (.var 0) (.cons (.ix (.var 1) (.int 1)) .nil))) .nil)))) .nil)
def f21 : Fn := ⟨2, 3, b21⟩
def b22 : SL := (.cons (.ret (.call 21 (.cons (.var 1) (.cons (.tup (.cons (.ix (.var 0) (.int 1)) (.cons (.ix (.var 0) (.int 2)) .nil))) .nil)))) .nil)
def f22 : Fn := ⟨2, 2, b22⟩
def b23 : SL := (.cons (.ret (.b1 .tuple (.b1 .sset (.bin .add (.comp (.var 2) (.one 2) (.seq (.var 1)) (.some (.cmp .nin (.var 2) (.ix (.var 0) (.int 4))))) (.b1 .list (.ix (.var 0) (.int 3))))))) .nil)
def f23 : Fn := ⟨2, 3, b23⟩
def b24_1 : SL := (.cons (.iff (.cmp .eq (.ix (.var 2) (.int 0)) (.var 1)) (.cons (.ret (.var 2)) .nil) .nil) .nil)
def b24 : SL := (.cons (.frr (.one 2) (.seq (.ix (.var 0) (.int 1))) b24_1) (.cons (.ret .non) .nil))
def f24 : Fn := ⟨2, 3, b24⟩
def b25 : SL := (.cons (.ex (.call 20 (.cons (.var 0) (.cons (.var 1) .nil)))) (.cons (.ret (.comp (.ix (.var 2) (.int 0)) (.one 2) (.seq (.ix (.var 0) (.int 1))) (.some (.call 22 (.cons (.var 2) (.cons (.var 1) .nil)))))) .nil))
def f25 : Fn := ⟨2, 3, b25⟩
def b26 : SL := (.cons (.ex (.call 20 (.cons (.var 0) (.cons (.var 1) .nil)))) (.cons (.set 3 (.call 24 (.cons (.var 0) (.cons (.var 2) .nil)))) (.cons (.iff (.or (.cons (.not (.isi .str (.var 2))) (.cons (.cmp .isn (.var 3) .non) (.cons (.not (.call 22 (.cons (.var 3) (.cons (.var 1) .nil)))) .nil)))) (.cons (.rais 3) .nil) .nil) (.cons (.ret (.call 23 (.cons (.var 3) (.cons (.var 1) .nil)))) .nil))))
def f26 : Fn := ⟨3, 4, b26⟩
def b27 : SL := (.cons (.ret (.b1 .tuple (.comp (.var 5) (.many [4, 5]) (.enm (.var 2)) (.some (.cmp .lt (.call 9 (.cons (.var 0) (.cons (.bin .add (.var 1) (.var 4)) (.cons (.int 12) .nil)))) (.var 3)))))) .nil)
def f27 : Fn := ⟨4, 6, b27⟩
def b28_1 : SL := (.cons (.set 7 (.call 9 (.cons (.var 0) (.cons (.bin .add (.bin .add (.var 1) (.int 10)) (.var 5)) (.cons (.int 8) .nil))))) (.cons (.iff (.cmp .lt (.var 7) (.int 3)) (.cons (.app2 4 (.ix (.lst (.cons (.int 0) (.cons (.int 0) (.cons (.int 1) .nil)))) (.var 7)) (.var 6)) .nil) .nil) (.cons (.set 7 (.call 9 (.cons (.var 0) (.cons (.bin .add (.bin .add (.var 1) (.int 20)) (.var 5)) (.cons (.int 8) .nil))))) (.cons (.iff (.cmp .lt (.var 7) (.int 4)) (.cons (.app2 4 (.ix (.lst (.cons (.int 2) (.cons (.int 2) (.cons (.int 3) (.cons (.int 3) .nil))))) (.var 7)) (.var 6)) .nil) .nil) .nil))))
def b28 : SL := (.cons (.iff (.and (.cons (.cmp .ne (.var 2) (.tup .nil)) (.cons (.cmp .eq (.call 9 (.cons (.var 0) (.cons (.int 97) (.cons (.int 2) .nil)))) (.int 0)) .nil))) (.cons (.ret (.call 12 (.cons (.var 0) (.cons (.var 1) (.cons (.var 2) (.cons (.var 3) .nil)))))) .nil) .nil) (.cons (.own2 4 4) (.cons (.frr (.many [5, 6]) (.enm (.var 2)) b28_1) (.fz 4 (.cons (.set 8 (.comp (.b1 .tuple (.var 9)) (.one 9) (.seq (.var 4)) .none)) (.cons (.ret (.tup (.cons (.var 3) (.cons (.ix (.var 8) (.int 0)) (.cons (.ix (.var 8) (.int 1)) (.cons (.ix (.var 8) (.int 2)) (.cons (.ix (.var 8) (.int 3)) (.cons (.call 9 (.cons (.var 0) (.cons (.var 1) (.cons (.int 5) .nil)))) .nil)))))))) .nil))))))
def f28 : Fn := ⟨4, 10, b28⟩
def b29_1 : SL := (.cons (.set 7 (.call 10 (.cons (.var 0) (.cons (.bin .add (.bin .add (.var 1) (.int 70)) (.bin .mul (.int 40) (.var 6))) .nil)))) (.cons (.put 5 (.var 7) (.call 28 (.cons (.var 0) (.cons (.bin .add (.bin .add (.var 1) (.int 80)) (.bin .mul (.int 40) (.var 6))) (.cons (.var 4) (.cons (.var 7) .nil)))))) .nil))
def b29 : SL := (.cons (.set 4 (.call 11 (.cons (.var 0) (.cons (.var 1) (.cons (.var 2) .nil))))) (.cons (.own 5 (.dct0 false)) (.cons (.frr (.one 6) (.rng1 (.call 9 (.cons (.var 0) (.cons (.bin .add (.var 1) (.int 60)) (.cons (.bin .add (.var 3) (.int 1)) .nil))))) b29_1) (.fz 5 (.cons (.set 8 (.b1 .list (.var 5))) (.cons (.set 9 (.call 9 (.cons (.var 0) (.cons (.bin .add (.var 1) (.int 61)) (.cons (.bin .add (.b1 .len (.var 8)) (.int 1)) .nil))))) (.fz 5 (.cons (.ret (.tup (.cons (.var 4) (.cons (.b1 .tuple (.comp (.ix (.var 5) (.var 7)) (.one 7) (.seq (.bin .add (.sl (.var 8) (.some (.var 9)) .none) (.sl (.var 8) .none (.some (.var 9))))) .none)) .nil)))) .nil))))))))
def f29 : Fn := ⟨4, 10, b29⟩
def b30_1 : SL := (.cons (.set 7 (.call 9 (.cons (.var 0) (.cons (.bin .add (.var 1) (.var 5)) (.cons (.int 8) .nil))))) (.cons (.iff (.cmp .lt (.var 7) (.int 2)) (.cons (.app 3 (.var 6)) .nil) (.cons (.iff (.cmp .eq (.var 7) (.int 2)) (.cons (.app 4 (.var 6)) .nil) .nil) .nil)) .nil))
def b30 : SL := (.cons (.own 3 (.lst .nil)) (.cons (.own 4 (.lst .nil)) (.cons (.frr (.many [5, 6]) (.enm (.var 2)) b30_1) (.fz 4 (.fz 3 (.cons (.ret (.tup (.cons (.b1 .tuple (.var 3)) (.cons (.b1 .tuple (.var 4)) .nil)))) .nil))))))
def f30 : Fn := ⟨3, 8, b30⟩
def b31 : SL := (.cons (.set 3 (.call 29 (.cons (.var 0) (.cons (.int 100) (.cons (.var 1) (.cons (.var 2) .nil)))))) (.cons (.set 4 (.call 27 (.cons (.var 0) (.cons (.int 20) (.cons (.ix (.var 3) (.int 0)) (.cons (.ix (.lst (.cons (.int 2) (.cons (.int 4) .nil))) (.call 9 (.cons (.var 0) (.cons (.int 97) (.cons (.int 2) .nil))))) .nil)))))) (.cons (.ret (.tup (.cons (.var 3) (.cons (.var 4) (.cons (.call 30 (.cons (.var 0) (.cons (.int 30) (.cons (.ix (.var 3) (.int 0)) .nil)))) .nil))))) .nil)))
def f31 : Fn := ⟨3, 5, b31⟩
def b34 : SL := (.cons (.own 3 (.lst (.cons .non (.cons (.b1 .list (.var 2)) (.cons (.tup (.cons (.str "zzzzz") .nil)) (.cons (.bin .add (.var 2) (.tup (.cons (.str "zzzzz") .nil))) (.cons (.tup (.cons (.int 1) .nil)) (.cons (.int 0) (.cons (.str "a") (.cons (.tup (.cons (.str "") .nil)) (.cons (.tup (.cons .non .nil)) .nil))))))))))) (.cons (.iff (.cmp .ne (.var 2) (.tup .nil)) (.cons (.ext 3 (.lst (.cons (.bin .add (.var 2) (.var 2)) (.cons (.bin .add (.sl (.var 2) .none (.some (.int 1))) (.sl (.var 2) .none (.some (.int 1)))) (.cons (.tup (.cons (.ix (.var 2) (.int 0)) (.cons (.int 0) .nil))) .nil))))) .nil) .nil) (.cons (.iff (.cmp .gt (.b1 .len (.var 2)) (.int 1)) (.cons (.ext 3 (.bin .mul (.lst (.cons (.rev (.var 2)) .nil)) (.int 3))) .nil) .nil) (.fz 3 (.cons (.ret (.ix (.var 3) (.call 9 (.cons (.var 0) (.cons (.var 1) (.cons (.b1 .len (.var 3)) .nil)))))) .nil)))))
def f34 : Fn := ⟨3, 4, b34⟩
def b38 : SL := (.cons (.iff (.or (.cons (.not (.isi .tuple (.var 1))) (.cons (.cmp .ne (.b1 .len (.var 1)) (.int 2)) .nil))) (.cons (.ret (.bl false)) .nil) .nil) (.cons (.ret (.and (.cons (.call 2 (.cons (.ix (.var 0) (.int 0)) (.cons (.ix (.var 1) (.int 0)) .nil))) (.cons (.call 2 (.cons (.ix (.var 0) (.int 0)) (.cons (.ix (.var 1) (.int 1)) .nil))) (.cons (.call 3 (.cons (.ix (.var 1) (.int 0)) (.cons (.ix (.var 1) (.int 1)) .nil))) .nil))))) .nil))
def f38 : Fn := ⟨2, 2, b38⟩
def b39 : SL := (.cons (.ex (.call 20 (.cons (.var 0) (.cons (.var 1) .nil)))) (.cons (.iff (.not (.call 38 (.cons (.var 0) (.cons (.var 2) .nil)))) (.cons (.rais 2) .nil) .nil) .nil))
def f39 : Fn := ⟨3, 3, b39⟩
def b40 : SL := (.cons (.ex (.call 39 (.cons (.var 0) (.cons (.var 1) (.cons (.var 2) .nil))))) (.cons (.ret (.call 21 (.cons (.var 1) (.cons (.var 2) .nil)))) .nil))
def f40 : Fn := ⟨3, 3, b40⟩
def b41 : SL := (.cons (.set 3 (.call 34 (.cons (.var 0) (.cons (.bin .add (.var 1) (.int 1)) (.cons (.var 2) .nil))))) (.cons (.own 4 (.lst (.cons .non (.cons (.tup (.cons (.tup .nil) .nil)) (.cons (.lst (.cons (.tup .nil) (.cons (.tup .nil) .nil))) (.cons (.tup (.cons (.tup .nil) (.cons (.tup .nil) (.cons (.tup .nil) .nil)))) (.cons (.tup (.cons (.var 3) (.cons (.tup .nil) .nil))) (.cons (.tup (.cons (.tup .nil) (.cons (.var 3) .nil))) (.cons (.tup (.cons (.var 3) (.cons (.tup .nil) .nil))) (.cons (.tup (.cons (.tup .nil) (.cons (.var 3) .nil))) (.cons (.int 0) .nil))))))))))) (.cons (.iff (.cmp .ne (.var 2) (.tup .nil)) (.cons (.ext 4 (.lst (.cons (.tup (.cons (.var 2) (.cons (.sl (.var 2) .none (.some (.int 1))) .nil))) (.cons (.tup (.cons (.sl (.var 2) .none (.some (.int 1))) (.cons (.var 2) .nil))) .nil)))) .nil) .nil) (.fz 4 (.cons (.ret (.ix (.var 4) (.call 9 (.cons (.var 0) (.cons (.var 1) (.cons (.b1 .len (.var 4)) .nil)))))) .nil)))))
def f41 : Fn := ⟨3, 5, b41⟩
def b43 : SL := (.cons (.iff (.or (.cons (.not (.isi .list (.var 1))) (.cons (.cmp .gt (.b1 .len (.var 1)) (.gl 5)) .nil))) (.cons (.ret (.bl false)) .nil) .nil) (.cons (.ret (.b1 .all (.comp (.and (.cons (.isi .str (.var 2)) (.cons (.cmp .nisn (.call 24 (.cons (.var 0) (.cons (.var 2) .nil))) .non) .nil))) (.one 2) (.seq (.var 1)) .none))) .nil))
def f43 : Fn := ⟨2, 3, b43⟩
def b44 : SL := (.cons (.iff (.not (.call 43 (.cons (.var 0) (.cons (.var 1) .nil)))) (.cons (.raisn 4 .non) .nil) .nil) .nil)
def f44 : Fn := ⟨2, 2, b44⟩
def b45_1 : SL := (.cons (.set 6 (.call 24 (.cons (.var 0) (.cons (.var 5) .nil)))) (.cons (.iff (.bor (.not (.call 22 (.cons (.var 6) (.cons (.ix (.var 3) (.neg (.int 1))) .nil))))) (.cons (.ret (.var 4)) .nil) .nil) (.cons (.app 3 (.bor (.call 23 (.cons (.var 6) (.cons (.ix (.var 3) (.neg (.int 1))) .nil))))) .nil)))
def b45 : SL := (.cons (.own 3 (.lst (.cons (.var 1) .nil))) (.cons (.frr (.many [4, 5]) (.enm (.var 2)) b45_1) (.fz 3 (.cons (.ret (.var 3)) .nil))))
def f45 : Fn := ⟨3, 7, b45⟩
def b46 : SL := (.cons (.ex (.call 20 (.cons (.var 0) (.cons (.var 1) .nil)))) (.cons (.ex (.call 44 (.cons (.var 0) (.cons (.var 2) .nil)))) (.cons (.set 3 (.call 45 (.cons (.var 0) (.cons (.var 1) (.cons (.var 2) .nil))))) (.cons (.iff (.isi .int (.var 3)) (.cons (.raisn 4 (.var 3)) .nil) .nil) (.cons (.ret (.var 3)) .nil)))))
def f46 : Fn := ⟨3, 4, b46⟩
def b47 : SL := (.cons (.ret (.b1 .sum (.comp (.ix (.call 24 (.cons (.var 0) (.cons (.var 2) .nil))) (.int 5)) (.one 2) (.seq (.var 1)) .none))) .nil)
def f47 : Fn := ⟨2, 3, b47⟩
def b48 : SL := (.cons (.ex (.call 6 (.cons (.var 0) .nil))) (.cons (.ex (.call 44 (.cons (.var 0) (.cons (.var 1) .nil)))) (.cons (.ret (.call 47 (.cons (.var 0) (.cons (.var 1) .nil)))) .nil)))
def f48 : Fn := ⟨2, 2, b48⟩
def b51 : SL := (.cons (.set 3 (.comp (.ix (.var 4) (.int 0)) (.one 4) (.seq (.ix (.var 2) (.int 1))) .none)) (.cons (.own 5 (.lst (.cons .non (.cons (.b1 .tuple (.var 3)) (.cons (.bin .add (.var 3) (.lst (.cons (.str "zzzzz") .nil))) (.cons (.lst (.cons (.str "zzzzz") .nil)) (.cons (.lst (.cons .non .nil)) (.cons (.lst (.cons (.lst (.cons (.str "a") .nil)) .nil)) (.cons (.str "a") (.cons (.int 0) (.cons (.lst (.cons (.int 1) .nil)) .nil))))))))))) (.cons (.iff (.cmp .ne (.var 3) (.lst .nil)) (.cons (.ext 5 (.lst (.cons (.bin .mul (.sl (.var 3) .none (.some (.int 1))) (.int 65)) (.cons (.tup (.cons (.ix (.var 3) (.int 0)) .nil)) .nil)))) .nil) .nil) (.fz 5 (.cons (.ret (.ix (.var 5) (.call 9 (.cons (.var 0) (.cons (.var 1) (.cons (.b1 .len (.var 5)) .nil)))))) .nil)))))
def f51 : Fn := ⟨3, 6, b51⟩
def b54 : SL := (.cons (.set 4 (.call 45 (.cons (.var 0) (.cons (.var 1) (.cons (.var 3) .nil))))) (.cons (.ret (.and (.cons (.not (.isi .int (.var 4))) (.cons (.call 21 (.cons (.ix (.var 4) (.neg (.int 1))) (.cons (.var 2) .nil))) .nil)))) .nil))
def f54 : Fn := ⟨4, 5, b54⟩
def b55 : SL := (.cons (.ex (.call 39 (.cons (.var 0) (.cons (.var 1) (.cons (.var 2) .nil))))) (.cons (.ex (.call 44 (.cons (.var 0) (.cons (.var 3) .nil)))) (.cons (.ret (.call 54 (.cons (.var 0) (.cons (.var 1) (.cons (.var 2) (.cons (.var 3) .nil)))))) .nil)))
def f55 : Fn := ⟨4, 4, b55⟩
def b59 : SL := (.cons (.iff (.or (.cons (.not (.call 3 (.cons (.ix (.var 0) (.int 4)) (.cons (.ix (.var 1) (.int 0)) .nil)))) (.cons (.not (.call 3 (.cons (.ix (.var 0) (.int 3)) (.cons (.ix (.var 1) (.int 1)) .nil)))) .nil))) (.cons (.ret .non) .nil) .nil) (.cons (.set 2 (.b1 .sset (.bin .add (.comp (.var 3) (.one 3) (.seq (.ix (.var 1) (.int 0))) (.some (.cmp .nin (.var 3) (.ix (.var 0) (.int 3))))) (.b1 .list (.ix (.var 0) (.int 1)))))) (.cons (.set 4 (.b1 .sset (.bin .add (.comp (.var 3) (.one 3) (.seq (.ix (.var 1) (.int 1))) (.some (.cmp .nin (.var 3) (.ix (.var 0) (.int 4))))) (.b1 .list (.ix (.var 0) (.int 2)))))) (.cons (.iff (.not (.call 3 (.cons (.var 2) (.cons (.var 4) .nil)))) (.cons (.ret .non) .nil) .nil) (.cons (.ret (.tup (.cons (.b1 .tuple (.var 2)) (.cons (.b1 .tuple (.var 4)) .nil)))) .nil)))))
def f59 : Fn := ⟨2, 5, b59⟩
def b60_1 : SL := (.cons (.set 1 (.call 59 (.cons (.call 24 (.cons (.var 0) (.cons (.var 3) .nil))) (.cons (.var 1) .nil)))) (.cons (.iff (.cmp .isn (.var 1) .non) (.cons (.ret .non) .nil) .nil) .nil))
def b60 : SL := (.cons (.frr (.one 3) (.seq (.rev (.var 2))) b60_1) (.cons (.ret (.var 1)) .nil))
def f60 : Fn := ⟨3, 4, b60⟩
def b61 : SL := (.cons (.ex (.call 6 (.cons (.var 0) .nil))) (.cons (.iff (.not (.call 38 (.cons (.var 0) (.cons (.var 1) .nil)))) (.cons (.rais 2) .nil) .nil) (.cons (.ex (.call 44 (.cons (.var 0) (.cons (.var 2) .nil)))) (.cons (.ret (.call 60 (.cons (.var 0) (.cons (.var 1) (.cons (.var 2) .nil))))) .nil))))
def f61 : Fn := ⟨3, 3, b61⟩
def b64 : SL := (.cons (.ret (.comp (.tup (.cons (.var 2) (.cons (.call 23 (.cons (.var 2) (.cons (.var 1) .nil))) .nil))) (.one 2) (.seq (.ix (.var 0) (.int 1))) (.some (.call 22 (.cons (.var 2) (.cons (.var 1) .nil)))))) .nil)
def f64 : Fn := ⟨2, 3, b64⟩
def b65_1 : SL := (.cons (.iff (.bor (.cmp .nin (.var 6) (.var 2))) (.cons (.put 2 (.var 6) (.bor (.tup (.cons (.ix (.var 3) (.var 4)) (.cons (.ix (.var 5) (.int 0)) .nil))))) (.cons (.app 3 (.var 6)) .nil)) .nil) .nil)
def b65_2 : SL := (.cons (.frr (.many [5, 6]) (.seq (.call 64 (.cons (.var 0) (.cons (.bor (.ix (.var 3) (.var 4))) .nil)))) b65_1) (.cons (.set 4 (.bin .add (.var 4) (.int 1))) .nil))
def b65 : SL := (.cons (.own 2 (.dct1 true (.var 1) .non)) (.cons (.own 3 (.lst (.cons (.var 1) .nil))) (.cons (.set 4 (.int 0)) (.cons (.whl 1000 (.bor (.cmp .lt (.var 4) (.b1 .len (.var 3)))) b65_2) (.fz 2 (.cons (.ret (.var 2)) .nil))))))
def f65 : Fn := ⟨2, 7, b65⟩
def b66_1 : SL := (.cons (.unp [1, 3] (.ix (.var 0) (.var 1))) (.cons (.set 2 (.bin .add (.lst (.cons (.var 3) .nil)) (.var 2))) .nil))
def b66 : SL := (.cons (.set 2 (.lst .nil)) (.cons (.whl 1000 (.cmp .nisn (.ix (.var 0) (.var 1)) .non) b66_1) (.cons (.ret (.var 2)) .nil)))
def f66 : Fn := ⟨2, 4, b66⟩
def b67 : SL := (.cons (.ex (.call 20 (.cons (.var 0) (.cons (.var 1) .nil)))) (.cons (.ret (.b1 .sorted (.b1 .list (.call 65 (.cons (.var 0) (.cons (.var 1) .nil)))))) .nil))
def f67 : Fn := ⟨2, 2, b67⟩
def b68 : SL := (.cons (.ex (.call 20 (.cons (.var 0) (.cons (.var 1) .nil)))) (.cons (.iff (.not (.call 1 (.cons (.var 2) (.cons (.int 0) (.cons (.int 64) .nil))))) (.cons (.rais 8) .nil) .nil) (.cons (.set 3 (.call 65 (.cons (.var 0) (.cons (.var 1) .nil)))) (.cons (.ret (.b1 .sorted (.comp (.var 4) (.one 4) (.keys 3) (.some (.cmp .le (.b1 .len (.call 66 (.cons (.var 3) (.cons (.var 4) .nil)))) (.var 2)))))) .nil))))
def f68 : Fn := ⟨3, 5, b68⟩
def b71_1 : SL := (.cons (.iff (.call 21 (.cons (.var 4) (.cons (.var 2) .nil))) (.cons (.ret (.call 66 (.cons (.var 3) (.cons (.var 4) .nil)))) .nil) .nil) .nil)
def b71 : SL := (.cons (.set 3 (.call 65 (.cons (.var 0) (.cons (.var 1) .nil)))) (.cons (.frr (.one 4) (.keys 3) b71_1) (.cons (.ret .non) .nil)))
def f71 : Fn := ⟨3, 5, b71⟩
def b72 : SL := (.cons (.ex (.call 39 (.cons (.var 0) (.cons (.var 1) (.cons (.var 2) .nil))))) (.cons (.ret (.call 71 (.cons (.var 0) (.cons (.var 1) (.cons (.var 2) .nil))))) .nil))
def f72 : Fn := ⟨3, 3, b72⟩
def b73 : SL := (.cons (.ex (.call 39 (.cons (.var 0) (.cons (.var 1) (.cons (.var 2) .nil))))) (.cons (.set 3 (.call 71 (.cons (.var 0) (.cons (.var 1) (.cons (.var 2) .nil))))) (.cons (.iff (.cmp .isn (.var 3) .non) (.cons (.ret .non) .nil) .nil) (.cons (.ret (.b1 .len (.var 3))) .nil))))
def f73 : Fn := ⟨3, 4, b73⟩
def b76_1 : SL := (.cons (.iff (.bor (.cmp .nin (.var 8) (.var 4))) (.cons (.put 6 (.var 8) (.bor (.bin .add (.dget (.var 6) (.var 8) (.int 0)) (.ix (.var 3) (.var 5))))) .nil) .nil) .nil)
def b76_2 : SL := (.cons (.frr (.many [7, 8]) (.seq (.call 64 (.cons (.var 0) (.cons (.var 5) .nil)))) b76_1) .nil)
def b76_3 : SL := (.cons (.put 4 (.var 8) (.bl true)) .nil)
def b76_4 : SL := (.cons (.own 6 (.dct0 true)) (.cons (.frr (.one 5) (.keys 3) b76_2) (.fz 6 (.cons (.frr (.one 8) (.keys 6) b76_3) (.fz 6 (.cons (.set 3 (.var 6)) .nil))))))
def b76 : SL := (.cons (.ex (.call 39 (.cons (.var 0) (.cons (.var 1) (.cons (.var 2) .nil))))) (.cons (.iff (.cmp .isn (.call 71 (.cons (.var 0) (.cons (.var 1) (.cons (.var 2) .nil)))) .non) (.cons (.ret (.int 0)) .nil) .nil) (.cons (.set 3 (.dct1 true (.var 1) (.int 1))) (.cons (.own 4 (.dct1 true (.var 1) (.bl true))) (.cons (.whl 1000 (.not (.b1 .any (.comp (.call 21 (.cons (.var 5) (.cons (.var 2) .nil))) (.one 5) (.keys 3) .none))) b76_4) (.cons (.ret (.b1 .sum (.comp (.ix (.var 3) (.var 5)) (.one 5) (.keys 3) (.some (.call 21 (.cons (.var 5) (.cons (.var 2) .nil))))))) .nil))))))
def f76 : Fn := ⟨3, 9, b76⟩
def b79_1 : SL := (.cons (.set 8 (.bor (.bin .add (.ix (.ix (.var 2) (.var 4)) (.int 0)) (.ix (.var 6) (.int 5))))) (.cons (.iff (.bor (.or (.cons (.cmp .nin (.var 7) (.var 2)) (.cons (.cmp .lt (.var 8) (.ix (.ix (.var 2) (.var 7)) (.int 0))) .nil)))) (.cons (.put 2 (.var 7) (.tup (.cons (.var 8) (.cons (.tup (.cons (.var 4) (.cons (.ix (.var 6) (.int 0)) .nil))) .nil)))) (.cons (.iff (.bor (.cmp .nin (.var 7) (.var 3))) (.cons (.app 3 (.var 7)) .nil) .nil) .nil)) .nil) .nil))
def b79_2 : SL := (.cons (.set 4 (.bor (.ix (.b1 .mint (.comp (.tup (.cons (.ix (.ix (.var 2) (.var 5)) (.int 0)) (.cons (.var 5) .nil))) (.one 5) (.seq (.var 3)) .none)) (.int 1)))) (.cons (.rem 3 (.var 4)) (.cons (.frr (.many [6, 7]) (.seq (.call 64 (.cons (.var 0) (.cons (.var 4) .nil)))) b79_1) .nil)))
def b79 : SL := (.cons (.own 2 (.dct1 true (.var 1) (.tup (.cons (.int 0) (.cons .non .nil))))) (.cons (.own 3 (.lst (.cons (.var 1) .nil))) (.cons (.whl 1000 (.bor (.cmp .ne (.var 3) (.lst .nil))) b79_2) (.fz 2 (.cons (.ret (.var 2)) .nil)))))
def f79 : Fn := ⟨2, 9, b79⟩
def b80 : SL := (.cons (.set 2 (.comp (.tup (.cons (.ix (.ix (.var 0) (.var 3)) (.int 0)) (.cons (.var 3) .nil))) (.one 3) (.keys 0) (.some (.call 21 (.cons (.var 3) (.cons (.var 1) .nil)))))) (.cons (.iff (.cmp .eq (.var 2) (.lst .nil)) (.cons (.ret .non) .nil) .nil) (.cons (.ret (.ix (.b1 .mint (.var 2)) (.int 1))) .nil)))
def f80 : Fn := ⟨2, 4, b80⟩
def b81 : SL := (.cons (.ex (.call 39 (.cons (.var 0) (.cons (.var 1) (.cons (.var 2) .nil))))) (.cons (.set 3 (.call 79 (.cons (.var 0) (.cons (.var 1) .nil)))) (.cons (.set 4 (.call 80 (.cons (.var 3) (.cons (.var 2) .nil)))) (.cons (.iff (.cmp .isn (.var 4) .non) (.cons (.ret .non) .nil) .nil) (.cons (.ret (.ix (.ix (.var 3) (.var 4)) (.int 0))) .nil)))))
def f81 : Fn := ⟨3, 5, b81⟩
def b82_1 : SL := (.cons (.unp [4, 6] (.ix (.ix (.var 3) (.var 4)) (.int 1))) (.cons (.set 5 (.bin .add (.lst (.cons (.var 6) .nil)) (.var 5))) .nil))
def b82 : SL := (.cons (.set 3 (.call 79 (.cons (.var 0) (.cons (.var 1) .nil)))) (.cons (.set 4 (.call 80 (.cons (.var 3) (.cons (.var 2) .nil)))) (.cons (.iff (.cmp .isn (.var 4) .non) (.cons (.ret .non) .nil) .nil) (.cons (.set 5 (.lst .nil)) (.cons (.whl 1000 (.cmp .nisn (.ix (.ix (.var 3) (.var 4)) (.int 1)) .non) b82_1) (.cons (.ret (.var 5)) .nil))))))
def f82 : Fn := ⟨3, 7, b82⟩
def b83 : SL := (.cons (.ex (.call 39 (.cons (.var 0) (.cons (.var 1) (.cons (.var 2) .nil))))) (.cons (.ret (.call 82 (.cons (.var 0) (.cons (.var 1) (.cons (.var 2) .nil))))) .nil))
def f83 : Fn := ⟨3, 3, b83⟩
def b87_1 : SL := (.cons (.iff (.bor (.and (.cons (.cmp .isin (.var 8) (.var 4)) (.cons (.cmp .lt (.bin .add (.ix (.var 4) (.var 8)) (.ix (.var 7) (.int 5))) (.dget (.var 4) (.var 5) (.bin .pow (.int 10) (.int 6)))) .nil)))) (.cons (.put 4 (.var 5) (.bor (.bin .add (.ix (.var 4) (.var 8)) (.ix (.var 7) (.int 5))))) (.cons (.set 6 (.bl true)) .nil)) .nil) .nil)
def b87_2 : SL := (.cons (.frr (.many [7, 8]) (.seq (.call 64 (.cons (.var 0) (.cons (.var 5) .nil)))) b87_1) .nil)
def b87_3 : SL := (.cons (.set 6 (.bl false)) (.cons (.frr (.one 5) (.seq (.var 3)) b87_2) .nil))
def b87 : SL := (.cons (.set 3 (.b1 .list (.call 65 (.cons (.var 0) (.cons (.var 1) .nil))))) (.cons (.own 4 (.b1 .dT (.comp (.tup (.cons (.var 5) (.cons (.int 0) .nil))) (.one 5) (.seq (.var 3)) (.some (.call 21 (.cons (.var 5) (.cons (.var 2) .nil))))))) (.cons (.set 6 (.bl true)) (.cons (.whl 1000 (.var 6) b87_3) (.fz 4 (.cons (.ret (.var 4)) .nil))))))
def f87 : Fn := ⟨3, 9, b87⟩
def b88 : SL := (.cons (.ex (.call 39 (.cons (.var 0) (.cons (.var 1) (.cons (.var 2) .nil))))) (.cons (.set 3 (.call 87 (.cons (.var 0) (.cons (.var 1) (.cons (.var 2) .nil))))) (.cons (.iff (.cmp .nin (.var 1) (.var 3)) (.cons (.ret .non) .nil) .nil) (.cons (.set 4 (.b1 .max (.comp (.ix (.var 3) (.var 5)) (.one 5) (.keys 3) .none))) (.cons (.ret (.comp (.tup (.cons (.var 5) (.cons (.dget (.var 3) (.var 5) (.var 4)) .nil))) (.one 5) (.seq (.b1 .sorted (.b1 .list (.call 65 (.cons (.var 0) (.cons (.var 1) .nil)))))) .none)) .nil)))))
def f88 : Fn := ⟨3, 6, b88⟩
def b89 : SL := (.cons (.iff (.or (.cons (.not (.isi .tuple (.var 1))) (.cons (.cmp .ne (.b1 .len (.var 1)) (.int 2)) (.cons (.not (.call 2 (.cons (.ix (.var 0) (.int 0)) (.cons (.ix (.var 1) (.int 0)) .nil)))) .nil)))) (.cons (.ret (.bl false)) .nil) .nil) (.cons (.ret (.call 1 (.cons (.ix (.var 1) (.int 1)) (.cons (.int 0) (.cons (.bin .pow (.int 10) (.int 6)) .nil))))) .nil))
def f89 : Fn := ⟨2, 2, b89⟩
def b90_1 : SL := (.cons (.iff (.or (.cons (.cmp .nin (.var 7) (.var 5)) (.cons (.cmp .gt (.ix (.var 5) (.var 4)) (.bin .add (.ix (.var 5) (.var 7)) (.ix (.var 6) (.int 5)))) .nil))) (.cons (.rais 6) .nil) .nil) .nil)
def b90_2 : SL := (.cons (.iff (.and (.cons (.call 21 (.cons (.var 4) (.cons (.var 2) .nil))) (.cons (.cmp .gt (.ix (.var 5) (.var 4)) (.int 0)) .nil))) (.cons (.rais 6) .nil) .nil) (.cons (.frr (.many [6, 7]) (.seq (.call 64 (.cons (.var 0) (.cons (.var 4) .nil)))) b90_1) .nil))
def b90 : SL := (.cons (.ex (.call 39 (.cons (.var 0) (.cons (.var 1) (.cons (.var 2) .nil))))) (.cons (.iff (.or (.cons (.not (.isi .list (.var 3))) (.cons (.not (.b1 .all (.comp (.call 89 (.cons (.var 0) (.cons (.var 4) .nil))) (.one 4) (.seq (.var 3)) .none))) .nil))) (.cons (.rais 6) .nil) .nil) (.cons (.set 5 (.b1 .dT (.var 3))) (.cons (.iff (.or (.cons (.cmp .ne (.b1 .len (.var 5)) (.b1 .len (.var 3))) (.cons (.cmp .nin (.var 1) (.var 5)) .nil))) (.cons (.rais 6) .nil) .nil) (.cons (.frr (.one 4) (.keys 5) b90_2) (.cons (.ret (.ix (.var 5) (.var 1))) .nil))))))
def f90 : Fn := ⟨4, 8, b90⟩
def b94 : SL := (.cons (.ret (.and (.cons (.cmp .isin (.ix (.var 1) (.int 0)) (.var 0)) (.cons (.cmp .isin (.ix (.var 1) (.int 1)) (.var 0)) .nil)))) .nil)
def f94 : Fn := ⟨2, 2, b94⟩
def b95 : SL := (.cons (.ret (.b1 .any (.comp (.call 94 (.cons (.var 0) (.cons (.var 2) .nil))) (.one 2) (.seq (.var 1)) .none))) .nil)
def f95 : Fn := ⟨2, 3, b95⟩
def b96 : SL := (.cons (.set 3 (.comp (.var 4) (.one 4) (.seq (.var 1)) (.some (.cmp .isin (.var 4) (.ix (.var 0) (.int 3)))))) (.cons (.iff (.or (.cons (.cmp .eq (.var 3) (.lst .nil)) (.cons (.b1 .any (.comp (.cmp .isin (.var 4) (.ix (.var 0) (.int 4))) (.one 4) (.seq (.var 1)) .none)) .nil))) (.cons (.ret (.bl false)) .nil) .nil) (.cons (.set 5 (.comp (.var 4) (.one 4) (.seq (.var 1)) (.some (.cmp .nin (.var 4) (.ix (.var 0) (.int 3)))))) (.cons (.iff (.b1 .any (.comp (.cmp .isin (.var 4) (.ix (.var 0) (.int 2))) (.one 4) (.seq (.var 5)) .none)) (.cons (.ret (.bl false)) .nil) .nil) (.cons (.ret (.not (.call 95 (.cons (.bin .add (.b1 .list (.ix (.var 0) (.int 1))) (.var 5)) (.cons (.var 2) .nil))))) .nil)))))
def f96 : Fn := ⟨3, 6, b96⟩
def b97_1 : SL := (.cons (.ext 1 (.comp (.tup (.cons (.var 3) (.cons (.var 4) .nil))) (.one 4) (.seq (.sl (.var 0) (.some (.var 2)) .none)) .none)) .nil)
def b97 : SL := (.cons (.own 1 (.lst .nil)) (.cons (.frr (.many [2, 3]) (.enm (.var 0)) b97_1) (.fz 1 (.cons (.ret (.var 1)) .nil))))
def f97 : Fn := ⟨1, 5, b97⟩
def b98_1 : SL := (.cons (.set 4 (.var 2)) (.cons (.set 2 (.comp (.var 3) (.one 3) (.seq (.var 4)) (.some (.not (.b1 .any (.comp (.call 96 (.cons (.var 5) (.cons (.var 3) (.cons (.var 4) .nil)))) (.one 5) (.seq (.ix (.var 0) (.int 1))) .none)))))) .nil))
def b98 : SL := (.cons (.set 2 (.comp (.var 3) (.one 3) (.seq (.call 97 (.cons (.ix (.var 0) (.int 0)) .nil))) (.some (.not (.call 94 (.cons (.var 1) (.cons (.var 3) .nil))))))) (.cons (.set 4 .non) (.cons (.whl 1000 (.cmp .ne (.var 4) (.var 2)) b98_1) (.cons (.ret (.var 2)) .nil))))
def f98 : Fn := ⟨2, 6, b98⟩
def b99 : SL := (.cons (.ex (.call 20 (.cons (.var 0) (.cons (.var 1) .nil)))) (.cons (.ret (.call 98 (.cons (.var 0) (.cons (.var 1) .nil)))) .nil))
def f99 : Fn := ⟨2, 2, b99⟩
def b100 : SL := (.cons (.iff (.or (.cons (.not (.isi .tuple (.var 1))) (.cons (.cmp .ne (.b1 .len (.var 1)) (.int 2)) .nil))) (.cons (.ret (.bl false)) .nil) .nil) (.cons (.ret (.b1 .all (.comp (.and (.cons (.isi .str (.var 2)) (.cons (.cmp .isin (.var 2) (.ix (.var 0) (.int 0))) .nil))) (.one 2) (.seq (.var 1)) .none))) .nil))
def f100 : Fn := ⟨2, 3, b100⟩
def b101_1 : SL := (.cons (.iff (.b1 .any (.comp (.call 96 (.cons (.var 4) (.cons (.var 3) (.cons (.var 2) .nil)))) (.one 3) (.seq (.var 2)) .none)) (.cons (.ret (.bl false)) .nil) .nil) .nil)
def b101 : SL := (.cons (.ex (.call 20 (.cons (.var 0) (.cons (.var 1) .nil)))) (.cons (.iff (.or (.cons (.not (.isi .list (.var 2))) (.cons (.not (.b1 .all (.comp (.call 100 (.cons (.var 0) (.cons (.var 3) .nil))) (.one 3) (.seq (.var 2)) .none))) .nil))) (.cons (.rais 6) .nil) .nil) (.cons (.iff (.call 95 (.cons (.var 1) (.cons (.var 2) .nil))) (.cons (.ret (.bl false)) .nil) .nil) (.cons (.frr (.one 4) (.seq (.ix (.var 0) (.int 1))) b101_1) (.cons (.ret (.bl true)) .nil)))))
def f101 : Fn := ⟨3, 5, b101⟩
def b107_1 : SL := (.cons (.iff (.bor (.b1 .all (.comp (.cmp .isin (.var 3) (.var 2)) (.one 3) (.seq (.ix (.var 7) (.int 1))) .none))) (.cons (.ext 6 (.bor (.comp (.var 3) (.one 3) (.seq (.ix (.var 7) (.int 3))) (.some (.cmp .nin (.var 3) (.var 2)))))) .nil) .nil) .nil)
def b107_2 : SL := (.cons (.put 2 (.var 3) (.var 4)) .nil)
def b107_3 : SL := (.cons (.set 4 (.bin .add (.var 4) (.int 1))) (.cons (.own 6 (.lst .nil)) (.cons (.frr (.one 7) (.seq (.ix (.var 0) (.int 1))) b107_1) (.fz 6 (.cons (.set 5 (.cmp .ne (.var 6) (.lst .nil))) (.fz 6 (.cons (.frr (.one 3) (.seq (.var 6)) b107_2) .nil)))))))
def b107 : SL := (.cons (.own 2 (.b1 .dK (.comp (.tup (.cons (.var 3) (.cons (.int 0) .nil))) (.one 3) (.seq (.var 1)) .none))) (.cons (.set 4 (.int 0)) (.cons (.set 5 (.bl true)) (.cons (.whl 1000 (.var 5) b107_3) (.fz 2 (.cons (.ret (.var 2)) .nil))))))
def f107 : Fn := ⟨2, 8, b107⟩
def b108 : SL := (.cons (.ex (.call 20 (.cons (.var 0) (.cons (.var 1) .nil)))) (.cons (.set 2 (.call 107 (.cons (.var 0) (.cons (.var 1) .nil)))) (.cons (.ret (.comp (.tup (.cons (.var 3) (.cons (.ix (.var 2) (.var 3)) .nil))) (.one 3) (.seq (.b1 .sorts (.b1 .list (.var 2)))) .none)) .nil)))
def f108 : Fn := ⟨2, 4, b108⟩
def b110 : SL := (.cons (.ex (.call 39 (.cons (.var 0) (.cons (.var 1) (.cons (.var 2) .nil))))) (.cons (.set 3 (.call 107 (.cons (.var 0) (.cons (.var 1) .nil)))) (.cons (.iff (.not (.b1 .all (.comp (.cmp .isin (.var 4) (.var 3)) (.one 4) (.seq (.ix (.var 2) (.int 0))) .none))) (.cons (.ret .non) .nil) .nil) (.cons (.ret (.b1 .max (.bin .add (.comp (.ix (.var 3) (.var 4)) (.one 4) (.seq (.ix (.var 2) (.int 0))) .none) (.lst (.cons (.b1 .int (.b1 .any (.comp (.cmp .isin (.var 4) (.var 1)) (.one 4) (.seq (.ix (.var 2) (.int 1))) .none))) .nil))))) .nil))))
def f110 : Fn := ⟨3, 5, b110⟩
def b112 : SL := (.cons (.set 4 (.tup (.cons (.ix (.var 0) (.int 0)) (.cons (.b1 .tuple (.comp (.var 5) (.one 5) (.seq (.ix (.var 0) (.int 1))) (.some (.cmp .ne (.ix (.var 5) (.int 0)) (.var 3))))) .nil)))) (.cons (.ret (.cmp .nisn (.call 71 (.cons (.var 4) (.cons (.var 1) (.cons (.var 2) .nil)))) .non)) .nil))
def f112 : Fn := ⟨4, 6, b112⟩
def b113 : SL := (.cons (.ex (.call 39 (.cons (.var 0) (.cons (.var 1) (.cons (.var 2) .nil))))) (.cons (.iff (.cmp .isn (.call 71 (.cons (.var 0) (.cons (.var 1) (.cons (.var 2) .nil)))) .non) (.cons (.rais 5) .nil) .nil) .nil))
def f113 : Fn := ⟨3, 3, b113⟩
def b114 : SL := (.cons (.ex (.call 113 (.cons (.var 0) (.cons (.var 1) (.cons (.var 2) .nil))))) (.cons (.ret (.comp (.ix (.var 3) (.int 0)) (.one 3) (.seq (.ix (.var 0) (.int 1))) (.some (.not (.call 112 (.cons (.var 0) (.cons (.var 1) (.cons (.var 2) (.cons (.ix (.var 3) (.int 0)) .nil))))))))) .nil))
def f114 : Fn := ⟨3, 4, b114⟩
def b116_1 : SL := (.cons (.ext 7 (.comp (.var 10) (.many [9, 10]) (.seq (.call 64 (.cons (.var 0) (.cons (.var 8) .nil)))) (.some (.cmp .nin (.var 3) (.var 10))))) .nil)
def b116_2 : SL := (.cons (.put 4 (.var 10) (.bl true)) .nil)
def b116_3 : SL := (.cons (.own 7 (.lst .nil)) (.cons (.frr (.one 8) (.seq (.var 5)) b116_1) (.fz 7 (.cons (.set 5 (.comp (.var 10) (.one 10) (.seq (.b1 .ssett (.var 7))) (.some (.bor (.cmp .nin (.var 10) (.var 4)))))) (.cons (.frr (.one 10) (.seq (.var 5)) b116_2) .nil)))))
def b116 : SL := (.cons (.iff (.cmp .isin (.var 3) (.var 1)) (.cons (.ret (.bl false)) .nil) .nil) (.cons (.own 4 (.dct1 true (.var 1) (.bl true))) (.cons (.set 5 (.lst (.cons (.var 1) .nil))) (.cons (.frr (.one 6) (.rng1 (.int 64)) b116_3) (.fz 4 (.cons (.ret (.b1 .any (.comp (.call 21 (.cons (.var 8) (.cons (.var 2) .nil))) (.one 8) (.keys 4) .none))) .nil))))))
def f116 : Fn := ⟨4, 11, b116⟩
def b117 : SL := (.cons (.ex (.call 113 (.cons (.var 0) (.cons (.var 1) (.cons (.var 2) .nil))))) (.cons (.ret (.comp (.var 3) (.one 3) (.seq (.ix (.var 0) (.int 0))) (.some (.not (.call 116 (.cons (.var 0) (.cons (.var 1) (.cons (.var 2) (.cons (.var 3) .nil))))))))) .nil))
def f117 : Fn := ⟨3, 4, b117⟩
def b120_1 : SL := (.cons (.iff (.not (.b1 .any (.comp (.call 21 (.cons (.var 5) (.cons (.tup (.cons (.ix (.var 4) (.int 1)) (.cons (.ix (.var 4) (.int 2)) .nil))) .nil))) (.one 5) (.seq (.var 2)) .none))) (.cons (.app 3 (.ix (.var 4) (.int 0))) .nil) .nil) .nil)
def b120 : SL := (.cons (.ex (.call 39 (.cons (.var 0) (.cons (.var 1) (.cons (.tup (.cons (.tup .nil) (.cons (.tup .nil) .nil))) .nil))))) (.cons (.set 2 (.b1 .list (.call 65 (.cons (.var 0) (.cons (.var 1) .nil))))) (.cons (.own 3 (.lst .nil)) (.cons (.frr (.one 4) (.seq (.ix (.var 0) (.int 1))) b120_1) (.fz 3 (.cons (.ret (.var 3)) .nil))))))
def f120 : Fn := ⟨2, 6, b120⟩
def b122 : SL := (.cons (.iff (.or (.cons (.not (.call 3 (.cons (.ix (.var 0) (.int 4)) (.cons (.ix (.var 1) (.int 1)) .nil)))) (.cons (.not (.call 3 (.cons (.ix (.var 0) (.int 3)) (.cons (.ix (.var 1) (.int 2)) .nil)))) .nil))) (.cons (.ret (.bl true)) .nil) .nil) (.cons (.ret (.or (.cons (.not (.call 3 (.cons (.ix (.var 0) (.int 3)) (.cons (.ix (.var 1) (.int 4)) .nil)))) (.cons (.not (.call 3 (.cons (.ix (.var 0) (.int 4)) (.cons (.ix (.var 1) (.int 3)) .nil)))) .nil)))) .nil))
def f122 : Fn := ⟨2, 2, b122⟩
def b123 : SL := (.cons (.iff (.or (.cons (.not (.call 3 (.cons (.ix (.var 0) (.int 3)) (.cons (.ix (.var 1) (.int 1)) .nil)))) (.cons (.not (.call 3 (.cons (.ix (.var 0) (.int 4)) (.cons (.ix (.var 1) (.int 2)) .nil)))) .nil))) (.cons (.ret (.bl false)) .nil) .nil) (.cons (.iff (.or (.cons (.not (.call 3 (.cons (.ix (.var 1) (.int 3)) (.cons (.ix (.var 0) (.int 1)) .nil)))) (.cons (.not (.call 3 (.cons (.ix (.var 1) (.int 4)) (.cons (.ix (.var 0) (.int 2)) .nil)))) .nil))) (.cons (.ret (.bl false)) .nil) .nil) (.cons (.ret (.and (.cons (.not (.call 122 (.cons (.var 0) (.cons (.var 1) .nil)))) (.cons (.not (.call 122 (.cons (.var 1) (.cons (.var 0) .nil)))) .nil)))) .nil)))
def f123 : Fn := ⟨2, 2, b123⟩
def b124 : SL := (.cons (.ex (.call 6 (.cons (.var 0) .nil))) (.cons (.iff (.or (.cons (.not (.isi .str (.var 1))) (.cons (.cmp .isn (.call 24 (.cons (.var 0) (.cons (.var 1) .nil))) .non) (.cons (.not (.isi .str (.var 2))) (.cons (.cmp .isn (.call 24 (.cons (.var 0) (.cons (.var 2) .nil))) .non) .nil))))) (.cons (.rais 3) .nil) .nil) (.cons (.ret (.call 123 (.cons (.call 24 (.cons (.var 0) (.cons (.var 1) .nil))) (.cons (.call 24 (.cons (.var 0) (.cons (.var 2) .nil))) .nil)))) .nil)))
def f124 : Fn := ⟨3, 3, b124⟩
def b130_1 : SL := (.cons (.iff (.not (.call 123 (.cons (.var 5) (.cons (.call 24 (.cons (.var 0) (.cons (.var 8) .nil))) .nil)))) (.cons (.set 6 (.bor (.b2 .max (.var 6) (.bin .add (.ix (.var 2) (.var 7)) (.int 1))))) .nil) .nil) .nil)
def b130_2 : SL := (.cons (.set 5 (.call 24 (.cons (.var 0) (.cons (.var 4) .nil)))) (.cons (.set 6 (.int 0)) (.cons (.frr (.many [7, 8]) (.enm (.sl (.var 1) .none (.some (.var 3)))) b130_1) (.cons (.app 2 (.var 6)) .nil))))
def b130 : SL := (.cons (.own 2 (.lst .nil)) (.cons (.frr (.many [3, 4]) (.enm (.var 1)) b130_2) (.fz 2 (.cons (.ret (.var 2)) .nil))))
def f130 : Fn := ⟨2, 9, b130⟩
def b131_1 : SL := (.cons (.app 3 (.comp (.var 5) (.many [5, 6]) (.zip (.var 1) (.var 2)) (.some (.cmp .eq (.var 6) (.var 4))))) .nil)
def b131 : SL := (.cons (.ex (.call 6 (.cons (.var 0) .nil))) (.cons (.ex (.call 44 (.cons (.var 0) (.cons (.var 1) .nil)))) (.cons (.set 2 (.call 130 (.cons (.var 0) (.cons (.var 1) .nil)))) (.cons (.own 3 (.lst .nil)) (.cons (.frr (.one 4) (.rng1 (.bin .add (.b1 .max (.bin .add (.var 2) (.lst (.cons (.neg (.int 1)) .nil)))) (.int 1))) b131_1) (.fz 3 (.cons (.ret (.var 3)) .nil)))))))
def f131 : Fn := ⟨2, 7, b131⟩
def b135_1 : SL := (.cons (.set 7 (.bin .add (.sl (.var 4) .none (.some (.var 6))) (.sl (.var 4) (.some (.bin .add (.var 6) (.int 1))) .none))) (.cons (.iff (.call 54 (.cons (.var 0) (.cons (.var 1) (.cons (.var 2) (.cons (.var 7) .nil))))) (.cons (.set 4 (.var 7)) .nil) .nil) .nil))
def b135_2 : SL := (.cons (.set 5 (.b1 .list (.var 4))) (.cons (.frr (.one 6) (.rngd (.bin .sub (.b1 .len (.var 5)) (.int 1)) (.neg (.int 1))) b135_1) .nil))
def b135 : SL := (.cons (.ex (.call 39 (.cons (.var 0) (.cons (.var 1) (.cons (.var 2) .nil))))) (.cons (.ex (.call 44 (.cons (.var 0) (.cons (.var 3) .nil)))) (.cons (.iff (.not (.call 54 (.cons (.var 0) (.cons (.var 1) (.cons (.var 2) (.cons (.var 3) .nil)))))) (.cons (.raisn 4 .non) .nil) .nil) (.cons (.set 4 (.b1 .list (.var 3))) (.cons (.set 5 .non) (.cons (.whl 1000 (.cmp .ne (.var 5) (.var 4)) b135_2) (.cons (.ret (.var 4)) .nil)))))))
def f135 : Fn := ⟨4, 8, b135⟩
def b138 : SL := (.cons (.set 5 (.call 60 (.cons (.var 0) (.cons (.var 2) (.cons (.sl (.var 3) (.some (.var 4)) .none) .nil))))) (.cons (.iff (.cmp .isn (.var 5) .non) (.cons (.ret .non) .nil) .nil) (.cons (.ret (.call 71 (.cons (.var 0) (.cons (.var 1) (.cons (.var 5) .nil))))) .nil)))
def f138 : Fn := ⟨5, 6, b138⟩
def b139_1 : SL := (.cons (.set 6 (.call 138 (.cons (.var 0) (.cons (.var 1) (.cons (.var 2) (.cons (.var 3) (.cons (.var 5) .nil))))))) (.cons (.iff (.and (.cons (.cmp .nisn (.var 6) .non) (.cons (.or (.cons (.cmp .isn (.var 4) .non) (.cons (.cmp .lt (.b1 .len (.var 6)) (.ix (.var 4) (.int 0))) .nil))) .nil))) (.cons (.set 4 (.tup (.cons (.b1 .len (.var 6)) (.cons (.bin .add (.var 6) (.sl (.var 3) (.some (.var 5)) .none)) .nil)))) .nil) .nil) .nil))
def b139 : SL := (.cons (.ex (.call 39 (.cons (.var 0) (.cons (.var 1) (.cons (.var 2) .nil))))) (.cons (.ex (.call 44 (.cons (.var 0) (.cons (.var 3) .nil)))) (.cons (.set 4 .non) (.cons (.frr (.one 5) (.rngd (.b1 .len (.var 3)) (.neg (.int 1))) b139_1) (.cons (.iff (.cmp .isn (.var 4) .non) (.cons (.ret .non) .nil) .nil) (.cons (.ret (.ix (.var 4) (.int 1))) .nil))))))
def f139 : Fn := ⟨4, 7, b139⟩
def b141_1 : SL := (.cons (.iff (.or (.cons (.not (.isi .tuple (.var 2))) (.cons (.cmp .ne (.b1 .len (.var 2)) (.int 2)) (.cons (.not (.isi .str (.ix (.var 2) (.int 0)))) (.cons (.cmp .nin (.ix (.var 2) (.int 0)) (.ix (.var 0) (.int 0))) .nil))))) (.cons (.ret (.bl false)) .nil) .nil) (.cons (.iff (.not (.call 1 (.cons (.ix (.var 2) (.int 1)) (.cons (.neg (.gl 6)) (.cons (.gl 6) .nil))))) (.cons (.ret (.bl false)) .nil) .nil) .nil))
def b141 : SL := (.cons (.iff (.not (.isi .tuple (.var 1))) (.cons (.ret (.bl false)) .nil) .nil) (.cons (.frr (.one 2) (.seq (.var 1)) b141_1) (.cons (.ret (.cmp .eq (.b1 .lset (.comp (.ix (.var 2) (.int 0)) (.one 2) (.seq (.var 1)) .none)) (.b1 .len (.var 1)))) .nil)))
def f141 : Fn := ⟨2, 3, b141⟩
def b142 : SL := (.cons (.ret (.b1 .sum (.comp (.var 3) (.many [2, 3]) (.seq (.var 0)) (.some (.cmp .isin (.var 2) (.var 1)))))) .nil)
def f142 : Fn := ⟨2, 4, b142⟩
def b143 : SL := (.cons (.ex (.call 20 (.cons (.var 0) (.cons (.var 1) .nil)))) (.cons (.iff (.not (.call 141 (.cons (.var 0) (.cons (.var 2) .nil)))) (.cons (.rais 7) .nil) .nil) (.cons (.iff (.not (.call 1 (.cons (.var 3) (.cons (.int 0) (.cons (.gl 7) .nil))))) (.cons (.rais 8) .nil) .nil) .nil)))
def f143 : Fn := ⟨4, 4, b143⟩
def b144 : SL := (.cons (.ex (.call 143 (.cons (.var 0) (.cons (.var 1) (.cons (.var 2) (.cons (.var 3) .nil)))))) (.cons (.set 4 (.call 65 (.cons (.var 0) (.cons (.var 1) .nil)))) (.cons (.ret (.b1 .max (.comp (.call 142 (.cons (.var 2) (.cons (.var 5) .nil))) (.one 5) (.keys 4) (.some (.cmp .le (.b1 .len (.call 66 (.cons (.var 4) (.cons (.var 5) .nil)))) (.var 3)))))) .nil)))
def f144 : Fn := ⟨4, 6, b144⟩
def b145 : SL := (.cons (.ex (.call 143 (.cons (.var 0) (.cons (.var 1) (.cons (.var 2) (.cons (.var 3) .nil)))))) (.cons (.set 4 (.call 65 (.cons (.var 0) (.cons (.var 1) .nil)))) (.cons (.set 5 (.comp (.tup (.cons (.call 66 (.cons (.var 4) (.cons (.var 6) .nil))) (.cons (.call 142 (.cons (.var 2) (.cons (.var 6) .nil))) .nil))) (.one 6) (.keys 4) .none)) (.cons (.set 7 (.b1 .max (.comp (.var 9) (.many [8, 9]) (.seq (.var 5)) (.some (.cmp .le (.b1 .len (.var 8)) (.var 3)))))) (.cons (.ret (.b1 .minlen (.comp (.var 8) (.many [8, 9]) (.seq (.var 5)) (.some (.cmp .eq (.var 9) (.var 7)))))) .nil)))))
def f145 : Fn := ⟨4, 10, b145⟩
def b150 : SL := (.cons (.ret (.b1 .tuple (.comp (.var 2) (.one 2) (.seq (.var 1)) (.some (.cmp .isin (.var 2) (.var 0)))))) .nil)
def f150 : Fn := ⟨2, 3, b150⟩
def b151_1 : SL := (.cons (.set 4 (.comp (.call 150 (.cons (.var 1) (.cons (.var 5) .nil))) (.one 5) (.seq (.sl (.var 3) (.some (.int 1)) (.some (.int 5)))) .none)) (.cons (.app 2 (.bin .add (.bin .add (.tup (.cons (.ix (.var 3) (.int 0)) .nil)) (.b1 .tuple (.var 4))) (.sl (.var 3) (.some (.int 5)) .none))) .nil))
def b151 : SL := (.cons (.ex (.call 6 (.cons (.var 0) .nil))) (.cons (.iff (.not (.call 2 (.cons (.ix (.var 0) (.int 0)) (.cons (.var 1) .nil)))) (.cons (.rais 7) .nil) .nil) (.cons (.own 2 (.lst .nil)) (.cons (.frr (.one 3) (.seq (.ix (.var 0) (.int 1))) b151_1) (.fz 2 (.cons (.ret (.tup (.cons (.var 1) (.cons (.b1 .tuple (.var 2)) .nil)))) .nil))))))
def f151 : Fn := ⟨2, 6, b151⟩
def b152_1 : SL := (.cons (.app 2 (.ix (.lst (.cons (.var 3) (.cons (.var 1) .nil))) (.b1 .int (.cmp .eq (.ix (.var 3) (.int 0)) (.ix (.var 1) (.int 0)))))) .nil)
def b152 : SL := (.cons (.ex (.call 6 (.cons (.var 0) .nil))) (.cons (.iff (.not (.call 4 (.cons (.ix (.var 0) (.int 0)) (.cons (.var 1) .nil)))) (.cons (.rais 3) .nil) .nil) (.cons (.own 2 (.lst .nil)) (.cons (.frr (.one 3) (.seq (.ix (.var 0) (.int 1))) b152_1) (.cons (.iff (.bor (.cmp .nin (.var 1) (.var 2))) (.cons (.app 2 (.var 1)) .nil) .nil) (.fz 2 (.cons (.iff (.cmp .gt (.b1 .len (.var 2)) (.int 6)) (.cons (.rais 3) .nil) .nil) (.fz 2 (.cons (.ret (.tup (.cons (.ix (.var 0) (.int 0)) (.cons (.b1 .tuple (.var 2)) .nil)))) .nil)))))))))
def f152 : Fn := ⟨2, 4, b152⟩
def b153 : SL := (.cons (.ex (.call 6 (.cons (.var 0) .nil))) (.cons (.iff (.or (.cons (.not (.isi .str (.var 1))) (.cons (.cmp .nin (.var 1) (.comp (.ix (.var 2) (.int 0)) (.one 2) (.seq (.ix (.var 0) (.int 1))) .none)) .nil))) (.cons (.rais 3) .nil) .nil) (.cons (.ret (.tup (.cons (.ix (.var 0) (.int 0)) (.cons (.b1 .tuple (.comp (.var 2) (.one 2) (.seq (.ix (.var 0) (.int 1))) (.some (.cmp .ne (.ix (.var 2) (.int 0)) (.var 1))))) .nil)))) .nil)))
def f153 : Fn := ⟨2, 3, b153⟩
def b161 : SL := (.cons (.ret (.and (.cons (.b1 .all (.comp (.cmp .isin (.var 1) (.ix (.var 0) (.int 1))) (.one 1) (.seq (.ix (.var 0) (.int 4))) .none)) (.cons (.b1 .all (.comp (.cmp .isin (.var 1) (.ix (.var 0) (.int 2))) (.one 1) (.seq (.ix (.var 0) (.int 3))) .none)) .nil)))) .nil)
def f161 : Fn := ⟨1, 2, b161⟩
def b178 : SL := (.cons (.set 2 (.tup (.cons (.str "x") (.cons (.tup .nil) (.cons (.tup .nil) (.cons (.tup .nil) (.cons (.tup .nil) (.cons (.int 0) .nil)))))))) (.cons (.own 3 (.lst (.cons (.bin .add (.tup (.cons (.str "X") .nil)) (.sl (.var 2) (.some (.int 1)) .none)) (.cons (.sl (.var 2) .none (.some (.int 5))) (.cons (.b1 .list (.var 2)) (.cons .non (.cons (.bin .add (.sl (.var 2) .none (.some (.int 5))) (.tup (.cons (.int 10) .nil))) (.cons (.bin .add (.sl (.var 2) .none (.some (.int 5))) (.tup (.cons (.neg (.int 1)) .nil))) (.cons (.bin .add (.sl (.var 2) .none (.some (.int 5))) (.tup (.cons (.bl true) .nil))) .nil))))))))) (.cons (.ext 3 (.lst (.cons (.bin .add (.bin .add (.sl (.var 2) .none (.some (.int 1))) (.tup (.cons (.lst (.cons (.str "a") .nil)) .nil))) (.sl (.var 2) (.some (.int 2)) .none)) (.cons (.bin .add (.bin .add (.sl (.var 2) .none (.some (.int 1))) (.tup (.cons (.tup (.cons (.str "b") (.cons (.str "a") .nil))) .nil))) (.sl (.var 2) (.some (.int 2)) .none)) .nil)))) (.cons (.app 3 (.bin .add (.bin .add (.sl (.var 2) .none (.some (.int 1))) (.tup (.cons (.tup (.cons (.str "a") (.cons (.str "a") .nil))) .nil))) (.sl (.var 2) (.some (.int 2)) .none))) (.cons (.ext 3 (.lst (.cons (.bin .add (.bin .add (.sl (.var 2) .none (.some (.int 1))) (.tup (.cons (.tup (.cons (.str "a") .nil)) (.cons (.tup (.cons (.str "a") .nil)) .nil)))) (.sl (.var 2) (.some (.int 3)) .none)) (.cons (.bin .add (.bin .add (.sl (.var 2) .none (.some (.int 3))) (.tup (.cons (.tup (.cons (.str "a") .nil)) (.cons (.tup (.cons (.str "a") .nil)) .nil)))) (.sl (.var 2) (.some (.int 5)) .none)) (.cons (.bin .add (.sl (.var 2) .none (.some (.int 4))) (.tup (.cons .non (.cons (.int 0) .nil)))) .nil))))) (.cons (.ext 3 (.lst (.cons (.bin .add (.bin .add (.sl (.var 2) .none (.some (.int 1))) (.tup (.cons (.tup (.cons (.str "zz") .nil)) .nil))) (.sl (.var 2) (.some (.int 2)) .none)) (.cons (.bin .add (.var 2) (.tup (.cons (.int 0) .nil))) (.cons (.bin .add (.bin .add (.sl (.var 2) .none (.some (.int 2))) (.tup (.cons (.tup (.cons (.str "a") (.cons (.int 1) .nil))) .nil))) (.sl (.var 2) (.some (.int 3)) .none)) .nil))))) (.fz 3 (.cons (.ret (.ix (.var 3) (.call 9 (.cons (.var 0) (.cons (.var 1) (.cons (.int 16) .nil)))))) .nil))))))))
def f178 : Fn := ⟨2, 4, b178⟩
def b179 : SL := (.cons (.set 2 (.tup (.cons (.str "a") (.cons (.str "b") .nil)))) (.cons (.set 3 (.tup (.cons (.str "x") (.cons (.tup .nil) (.cons (.tup .nil) (.cons (.tup .nil) (.cons (.tup .nil) (.cons (.int 0) .nil)))))))) (.cons (.set 4 (.call 178 (.cons (.var 0) (.cons (.bin .add (.var 1) (.int 1)) .nil)))) (.cons (.set 5 (.b1 .tuple (.comp (.bin .add (.tup (.cons (.var 6) .nil)) (.sl (.var 3) (.some (.int 1)) .none)) (.one 6) (.seq (.lst (.cons (.str "p") (.cons (.str "q") (.cons (.str "r") (.cons (.str "s") (.cons (.str "t") (.cons (.str "u") (.cons (.str "v") .nil))))))))) .none))) (.cons (.own 7 (.lst (.cons (.tup (.cons (.var 2) (.cons (.tup (.cons (.var 4) .nil)) .nil))) (.cons (.tup (.cons (.var 2) (.cons (.tup (.cons (.var 3) (.cons (.var 4) .nil))) .nil))) (.cons .non .nil))))) (.cons (.ext 7 (.lst (.cons (.tup (.cons (.var 2) (.cons (.tup (.cons (.var 3) (.cons (.var 3) .nil))) .nil))) (.cons (.tup (.cons (.var 2) (.cons (.var 5) .nil))) (.cons (.tup (.cons (.var 2) (.cons (.lst (.cons (.var 3) .nil)) .nil))) (.cons (.tup (.cons (.var 2) .nil)) (.cons (.lst (.cons (.var 2) (.cons (.tup .nil) .nil))) (.cons .non (.cons (.tup (.cons (.tup (.cons (.str "b") (.cons (.str "a") .nil))) (.cons (.tup .nil) .nil))) .nil))))))))) (.cons (.ext 7 (.lst (.cons (.tup (.cons (.tup (.cons (.str "a") (.cons (.str "a") .nil))) (.cons (.tup .nil) .nil))) (.cons (.tup (.cons (.lst (.cons (.str "a") .nil)) (.cons (.tup .nil) .nil))) (.cons (.tup (.cons (.tup (.cons (.str "A") .nil)) (.cons (.tup .nil) .nil))) (.cons (.tup (.cons (.b1 .tups (.str "abcdefg")) (.cons (.tup .nil) .nil))) (.cons (.bin .add (.tup (.cons (.var 2) (.cons (.tup .nil) .nil))) (.tup (.cons (.tup .nil) .nil))) (.cons (.tup (.cons (.tup (.cons (.str "") .nil)) (.cons (.tup .nil) .nil))) .nil)))))))) (.fz 7 (.cons (.ret (.ix (.var 7) (.ix (.lst (.cons (.int 0) (.cons (.int 0) (.cons (.int 0) (.cons (.int 1) (.cons (.int 1) (.cons (.int 3) (.cons (.int 4) (.cons (.int 5) (.cons (.int 6) (.cons (.int 7) (.cons (.int 8) (.cons (.int 9) (.cons (.int 10) (.cons (.int 11) (.cons (.int 12) (.cons (.int 13) (.cons (.int 14) (.cons (.int 15) .nil))))))))))))))))))) (.call 9 (.cons (.var 0) (.cons (.var 1) (.cons (.int 18) .nil))))))) .nil)))))))))
def f179 : Fn := ⟨2, 8, b179⟩
def b183 : SL := (.cons (.ret (.m1 .join (.str " ") (.bin .add (.lst (.cons (.var 0) .nil)) (.b1 .list (.var 1))))) .nil)
def f183 : Fn := ⟨2, 2, b183⟩
def b184_1 : SL := (.cons (.iff (.cmp .ne (.var 3) (.tup .nil)) (.cons (.app 1 (.call 183 (.cons (.var 2) (.cons (.var 3) .nil)))) .nil) .nil) .nil)
def b184 : SL := (.cons (.own 1 (.lst (.cons (.bin .add (.bin .add (.ix (.var 0) (.int 0)) (.str " ")) (.b1 .str (.ix (.var 0) (.int 5)))) .nil))) (.cons (.frr (.many [2, 3]) (.gzip 9 (.sl (.var 0) (.some (.int 1)) (.some (.int 5)))) b184_1) (.fz 1 (.cons (.ret (.m1 .join (.str ", ") (.var 1))) .nil))))
def f184 : Fn := ⟨1, 4, b184⟩
def b185 : SL := (.cons (.ret (.m1 .join (.str "\n") (.bin .add (.lst (.cons (.call 183 (.cons (.str "facts") (.cons (.ix (.var 0) (.int 0)) .nil))) .nil)) (.comp (.call 184 (.cons (.var 1) .nil)) (.one 1) (.seq (.ix (.var 0) (.int 1))) .none)))) .nil)
def f185 : Fn := ⟨1, 2, b185⟩
def b186 : SL := (.cons (.ex (.call 6 (.cons (.var 0) .nil))) (.cons (.ret (.call 185 (.cons (.var 0) .nil))) .nil))
def f186 : Fn := ⟨1, 1, b186⟩
def b196 : SL := (.cons (.unp [1, 2, 3, 4, 5, 6] (.var 0)) (.cons (.set 7 (.b1 .tuple (.b1 .sset (.bin .add (.comp (.var 8) (.one 8) (.seq (.var 2)) (.some (.cmp .nin (.var 8) (.var 5)))) (.b1 .list (.var 4)))))) (.cons (.set 9 (.b1 .tuple (.b1 .sset (.bin .add (.comp (.var 8) (.one 8) (.seq (.var 3)) (.some (.cmp .nin (.var 8) (.var 4)))) (.b1 .list (.var 5)))))) (.cons (.ret (.tup (.cons (.var 1) (.cons (.var 7) (.cons (.var 9) (.cons (.var 5) (.cons (.var 4) (.cons (.var 6) .nil)))))))) .nil))))
def f196 : Fn := ⟨1, 10, b196⟩
def b197 : SL := (.cons (.ex (.call 6 (.cons (.var 0) .nil))) (.cons (.iff (.not (.b1 .all (.comp (.call 161 (.cons (.var 1) .nil)) (.one 1) (.seq (.ix (.var 0) (.int 1))) .none))) (.cons (.ret .non) .nil) .nil) (.cons (.ret (.tup (.cons (.ix (.var 0) (.int 0)) (.cons (.b1 .tuple (.comp (.call 196 (.cons (.var 1) .nil)) (.one 1) (.seq (.ix (.var 0) (.int 1))) .none)) .nil)))) .nil)))
def f197 : Fn := ⟨1, 2, b197⟩
def b198 : SL := (.cons (.iff (.cmp .lt (.var 0) (.int 3)) (.cons (.ret (.callv (.ix (.lst (.cons (.fn 7) (.cons (.fn 186) (.cons (.fn 197) .nil)))) (.var 0)) (.cons (.var 1) .nil))) .nil) .nil) (.cons (.iff (.cmp .lt (.var 0) (.int 14)) (.cons (.own 2 (.lst (.cons (.fn 25) (.cons (.fn 67) (.cons (.fn 99) (.cons (.fn 108) (.cons (.fn 120) (.cons (.fn 48) (.cons (.fn 131) (.cons (.fn 151) (.cons (.fn 152) (.cons (.fn 153) (.cons (.fn 25) .nil))))))))))))) (.fz 2 (.cons (.ret (.callv (.ix (.var 2) (.bin .sub (.var 0) (.int 3))) (.cons (.var 1) (.cons .non .nil)))) .nil))) .nil) (.cons (.iff (.cmp .lt (.var 0) (.int 29)) (.cons (.own 2 (.lst (.cons (.fn 26) (.cons (.fn 40) (.cons (.fn 46) (.cons (.fn 61) (.cons (.fn 68) (.cons (.fn 72) (.cons (.fn 73) (.cons (.fn 76) (.cons (.fn 81) (.cons (.fn 83) (.cons (.fn 88) .nil))))))))))))) (.cons (.ext 2 (.lst (.cons (.fn 110) (.cons (.fn 114) (.cons (.fn 117) (.cons (.fn 101) .nil)))))) (.fz 2 (.cons (.ret (.callv (.ix (.var 2) (.bin .sub (.var 0) (.int 14))) (.cons (.var 1) (.cons .non (.cons .non .nil))))) .nil)))) .nil) (.cons (.iff (.cmp .eq (.var 0) (.int 29)) (.cons (.ret (.call 124 (.cons (.var 1) (.cons .non (.cons .non .nil))))) .nil) .nil) (.cons (.own 2 (.lst (.cons (.fn 55) (.cons (.fn 90) (.cons (.fn 135) (.cons (.fn 139) (.cons (.fn 144) (.cons (.fn 145) .nil)))))))) (.fz 2 (.cons (.ret (.callv (.ix (.var 2) (.bin .sub (.var 0) (.int 30))) (.cons (.var 1) (.cons .non (.cons .non (.cons .non .nil)))))) .nil)))))))
def f198 : Fn := ⟨2, 3, b198⟩
def b199 : SL := (.cons (.iff (.cmp .lt (.var 0) (.int 5)) (.cons (.ret (.callv (.ix (.lst (.cons (.fn 25) (.cons (.fn 67) (.cons (.fn 99) (.cons (.fn 108) (.cons (.fn 120) .nil)))))) (.var 0)) (.cons (.var 1) (.cons (.var 2) .nil)))) .nil) .nil) (.cons (.iff (.cmp .lt (.var 0) (.int 19)) (.cons (.own 3 (.lst (.cons (.fn 26) (.cons (.fn 40) (.cons (.fn 46) (.cons (.fn 68) (.cons (.fn 72) (.cons (.fn 73) (.cons (.fn 76) (.cons (.fn 81) (.cons (.fn 83) (.cons (.fn 88) (.cons (.fn 110) .nil))))))))))))) (.cons (.ext 3 (.lst (.cons (.fn 114) (.cons (.fn 117) (.cons (.fn 101) .nil))))) (.fz 3 (.cons (.ret (.callv (.ix (.var 3) (.bin .sub (.var 0) (.int 5))) (.cons (.var 1) (.cons (.var 2) (.cons .non .nil))))) .nil)))) .nil) (.cons (.ret (.callv (.ix (.lst (.cons (.fn 55) (.cons (.fn 90) (.cons (.fn 135) (.cons (.fn 139) (.cons (.fn 144) (.cons (.fn 145) .nil))))))) (.bin .sub (.var 0) (.int 19))) (.cons (.var 1) (.cons (.var 2) (.cons .non (.cons .non .nil)))))) .nil)))
def f199 : Fn := ⟨3, 4, b199⟩
def b200 : SL := (.cons (.iff (.cmp .lt (.var 0) (.int 10)) (.cons (.set 4 (.lst (.cons (.fn 40) (.cons (.fn 72) (.cons (.fn 73) (.cons (.fn 76) (.cons (.fn 81) (.cons (.fn 83) (.cons (.fn 88) (.cons (.fn 110) (.cons (.fn 114) (.cons (.fn 117) .nil)))))))))))) (.cons (.ret (.callv (.ix (.var 4) (.var 0)) (.cons (.var 1) (.cons (.var 2) (.cons (.var 3) .nil))))) .nil)) .nil) (.cons (.iff (.cmp .eq (.var 0) (.int 10)) (.cons (.ret (.call 61 (.cons (.var 1) (.cons (.var 3) (.cons .non .nil))))) .nil) .nil) (.cons (.ret (.callv (.ix (.lst (.cons (.fn 55) (.cons (.fn 90) (.cons (.fn 135) (.cons (.fn 139) .nil))))) (.bin .sub (.var 0) (.int 11))) (.cons (.var 1) (.cons (.var 2) (.cons (.var 3) (.cons .non .nil)))))) .nil)))
def f200 : Fn := ⟨4, 5, b200⟩
def b201 : SL := (.cons (.iff (.cmp .lt (.var 0) (.int 2)) (.cons (.ret (.callv (.ix (.lst (.cons (.fn 48) (.cons (.fn 131) .nil))) (.var 0)) (.cons (.var 1) (.cons (.var 4) .nil)))) .nil) .nil) (.cons (.iff (.cmp .eq (.var 0) (.int 2)) (.cons (.ret (.call 46 (.cons (.var 1) (.cons (.var 2) (.cons (.var 4) .nil))))) .nil) .nil) (.cons (.iff (.cmp .eq (.var 0) (.int 3)) (.cons (.ret (.call 61 (.cons (.var 1) (.cons (.var 3) (.cons (.var 4) .nil))))) .nil) .nil) (.cons (.ret (.callv (.ix (.lst (.cons (.fn 55) (.cons (.fn 135) (.cons (.fn 139) .nil)))) (.bin .sub (.var 0) (.int 4))) (.cons (.var 1) (.cons (.var 2) (.cons (.var 3) (.cons (.var 4) .nil)))))) .nil))))
def f201 : Fn := ⟨5, 5, b201⟩
def b202 : SL := (.cons (.unp [4, 5, 6] (.var 2)) (.cons (.tri (.cons (.iff (.cmp .eq (.var 0) (.int 0)) (.cons (.ret (.call 198 (.cons (.bin .mod (.var 1) (.int 36)) (.cons (.var 3) .nil)))) .nil) .nil) (.cons (.iff (.cmp .eq (.var 0) (.int 1)) (.cons (.ret (.call 199 (.cons (.bin .mod (.var 1) (.int 25)) (.cons (.var 4) (.cons (.var 3) .nil))))) .nil) .nil) (.cons (.iff (.cmp .eq (.var 0) (.int 2)) (.cons (.ret (.call 200 (.cons (.bin .mod (.var 1) (.int 15)) (.cons (.var 4) (.cons (.var 5) (.cons (.var 3) .nil)))))) .nil) .nil) (.cons (.ret (.call 201 (.cons (.bin .mod (.var 1) (.int 7)) (.cons (.var 4) (.cons (.var 5) (.cons (.var 6) (.cons (.var 3) .nil))))))) .nil)))) [(11, 0)]) .nil))
def f202 : Fn := ⟨4, 8, b202⟩
def b203_1 : SL := (.cons (.set 6 (.call 9 (.cons (.var 0) (.cons (.bin .add (.int 900) (.var 5)) (.cons (.bin .pow (.int 10) (.int 6)) .nil))))) (.fz 4 (.cons (.iff (.cmp .ne (.call 202 (.cons (.var 3) (.cons (.var 6) (.cons (.var 1) (.cons (.ix (.var 4) (.var 3)) .nil))))) (.tup (.cons (.str "refused") (.cons (.ix (.lst (.cons (.int 0) (.cons (.int 1) (.cons (.int 2) (.cons (.int 4) .nil))))) (.var 3)) .nil)))) (.cons (.ret (.bl false)) .nil) .nil) .nil)))
def b203 : SL := (.cons (.set 1 (.call 31 (.cons (.var 0) (.cons (.int 5) (.cons (.int 4) .nil))))) (.cons (.set 2 (.ix (.ix (.var 1) (.int 0)) (.int 0))) (.cons (.set 3 (.call 9 (.cons (.var 0) (.cons (.int 0) (.cons (.int 4) .nil))))) (.cons (.own 4 (.lst (.cons (.call 179 (.cons (.var 0) (.cons (.int 1) .nil))) (.cons (.call 34 (.cons (.var 0) (.cons (.int 5) (.cons (.var 2) .nil)))) (.cons (.call 41 (.cons (.var 0) (.cons (.int 7) (.cons (.var 2) .nil)))) .nil))))) (.cons (.app 4 (.call 51 (.cons (.var 0) (.cons (.int 10) (.cons (.ix (.var 1) (.int 0)) .nil))))) (.cons (.frr (.one 5) (.rng1 (.int 6)) b203_1) (.cons (.ret (.bl true)) .nil)))))))
def f203 : Fn := ⟨1, 7, b203⟩
def libT : Nat → Option Fn
  | 0 => some f0
  | 1 => some f1
  | 2 => some f2
  | 3 => some f3
  | 4 => some f4
  | 5 => some f5
  | 6 => some f6
  | 7 => some f7
  | 8 => some f8
  | 9 => some f9
  | 10 => some f10
  | 11 => some f11
  | 12 => some f12
  | 15 => some f15
  | 16 => some f16
  | 20 => some f20
  | 21 => some f21
  | 22 => some f22
  | 23 => some f23
  | 24 => some f24
  | 25 => some f25
  | 26 => some f26
  | 27 => some f27
  | 28 => some f28
  | 29 => some f29
  | 30 => some f30
  | 31 => some f31
  | 34 => some f34
  | 38 => some f38
  | 39 => some f39
  | 40 => some f40
  | 41 => some f41
  | 43 => some f43
  | 44 => some f44
  | 45 => some f45
  | 46 => some f46
  | 47 => some f47
  | 48 => some f48
  | 51 => some f51
  | 54 => some f54
  | 55 => some f55
  | 59 => some f59
  | 60 => some f60
  | 61 => some f61
  | 64 => some f64
  | 65 => some f65
  | 66 => some f66
  | 67 => some f67
  | 68 => some f68
  | 71 => some f71
  | 72 => some f72
  | 73 => some f73
  | 76 => some f76
  | 79 => some f79
  | 80 => some f80
  | 81 => some f81
  | 82 => some f82
  | 83 => some f83
  | 87 => some f87
  | 88 => some f88
  | 89 => some f89
  | 90 => some f90
  | 94 => some f94
  | 95 => some f95
  | 96 => some f96
  | 97 => some f97
  | 98 => some f98
  | 99 => some f99
  | 100 => some f100
  | 101 => some f101
  | 107 => some f107
  | 108 => some f108
  | 110 => some f110
  | 112 => some f112
  | 113 => some f113
  | 114 => some f114
  | 116 => some f116
  | 117 => some f117
  | 120 => some f120
  | 122 => some f122
  | 123 => some f123
  | 124 => some f124
  | 130 => some f130
  | 131 => some f131
  | 135 => some f135
  | 138 => some f138
  | 139 => some f139
  | 141 => some f141
  | 142 => some f142
  | 143 => some f143
  | 144 => some f144
  | 145 => some f145
  | 150 => some f150
  | 151 => some f151
  | 152 => some f152
  | 153 => some f153
  | 161 => some f161
  | 178 => some f178
  | 179 => some f179
  | 183 => some f183
  | 184 => some f184
  | 185 => some f185
  | 186 => some f186
  | 196 => some f196
  | 197 => some f197
  | 198 => some f198
  | 199 => some f199
  | 200 => some f200
  | 201 => some f201
  | 202 => some f202
  | 203 => some f203
  | _ => none
def libG : Nat → D
  | 0 => .str "abcdefghijklmnopqrstuvwxyz"
  | 1 => .int 6
  | 2 => .int 6
  | 3 => .int 6
  | 4 => .int 9
  | 5 => .int 64
  | 6 => .int 99
  | 7 => .int 64
  | 8 => .str "0123456789"
  | 9 => .tup [.str "needs", .str "bars", .str "makes", .str "ends"]
  | _ => .non
abbrev C (n : Nat) := callN libT libG n
end Pu
end
section
set_option maxRecDepth 100000
set_option maxHeartbeats 0
namespace Hd
open PySem PySem.Spec L2 Pu
def top (i : Nat) : Stmt := PySem.Challenge.pw_errands_k39_refused.main.body.getD i (.Pass ⟨0, 0, 0, 0⟩)
def wh0 : FnS := ⟨"_law_which", ["_law_e", "_law_own"], ["_law_e"], defArgs (top 138), defBody (top 138), defScope (top 138), ⟨0, 0, .nil⟩⟩
def inBody (s : Stmt) (i : Nat) : Stmt := match s with
  | .ClassDef _ _ _ body .. => body.getD i (.Pass ⟨0, 0, 0, 0⟩)
  | _ => .Pass ⟨0, 0, 0, 0⟩
def ini0 : FnS := ⟨"__init__", ["self", "number"], ["self", "number"], defArgs (inBody (top 6) 0), defBody (inBody (top 6) 0), defScope (inBody (top 6) 0), ⟨0, 0, .nil⟩⟩
def inis : List FnS := [ini0]
def whs : List FnS := [wh0]
def d0 : FnS := ⟨"is_word", ["thing", "sign"], ["thing"], defArgs (top 19), defBody (top 19), defScope (top 19), f0⟩
def d1 : FnS := ⟨"is_whole", ["thing", "low", "most"], ["thing", "low", "most"], defArgs (top 20), defBody (top 20), defScope (top 20), f1⟩
def d2 : FnS := ⟨"are_facts", ["facts", "thing", "one"], ["facts", "thing"], defArgs (top 21), defBody (top 21), defScope (top 21), f2⟩
def d3 : FnS := ⟨"are_apart", ["one", "other", "fact"], ["one", "other"], defArgs (top 22), defBody (top 22), defScope (top 22), f3⟩
def d4 : FnS := ⟨"is_errand", ["facts", "thing", "part"], ["facts", "thing"], defArgs (top 23), defBody (top 23), defScope (top 23), f4⟩
def d5 : FnS := ⟨"is_book", ["thing", "fact", "errand"], ["thing"], defArgs (top 24), defBody (top 24), defScope (top 24), f5⟩
def d6 : FnS := ⟨"need_book", ["book"], ["book"], defArgs (top 25), defBody (top 25), defScope (top 25), f6⟩
def d7 : FnS := ⟨"checked", ["book"], ["book"], defArgs (top 26), defBody (top 26), defScope (top 26), f7⟩
def d20 : FnS := ⟨"need_state", ["book", "state"], ["book", "state"], defArgs (top 27), defBody (top 27), defScope (top 27), f20⟩
def d38 : FnS := ⟨"is_want", ["book", "thing"], ["book", "thing"], defArgs (top 28), defBody (top 28), defScope (top 28), f38⟩
def d39 : FnS := ⟨"need_all", ["book", "state", "want"], ["book", "state", "want"], defArgs (top 29), defBody (top 29), defScope (top 29), f39⟩
def d21 : FnS := ⟨"fulfils", ["state", "want", "fact"], ["state", "want"], defArgs (top 30), defBody (top 30), defScope (top 30), f21⟩
def d40 : FnS := ⟨"is_met", ["book", "state", "want"], ["book", "state", "want"], defArgs (top 31), defBody (top 31), defScope (top 31), f40⟩
def d22 : FnS := ⟨"possible", ["errand", "state"], ["errand", "state"], defArgs (top 32), defBody (top 32), defScope (top 32), f22⟩
def d23 : FnS := ⟨"behind", ["errand", "state", "fact"], ["errand", "state"], defArgs (top 33), defBody (top 33), defScope (top 33), f23⟩
def d24 : FnS := ⟨"find", ["book", "name", "errand"], ["book", "name"], defArgs (top 34), defBody (top 34), defScope (top 34), f24⟩
def d25 : FnS := ⟨"can", ["book", "state", "errand"], ["book", "state"], defArgs (top 35), defBody (top 35), defScope (top 35), f25⟩
def d26 : FnS := ⟨"done", ["book", "state", "name", "errand"], ["book", "state", "name"], defArgs (top 36), defBody (top 36), defScope (top 36), f26⟩
def d64 : FnS := ⟨"steps", ["book", "state", "errand"], ["book", "state"], defArgs (top 38), defBody (top 38), defScope (top 38), f64⟩
def d65 : FnS := ⟨"met_from", ["book", "state", "met", "row", "at", "errand", "other"], ["book", "state"], defArgs (top 39), defBody (top 39), defScope (top 39), f65⟩
def d66 : FnS := ⟨"back_from", ["met", "state", "made", "name"], ["met", "state"], defArgs (top 40), defBody (top 40), defScope (top 40), f66⟩
def d67 : FnS := ⟨"reached", ["book", "state"], ["book", "state"], defArgs (top 41), defBody (top 41), defScope (top 41), f67⟩
def d71 : FnS := ⟨"shortest_row", ["book", "state", "want", "met", "other"], ["book", "state", "want"], defArgs (top 42), defBody (top 42), defScope (top 42), f71⟩
def d72 : FnS := ⟨"shortest", ["book", "state", "want"], ["book", "state", "want"], defArgs (top 43), defBody (top 43), defScope (top 43), f72⟩
def d73 : FnS := ⟨"far", ["book", "state", "want", "row"], ["book", "state", "want"], defArgs (top 44), defBody (top 44), defScope (top 44), f73⟩
def d76 : FnS := ⟨"shortest_rows", ["book", "state", "want", "many", "met", "one", "more", "errand", "other"], ["book", "state", "want"], defArgs (top 45), defBody (top 45), defScope (top 45), f76⟩
def d68 : FnS := ⟨"within", ["book", "state", "most", "met", "other"], ["book", "state", "most"], defArgs (top 46), defBody (top 46), defScope (top 46), f68⟩
def d112 : FnS := ⟨"leads_without", ["book", "state", "want", "name", "less", "errand"], ["book", "state", "want", "name"], defArgs (top 48), defBody (top 48), defScope (top 48), f112⟩
def d113 : FnS := ⟨"need_way", ["book", "state", "want"], ["book", "state", "want"], defArgs (top 49), defBody (top 49), defScope (top 49), f113⟩
def d114 : FnS := ⟨"must_do", ["book", "state", "want", "errand"], ["book", "state", "want"], defArgs (top 50), defBody (top 50), defScope (top 50), f114⟩
def d116 : FnS := ⟨"leads_past", ["book", "state", "want", "fact", "met", "row", "turn", "more", "one", "errand", "other"], ["book", "state", "want", "fact"], defArgs (top 51), defBody (top 51), defScope (top 51), f116⟩
def d117 : FnS := ⟨"must_hold", ["book", "state", "want", "fact"], ["book", "state", "want"], defArgs (top 52), defBody (top 52), defScope (top 52), f117⟩
def d120 : FnS := ⟨"idle", ["book", "state", "some", "made", "errand", "one"], ["book", "state"], defArgs (top 53), defBody (top 53), defScope (top 53), f120⟩
def d141 : FnS := ⟨"are_gains", ["book", "thing", "one"], ["book", "thing"], defArgs (top 57), defBody (top 57), defScope (top 57), f141⟩
def d142 : FnS := ⟨"gain_of", ["gains", "state", "fact", "number"], ["gains", "state"], defArgs (top 58), defBody (top 58), defScope (top 58), f142⟩
def d143 : FnS := ⟨"need_gains", ["book", "state", "gains", "most"], ["book", "state", "gains", "most"], defArgs (top 59), defBody (top 59), defScope (top 59), f143⟩
def d144 : FnS := ⟨"best_gain", ["book", "state", "gains", "most", "met", "one"], ["book", "state", "gains", "most"], defArgs (top 60), defBody (top 60), defScope (top 60), f144⟩
def d145 : FnS := ⟨"best_row", ["book", "state", "gains", "most", "met", "rows", "one", "best", "row", "gain"], ["book", "state", "gains", "most"], defArgs (top 61), defBody (top 61), defScope (top 61), f145⟩
def d107 : FnS := ⟨"layers_of", ["book", "state", "found", "fact", "turn", "grown", "more", "errand"], ["book", "state"], defArgs (top 63), defBody (top 63), defScope (top 63), f107⟩
def d108 : FnS := ⟨"layers", ["book", "state", "found", "fact"], ["book", "state"], defArgs (top 64), defBody (top 64), defScope (top 64), f108⟩
def d110 : FnS := ⟨"hint", ["book", "state", "want", "found", "fact"], ["book", "state", "want"], defArgs (top 65), defBody (top 65), defScope (top 65), f110⟩
def d43 : FnS := ⟨"is_row", ["book", "thing", "name"], ["book", "thing"], defArgs (top 68), defBody (top 68), defScope (top 68), f43⟩
def d44 : FnS := ⟨"need_row", ["book", "row"], ["book", "row"], defArgs (top 69), defBody (top 69), defScope (top 69), f44⟩
def d45 : FnS := ⟨"states_of", ["book", "state", "row", "made", "number", "name", "errand"], ["book", "state", "row"], defArgs (top 70), defBody (top 70), defScope (top 70), f45⟩
def d46 : FnS := ⟨"leads", ["book", "state", "row", "made"], ["book", "state", "row"], defArgs (top 71), defBody (top 71), defScope (top 71), f46⟩
def d54 : FnS := ⟨"does", ["book", "state", "want", "row", "made"], ["book", "state", "want", "row"], defArgs (top 72), defBody (top 72), defScope (top 72), f54⟩
def d55 : FnS := ⟨"serves", ["book", "state", "want", "row"], ["book", "state", "want", "row"], defArgs (top 73), defBody (top 73), defScope (top 73), f55⟩
def d59 : FnS := ⟨"ahead_of", ["errand", "want", "must", "fact", "bars"], ["errand", "want"], defArgs (top 74), defBody (top 74), defScope (top 74), f59⟩
def d60 : FnS := ⟨"asked_by", ["book", "want", "row", "name"], ["book", "want", "row"], defArgs (top 75), defBody (top 75), defScope (top 75), f60⟩
def d61 : FnS := ⟨"asked", ["book", "want", "row"], ["book", "want", "row"], defArgs (top 76), defBody (top 76), defScope (top 76), f61⟩
def d47 : FnS := ⟨"price_of", ["book", "row", "name"], ["book", "row"], defArgs (top 77), defBody (top 77), defScope (top 77), f47⟩
def d48 : FnS := ⟨"price", ["book", "row"], ["book", "row"], defArgs (top 78), defBody (top 78), defScope (top 78), f48⟩
def d135 : FnS := ⟨"trimmed", ["book", "state", "want", "row", "made", "before", "at", "less"], ["book", "state", "want", "row"], defArgs (top 80), defBody (top 80), defScope (top 80), f135⟩
def d138 : FnS := ⟨"mended_at", ["book", "state", "want", "row", "at", "need"], ["book", "state", "want", "row", "at"], defArgs (top 81), defBody (top 81), defScope (top 81), f138⟩
def d139 : FnS := ⟨"mended", ["book", "state", "want", "row", "best", "at", "first"], ["book", "state", "want", "row"], defArgs (top 82), defBody (top 82), defScope (top 82), f139⟩
def d94 : FnS := ⟨"holds_pair", ["state", "pair"], ["state", "pair"], defArgs (top 84), defBody (top 84), defScope (top 84), f94⟩
def d95 : FnS := ⟨"has_pair", ["facts", "pairs", "pair"], ["facts", "pairs"], defArgs (top 85), defBody (top 85), defScope (top 85), f95⟩
def d96 : FnS := ⟨"brings", ["errand", "pair", "pairs", "made", "fact", "kept"], ["errand", "pair", "pairs"], defArgs (top 86), defBody (top 86), defScope (top 86), f96⟩
def d97 : FnS := ⟨"all_pairs", ["facts", "made", "k", "one", "other"], ["facts"], defArgs (top 87), defBody (top 87), defScope (top 87), f97⟩
def d98 : FnS := ⟨"apart_from", ["book", "state", "pairs", "pair", "before", "errand"], ["book", "state"], defArgs (top 88), defBody (top 88), defScope (top 88), f98⟩
def d99 : FnS := ⟨"apart", ["book", "state"], ["book", "state"], defArgs (top 89), defBody (top 89), defScope (top 89), f99⟩
def d100 : FnS := ⟨"is_pair", ["book", "thing", "fact"], ["book", "thing"], defArgs (top 90), defBody (top 90), defScope (top 90), f100⟩
def d101 : FnS := ⟨"keeps_apart", ["book", "state", "pairs", "pair", "errand"], ["book", "state", "pairs"], defArgs (top 91), defBody (top 91), defScope (top 91), f101⟩
def d79 : FnS := ⟨"prices_from", ["book", "state", "best", "open_now", "here", "one", "errand", "other", "cost"], ["book", "state"], defArgs (top 93), defBody (top 93), defScope (top 93), f79⟩
def d80 : FnS := ⟨"goal_of", ["best", "want", "some", "one"], ["best", "want"], defArgs (top 94), defBody (top 94), defScope (top 94), f80⟩
def d81 : FnS := ⟨"least_price", ["book", "state", "want", "best", "goal"], ["book", "state", "want"], defArgs (top 95), defBody (top 95), defScope (top 95), f81⟩
def d82 : FnS := ⟨"cheapest_row", ["book", "state", "want", "best", "here", "made", "name"], ["book", "state", "want"], defArgs (top 96), defBody (top 96), defScope (top 96), f82⟩
def d83 : FnS := ⟨"cheapest", ["book", "state", "want"], ["book", "state", "want"], defArgs (top 97), defBody (top 97), defScope (top 97), f83⟩
def d87 : FnS := ⟨"rests", ["book", "state", "want", "some", "rest", "one", "changed", "errand", "other"], ["book", "state", "want"], defArgs (top 98), defBody (top 98), defScope (top 98), f87⟩
def d88 : FnS := ⟨"price_paper", ["book", "state", "want", "rest", "top", "one"], ["book", "state", "want"], defArgs (top 99), defBody (top 99), defScope (top 99), f88⟩
def d89 : FnS := ⟨"is_page", ["book", "thing"], ["book", "thing"], defArgs (top 100), defBody (top 100), defScope (top 100), f89⟩
def d90 : FnS := ⟨"shown_by", ["book", "state", "want", "paper", "one", "rest", "errand", "other"], ["book", "state", "want", "paper"], defArgs (top 101), defBody (top 101), defScope (top 101), f90⟩
def d122 : FnS := ⟨"disturbs", ["one", "other"], ["one", "other"], defArgs (top 103), defBody (top 103), defScope (top 103), f122⟩
def d123 : FnS := ⟨"beside_each", ["one", "other"], ["one", "other"], defArgs (top 104), defBody (top 104), defScope (top 104), f123⟩
def d124 : FnS := ⟨"beside", ["book", "one", "other"], ["book", "one", "other"], defArgs (top 105), defBody (top 105), defScope (top 105), f124⟩
def d130 : FnS := ⟨"rounds_of", ["book", "row", "made", "place", "name", "errand", "late", "before", "other"], ["book", "row"], defArgs (top 106), defBody (top 106), defScope (top 106), f130⟩
def d131 : FnS := ⟨"rounds", ["book", "row", "numbers", "made", "turn", "name", "number"], ["book", "row"], defArgs (top 107), defBody (top 107), defScope (top 107), f131⟩
def d183 : FnS := ⟨"joined_words", ["first", "some"], ["first", "some"], defArgs (top 110), defBody (top 110), defScope (top 110), f183⟩
def d184 : FnS := ⟨"errand_text", ["errand", "parts", "word", "some"], ["errand"], defArgs (top 111), defBody (top 111), defScope (top 111), f184⟩
def d185 : FnS := ⟨"text_of", ["book", "errand"], ["book"], defArgs (top 112), defBody (top 112), defScope (top 112), f185⟩
def d186 : FnS := ⟨"shown", ["book"], ["book"], defArgs (top 113), defBody (top 113), defScope (top 113), f186⟩
def d150 : FnS := ⟨"only_in", ["facts", "some", "fact"], ["facts", "some"], defArgs (top 115), defBody (top 115), defScope (top 115), f150⟩
def d151 : FnS := ⟨"seen", ["book", "facts", "made", "errand", "parts", "part"], ["book", "facts"], defArgs (top 116), defBody (top 116), defScope (top 116), f151⟩
def d152 : FnS := ⟨"with_errand", ["book", "errand", "made", "one"], ["book", "errand"], defArgs (top 117), defBody (top 117), defScope (top 117), f152⟩
def d153 : FnS := ⟨"without_errand", ["book", "name", "one"], ["book", "name"], defArgs (top 118), defBody (top 118), defScope (top 118), f153⟩
def d196 : FnS := ⟨"turned", ["errand", "name", "needs", "bars", "makes", "ends", "price", "must", "fact", "stays"], ["errand"], defArgs (top 119), defBody (top 119), defScope (top 119), f196⟩
def d161 : FnS := ⟨"is_exact", ["errand", "fact"], ["errand"], defArgs (top 120), defBody (top 120), defScope (top 120), f161⟩
def d197 : FnS := ⟨"back_book", ["book", "errand"], ["book"], defArgs (top 121), defBody (top 121), defScope (top 121), f197⟩
def d8 : FnS := ⟨"_law_cell_at", ["_law_script", "_law_k"], ["_law_script", "_law_k"], defArgs (top 123), defBody (top 123), defScope (top 123), f8⟩
def d9 : FnS := ⟨"_law_mixed", ["_law_script", "_law_k", "_law_many", "_law_drawn"], ["_law_script", "_law_k", "_law_many"], defArgs (top 124), defBody (top 124), defScope (top 124), f9⟩
def d10 : FnS := ⟨"_law_word", ["_law_script", "_law_at", "_law_made", "_law_k"], ["_law_script", "_law_at"], defArgs (top 125), defBody (top 125), defScope (top 125), f10⟩
def d11 : FnS := ⟨"_law_facts", ["_law_script", "_law_at", "_law_most", "_law_found", "_law_k"], ["_law_script", "_law_at", "_law_most"], defArgs (top 126), defBody (top 126), defScope (top 126), f11⟩
def d27 : FnS := ⟨"_law_some", ["_law_script", "_law_at", "_law_facts_here", "_law_part", "_law_k", "_law_fact"], ["_law_script", "_law_at", "_law_facts_here", "_law_part"], defArgs (top 127), defBody (top 127), defScope (top 127), f27⟩
def d12 : FnS := ⟨"_law_thin", ["_law_script", "_law_at", "_law_facts_here", "_law_name", "_law_one", "_law_two", "_law_goal", "_law_needs", "_law_bars", "_law_fact", "_law_ends", "_law_parts", "_law_part"], ["_law_script", "_law_at", "_law_facts_here", "_law_name"], defArgs (top 128), defBody (top 128), defScope (top 128), f12⟩
def d28 : FnS := ⟨"_law_errand", ["_law_script", "_law_at", "_law_facts_here", "_law_name", "_law_parts", "_law_k", "_law_fact", "_law_way", "_law_some_here", "_law_part"], ["_law_script", "_law_at", "_law_facts_here", "_law_name"], defArgs (top 129), defBody (top 129), defScope (top 129), f28⟩
def d29 : FnS := ⟨"_law_book", ["_law_script", "_law_at", "_law_most", "_law_many", "_law_facts_here", "_law_made", "_law_k", "_law_name", "_law_names", "_law_turn"], ["_law_script", "_law_at", "_law_most", "_law_many"], defArgs (top 130), defBody (top 130), defScope (top 130), f29⟩
def d30 : FnS := ⟨"_law_want", ["_law_script", "_law_at", "_law_facts_here", "_law_must", "_law_bars", "_law_k", "_law_fact", "_law_way"], ["_law_script", "_law_at", "_law_facts_here"], defArgs (top 131), defBody (top 131), defScope (top 131), f30⟩
def d31 : FnS := ⟨"_law_case", ["_law_script", "_law_most", "_law_many", "_law_book_here", "_law_state"], ["_law_script", "_law_most", "_law_many"], defArgs (top 132), defBody (top 132), defScope (top 132), f31⟩
def d178 : FnS := ⟨"_law_bad_errand", ["_law_script", "_law_at", "_law_good", "_law_some_here"], ["_law_script", "_law_at"], defArgs (top 133), defBody (top 133), defScope (top 133), f178⟩
def d179 : FnS := ⟨"_law_bad_book", ["_law_script", "_law_at", "_law_facts_here", "_law_good", "_law_bad", "_law_six", "_law_name", "_law_some_here"], ["_law_script", "_law_at"], defArgs (top 134), defBody (top 134), defScope (top 134), f179⟩
def d34 : FnS := ⟨"_law_bad_state", ["_law_script", "_law_at", "_law_facts_here", "_law_some_here"], ["_law_script", "_law_at", "_law_facts_here"], defArgs (top 135), defBody (top 135), defScope (top 135), f34⟩
def d41 : FnS := ⟨"_law_bad_want", ["_law_script", "_law_at", "_law_facts_here", "_law_bad", "_law_some_here"], ["_law_script", "_law_at", "_law_facts_here"], defArgs (top 136), defBody (top 136), defScope (top 136), f41⟩
def d51 : FnS := ⟨"_law_bad_row", ["_law_script", "_law_at", "_law_book_here", "_law_names", "_law_errand_here", "_law_some_here"], ["_law_script", "_law_at", "_law_book_here"], defArgs (top 137), defBody (top 137), defScope (top 137), f51⟩
def d198 : FnS := ⟨"_law_bad_book_to", ["_law_what", "_law_bad", "_law_some_here"], ["_law_what", "_law_bad"], defArgs (top 139), defBody (top 139), defScope (top 139), f198⟩
def d199 : FnS := ⟨"_law_bad_state_to", ["_law_what", "_law_book_here", "_law_bad", "_law_some_here"], ["_law_what", "_law_book_here", "_law_bad"], defArgs (top 140), defBody (top 140), defScope (top 140), f199⟩
def d200 : FnS := ⟨"_law_bad_want_to", ["_law_what", "_law_book_here", "_law_state", "_law_bad", "_law_some_here"], ["_law_what", "_law_book_here", "_law_state", "_law_bad"], defArgs (top 141), defBody (top 141), defScope (top 141), f200⟩
def d201 : FnS := ⟨"_law_bad_row_to", ["_law_what", "_law_book_here", "_law_state", "_law_want_here", "_law_bad"], ["_law_what", "_law_book_here", "_law_state", "_law_want_here", "_law_bad"], defArgs (top 142), defBody (top 142), defScope (top 142), f201⟩
def d202 : FnS := ⟨"_law_refusal", ["_law_kind", "_law_what", "_law_case_here", "_law_bad", "_law_book_here", "_law_state", "_law_want_here", "_law_e"], ["_law_kind", "_law_what", "_law_case_here", "_law_bad"], defArgs (top 143), defBody (top 143), defScope (top 143), f202⟩
def d203 : FnS := ⟨"law", ["_law_script", "_law_case_here", "_law_facts_here", "_law_kind", "_law_bad", "_law_turn", "_law_what"], ["_law_script"], defArgs (top 144), defBody (top 144), defScope (top 144), f203⟩
def Ds : List (Nat × FnS) := [(0, d0), (1, d1), (2, d2), (3, d3), (4, d4), (5, d5), (6, d6), (7, d7), (20, d20), (38, d38), (39, d39), (21, d21), (40, d40), (22, d22), (23, d23), (24, d24), (25, d25), (26, d26), (64, d64), (65, d65), (66, d66), (67, d67), (71, d71), (72, d72), (73, d73), (76, d76), (68, d68), (112, d112), (113, d113), (114, d114), (116, d116), (117, d117), (120, d120), (141, d141), (142, d142), (143, d143), (144, d144), (145, d145), (107, d107), (108, d108), (110, d110), (43, d43), (44, d44), (45, d45), (46, d46), (54, d54), (55, d55), (59, d59), (60, d60), (61, d61), (47, d47), (48, d48), (135, d135), (138, d138), (139, d139), (94, d94), (95, d95), (96, d96), (97, d97), (98, d98), (99, d99), (100, d100), (101, d101), (79, d79), (80, d80), (81, d81), (82, d82), (83, d83), (87, d87), (88, d88), (89, d89), (90, d90), (122, d122), (123, d123), (124, d124), (130, d130), (131, d131), (183, d183), (184, d184), (185, d185), (186, d186), (150, d150), (151, d151), (152, d152), (153, d153), (196, d196), (161, d161), (197, d197), (8, d8), (9, d9), (10, d10), (11, d11), (27, d27), (12, d12), (28, d28), (29, d29), (30, d30), (31, d31), (178, d178), (179, d179), (34, d34), (41, d41), (51, d51), (198, d198), (199, d199), (200, d200), (201, d201), (202, d202), (203, d203)]
def bis : List Str := ["ValueError", "all", "any", "bool", "dict", "enumerate", "int", "isinstance", "len", "list", "max", "min", "range", "set", "sorted", "str", "sum", "tuple", "zip"]
def glv : List (Nat × Str × D) := [(0, "LETTERS", .str "abcdefghijklmnopqrstuvwxyz"), (1, "LONGEST", .int 6), (2, "FACTS", .int 6), (3, "ERRANDS", .int 6), (4, "PRICE", .int 9), (5, "LONG", .int 64), (6, "WORTH", .int 99), (7, "STEPS", .int 64), (9, "PARTS", .tup [.str "needs", .str "bars", .str "makes", .str "ends"])]
def cls : List (Nat × Str) := [(11, "PlanError"), (0, "NoBook"), (1, "NoState"), (2, "NoWant"), (3, "NoErrand"), (4, "NoRow"), (5, "NoWay"), (6, "NoPaper"), (7, "NoFacts"), (8, "NoNumber"), (9, "Nothing"), (10, "NoText")]
theorem chk : Ds.all (fun p => chkF (cfgOf Ds glv bis cls whs inis) p.2) = true := by decide +kernel
theorem k0 : BindOk d0 := fun _ _ _ _ _ _ us hl => match us, hl with | [_], _ => rfl
theorem k1 : BindOk d1 := fun _ _ _ _ _ _ us hl => match us, hl with | [_, _, _], _ => rfl
theorem k2 : BindOk d2 := fun _ _ _ _ _ _ us hl => match us, hl with | [_, _], _ => rfl
theorem k3 : BindOk d3 := fun _ _ _ _ _ _ us hl => match us, hl with | [_, _], _ => rfl
theorem k4 : BindOk d4 := fun _ _ _ _ _ _ us hl => match us, hl with | [_, _], _ => rfl
theorem k5 : BindOk d5 := fun _ _ _ _ _ _ us hl => match us, hl with | [_], _ => rfl
theorem k6 : BindOk d6 := fun _ _ _ _ _ _ us hl => match us, hl with | [_], _ => rfl
theorem k7 : BindOk d7 := fun _ _ _ _ _ _ us hl => match us, hl with | [_], _ => rfl
theorem k20 : BindOk d20 := fun _ _ _ _ _ _ us hl => match us, hl with | [_, _], _ => rfl
theorem k38 : BindOk d38 := fun _ _ _ _ _ _ us hl => match us, hl with | [_, _], _ => rfl
theorem k39 : BindOk d39 := fun _ _ _ _ _ _ us hl => match us, hl with | [_, _, _], _ => rfl
theorem k21 : BindOk d21 := fun _ _ _ _ _ _ us hl => match us, hl with | [_, _], _ => rfl
theorem k40 : BindOk d40 := fun _ _ _ _ _ _ us hl => match us, hl with | [_, _, _], _ => rfl
theorem k22 : BindOk d22 := fun _ _ _ _ _ _ us hl => match us, hl with | [_, _], _ => rfl
theorem k23 : BindOk d23 := fun _ _ _ _ _ _ us hl => match us, hl with | [_, _], _ => rfl
theorem k24 : BindOk d24 := fun _ _ _ _ _ _ us hl => match us, hl with | [_, _], _ => rfl
theorem k25 : BindOk d25 := fun _ _ _ _ _ _ us hl => match us, hl with | [_, _], _ => rfl
theorem k26 : BindOk d26 := fun _ _ _ _ _ _ us hl => match us, hl with | [_, _, _], _ => rfl
theorem k64 : BindOk d64 := fun _ _ _ _ _ _ us hl => match us, hl with | [_, _], _ => rfl
theorem k65 : BindOk d65 := fun _ _ _ _ _ _ us hl => match us, hl with | [_, _], _ => rfl
theorem k66 : BindOk d66 := fun _ _ _ _ _ _ us hl => match us, hl with | [_, _], _ => rfl
theorem k67 : BindOk d67 := fun _ _ _ _ _ _ us hl => match us, hl with | [_, _], _ => rfl
theorem k71 : BindOk d71 := fun _ _ _ _ _ _ us hl => match us, hl with | [_, _, _], _ => rfl
theorem k72 : BindOk d72 := fun _ _ _ _ _ _ us hl => match us, hl with | [_, _, _], _ => rfl
theorem k73 : BindOk d73 := fun _ _ _ _ _ _ us hl => match us, hl with | [_, _, _], _ => rfl
theorem k76 : BindOk d76 := fun _ _ _ _ _ _ us hl => match us, hl with | [_, _, _], _ => rfl
theorem k68 : BindOk d68 := fun _ _ _ _ _ _ us hl => match us, hl with | [_, _, _], _ => rfl
theorem k112 : BindOk d112 := fun _ _ _ _ _ _ us hl => match us, hl with | [_, _, _, _], _ => rfl
theorem k113 : BindOk d113 := fun _ _ _ _ _ _ us hl => match us, hl with | [_, _, _], _ => rfl
theorem k114 : BindOk d114 := fun _ _ _ _ _ _ us hl => match us, hl with | [_, _, _], _ => rfl
theorem k116 : BindOk d116 := fun _ _ _ _ _ _ us hl => match us, hl with | [_, _, _, _], _ => rfl
theorem k117 : BindOk d117 := fun _ _ _ _ _ _ us hl => match us, hl with | [_, _, _], _ => rfl
theorem k120 : BindOk d120 := fun _ _ _ _ _ _ us hl => match us, hl with | [_, _], _ => rfl
theorem k141 : BindOk d141 := fun _ _ _ _ _ _ us hl => match us, hl with | [_, _], _ => rfl
theorem k142 : BindOk d142 := fun _ _ _ _ _ _ us hl => match us, hl with | [_, _], _ => rfl
theorem k143 : BindOk d143 := fun _ _ _ _ _ _ us hl => match us, hl with | [_, _, _, _], _ => rfl
theorem k144 : BindOk d144 := fun _ _ _ _ _ _ us hl => match us, hl with | [_, _, _, _], _ => rfl
theorem k145 : BindOk d145 := fun _ _ _ _ _ _ us hl => match us, hl with | [_, _, _, _], _ => rfl
theorem k107 : BindOk d107 := fun _ _ _ _ _ _ us hl => match us, hl with | [_, _], _ => rfl
theorem k108 : BindOk d108 := fun _ _ _ _ _ _ us hl => match us, hl with | [_, _], _ => rfl
theorem k110 : BindOk d110 := fun _ _ _ _ _ _ us hl => match us, hl with | [_, _, _], _ => rfl
theorem k43 : BindOk d43 := fun _ _ _ _ _ _ us hl => match us, hl with | [_, _], _ => rfl
theorem k44 : BindOk d44 := fun _ _ _ _ _ _ us hl => match us, hl with | [_, _], _ => rfl
theorem k45 : BindOk d45 := fun _ _ _ _ _ _ us hl => match us, hl with | [_, _, _], _ => rfl
theorem k46 : BindOk d46 := fun _ _ _ _ _ _ us hl => match us, hl with | [_, _, _], _ => rfl
theorem k54 : BindOk d54 := fun _ _ _ _ _ _ us hl => match us, hl with | [_, _, _, _], _ => rfl
theorem k55 : BindOk d55 := fun _ _ _ _ _ _ us hl => match us, hl with | [_, _, _, _], _ => rfl
theorem k59 : BindOk d59 := fun _ _ _ _ _ _ us hl => match us, hl with | [_, _], _ => rfl
theorem k60 : BindOk d60 := fun _ _ _ _ _ _ us hl => match us, hl with | [_, _, _], _ => rfl
theorem k61 : BindOk d61 := fun _ _ _ _ _ _ us hl => match us, hl with | [_, _, _], _ => rfl
theorem k47 : BindOk d47 := fun _ _ _ _ _ _ us hl => match us, hl with | [_, _], _ => rfl
theorem k48 : BindOk d48 := fun _ _ _ _ _ _ us hl => match us, hl with | [_, _], _ => rfl
theorem k135 : BindOk d135 := fun _ _ _ _ _ _ us hl => match us, hl with | [_, _, _, _], _ => rfl
theorem k138 : BindOk d138 := fun _ _ _ _ _ _ us hl => match us, hl with | [_, _, _, _, _], _ => rfl
theorem k139 : BindOk d139 := fun _ _ _ _ _ _ us hl => match us, hl with | [_, _, _, _], _ => rfl
theorem k94 : BindOk d94 := fun _ _ _ _ _ _ us hl => match us, hl with | [_, _], _ => rfl
theorem k95 : BindOk d95 := fun _ _ _ _ _ _ us hl => match us, hl with | [_, _], _ => rfl
theorem k96 : BindOk d96 := fun _ _ _ _ _ _ us hl => match us, hl with | [_, _, _], _ => rfl
theorem k97 : BindOk d97 := fun _ _ _ _ _ _ us hl => match us, hl with | [_], _ => rfl
theorem k98 : BindOk d98 := fun _ _ _ _ _ _ us hl => match us, hl with | [_, _], _ => rfl
theorem k99 : BindOk d99 := fun _ _ _ _ _ _ us hl => match us, hl with | [_, _], _ => rfl
theorem k100 : BindOk d100 := fun _ _ _ _ _ _ us hl => match us, hl with | [_, _], _ => rfl
theorem k101 : BindOk d101 := fun _ _ _ _ _ _ us hl => match us, hl with | [_, _, _], _ => rfl
theorem k79 : BindOk d79 := fun _ _ _ _ _ _ us hl => match us, hl with | [_, _], _ => rfl
theorem k80 : BindOk d80 := fun _ _ _ _ _ _ us hl => match us, hl with | [_, _], _ => rfl
theorem k81 : BindOk d81 := fun _ _ _ _ _ _ us hl => match us, hl with | [_, _, _], _ => rfl
theorem k82 : BindOk d82 := fun _ _ _ _ _ _ us hl => match us, hl with | [_, _, _], _ => rfl
theorem k83 : BindOk d83 := fun _ _ _ _ _ _ us hl => match us, hl with | [_, _, _], _ => rfl
theorem k87 : BindOk d87 := fun _ _ _ _ _ _ us hl => match us, hl with | [_, _, _], _ => rfl
theorem k88 : BindOk d88 := fun _ _ _ _ _ _ us hl => match us, hl with | [_, _, _], _ => rfl
theorem k89 : BindOk d89 := fun _ _ _ _ _ _ us hl => match us, hl with | [_, _], _ => rfl
theorem k90 : BindOk d90 := fun _ _ _ _ _ _ us hl => match us, hl with | [_, _, _, _], _ => rfl
theorem k122 : BindOk d122 := fun _ _ _ _ _ _ us hl => match us, hl with | [_, _], _ => rfl
theorem k123 : BindOk d123 := fun _ _ _ _ _ _ us hl => match us, hl with | [_, _], _ => rfl
theorem k124 : BindOk d124 := fun _ _ _ _ _ _ us hl => match us, hl with | [_, _, _], _ => rfl
theorem k130 : BindOk d130 := fun _ _ _ _ _ _ us hl => match us, hl with | [_, _], _ => rfl
theorem k131 : BindOk d131 := fun _ _ _ _ _ _ us hl => match us, hl with | [_, _], _ => rfl
theorem k183 : BindOk d183 := fun _ _ _ _ _ _ us hl => match us, hl with | [_, _], _ => rfl
theorem k184 : BindOk d184 := fun _ _ _ _ _ _ us hl => match us, hl with | [_], _ => rfl
theorem k185 : BindOk d185 := fun _ _ _ _ _ _ us hl => match us, hl with | [_], _ => rfl
theorem k186 : BindOk d186 := fun _ _ _ _ _ _ us hl => match us, hl with | [_], _ => rfl
theorem k150 : BindOk d150 := fun _ _ _ _ _ _ us hl => match us, hl with | [_, _], _ => rfl
theorem k151 : BindOk d151 := fun _ _ _ _ _ _ us hl => match us, hl with | [_, _], _ => rfl
theorem k152 : BindOk d152 := fun _ _ _ _ _ _ us hl => match us, hl with | [_, _], _ => rfl
theorem k153 : BindOk d153 := fun _ _ _ _ _ _ us hl => match us, hl with | [_, _], _ => rfl
theorem k196 : BindOk d196 := fun _ _ _ _ _ _ us hl => match us, hl with | [_], _ => rfl
theorem k161 : BindOk d161 := fun _ _ _ _ _ _ us hl => match us, hl with | [_], _ => rfl
theorem k197 : BindOk d197 := fun _ _ _ _ _ _ us hl => match us, hl with | [_], _ => rfl
theorem k8 : BindOk d8 := fun _ _ _ _ _ _ us hl => match us, hl with | [_, _], _ => rfl
theorem k9 : BindOk d9 := fun _ _ _ _ _ _ us hl => match us, hl with | [_, _, _], _ => rfl
theorem k10 : BindOk d10 := fun _ _ _ _ _ _ us hl => match us, hl with | [_, _], _ => rfl
theorem k11 : BindOk d11 := fun _ _ _ _ _ _ us hl => match us, hl with | [_, _, _], _ => rfl
theorem k27 : BindOk d27 := fun _ _ _ _ _ _ us hl => match us, hl with | [_, _, _, _], _ => rfl
theorem k12 : BindOk d12 := fun _ _ _ _ _ _ us hl => match us, hl with | [_, _, _, _], _ => rfl
theorem k28 : BindOk d28 := fun _ _ _ _ _ _ us hl => match us, hl with | [_, _, _, _], _ => rfl
theorem k29 : BindOk d29 := fun _ _ _ _ _ _ us hl => match us, hl with | [_, _, _, _], _ => rfl
theorem k30 : BindOk d30 := fun _ _ _ _ _ _ us hl => match us, hl with | [_, _, _], _ => rfl
theorem k31 : BindOk d31 := fun _ _ _ _ _ _ us hl => match us, hl with | [_, _, _], _ => rfl
theorem k178 : BindOk d178 := fun _ _ _ _ _ _ us hl => match us, hl with | [_, _], _ => rfl
theorem k179 : BindOk d179 := fun _ _ _ _ _ _ us hl => match us, hl with | [_, _], _ => rfl
theorem k34 : BindOk d34 := fun _ _ _ _ _ _ us hl => match us, hl with | [_, _, _], _ => rfl
theorem k41 : BindOk d41 := fun _ _ _ _ _ _ us hl => match us, hl with | [_, _, _], _ => rfl
theorem k51 : BindOk d51 := fun _ _ _ _ _ _ us hl => match us, hl with | [_, _, _], _ => rfl
theorem k198 : BindOk d198 := fun _ _ _ _ _ _ us hl => match us, hl with | [_, _], _ => rfl
theorem k199 : BindOk d199 := fun _ _ _ _ _ _ us hl => match us, hl with | [_, _, _], _ => rfl
theorem k200 : BindOk d200 := fun _ _ _ _ _ _ us hl => match us, hl with | [_, _, _, _], _ => rfl
theorem k201 : BindOk d201 := fun _ _ _ _ _ _ us hl => match us, hl with | [_, _, _, _, _], _ => rfl
theorem k202 : BindOk d202 := fun _ _ _ _ _ _ us hl => match us, hl with | [_, _, _, _], _ => rfl
theorem k203 : BindOk d203 := fun _ _ _ _ _ _ us hl => match us, hl with | [_], _ => rfl
theorem chw : whs.all (chkW (cfgOf Ds glv bis cls whs inis)) = true := by decide +kernel
theorem bindw : AllP BindOk whs := ⟨fun _ _ _ _ _ _ us hl => match us, hl with | [_], _ => rfl, trivial⟩
theorem chi : inis.all chkI = true := by decide +kernel
theorem bindi : AllP (BindI ((cls.lookup 4).getD "")) inis := ⟨fun _ _ _ _ _ _ us hl => match us, hl with | [_, _], _ => rfl, trivial⟩
theorem binds : AllP BindOk (Ds.map (·.2)) := ⟨k0, k1, k2, k3, k4, k5, k6, k7, k20, k38, k39, k21, k40, k22, k23, k24, k25, k26, k64, k65, k66, k67, k71, k72, k73, k76, k68, k112, k113, k114, k116, k117, k120, k141, k142, k143, k144, k145, k107, k108, k110, k43, k44, k45, k46, k54, k55, k59, k60, k61, k47, k48, k135, k138, k139, k94, k95, k96, k97, k98, k99, k100, k101, k79, k80, k81, k82, k83, k87, k88, k89, k90, k122, k123, k124, k130, k131, k183, k184, k185, k186, k150, k151, k152, k153, k196, k161, k197, k8, k9, k10, k11, k27, k12, k28, k29, k30, k31, k178, k179, k34, k41, k51, k198, k199, k200, k201, k202, k203, trivial⟩
theorem hT : AllP (fun p => libT p.1 = some p.2.F) Ds := ⟨rfl, rfl, rfl, rfl, rfl, rfl, rfl, rfl, rfl, rfl, rfl, rfl, rfl, rfl, rfl, rfl, rfl, rfl, rfl, rfl, rfl, rfl, rfl, rfl, rfl, rfl, rfl, rfl, rfl, rfl, rfl, rfl, rfl, rfl, rfl, rfl, rfl, rfl, rfl, rfl, rfl, rfl, rfl, rfl, rfl, rfl, rfl, rfl, rfl, rfl, rfl, rfl, rfl, rfl, rfl, rfl, rfl, rfl, rfl, rfl, rfl, rfl, rfl, rfl, rfl, rfl, rfl, rfl, rfl, rfl, rfl, rfl, rfl, rfl, rfl, rfl, rfl, rfl, rfl, rfl, rfl, rfl, rfl, rfl, rfl, rfl, rfl, rfl, rfl, rfl, rfl, rfl, rfl, rfl, rfl, rfl, rfl, rfl, rfl, rfl, rfl, rfl, rfl, rfl, rfl, rfl, rfl, rfl, rfl, trivial⟩
theorem hG : AllP (fun p => libG p.1 = p.2.2) glv := ⟨rfl, rfl, rfl, rfl, rfl, rfl, rfl, rfl, rfl, trivial⟩
def fn : List He.DefD := (Ds.map (·.2) ++ whs).map toD ++ inis.map (toI ((cls.lookup 4).getD ""))
def fa : List He.Fa := faAll (Ds.map (·.2.x) ++ whs.map (·.x)) bis (glv.map (·.2)) cls
def loose0 : List Str := ["PlanError", "NoBook", "NoState", "NoWant", "NoErrand", "NoRow", "NoWay", "NoPaper", "NoFacts", "NoNumber", "Nothing", "NoText", "LETTERS", "LONGEST", "FACTS", "ERRANDS", "PRICE", "is_word", "is_whole", "are_facts"]
def loose1 : List Str := ["are_apart", "is_errand", "is_book", "need_book", "checked", "need_state", "is_want", "need_all", "fulfils", "is_met", "possible", "behind", "find", "can", "done", "steps", "met_from", "back_from", "reached", "shortest_row"]
def loose2 : List Str := ["shortest", "far", "shortest_rows", "within", "leads_without", "need_way", "must_do", "leads_past", "must_hold", "idle", "WORTH", "STEPS", "are_gains", "gain_of", "need_gains", "best_gain", "best_row", "layers_of", "layers", "hint"]
def loose3 : List Str := ["LONG", "is_row", "need_row", "states_of", "leads", "does", "serves", "ahead_of", "asked_by", "asked", "price_of", "price", "trimmed", "mended_at", "mended", "holds_pair", "has_pair", "brings", "all_pairs", "apart_from"]
def loose4 : List Str := ["apart", "is_pair", "keeps_apart", "prices_from", "goal_of", "least_price", "cheapest_row", "cheapest", "rests", "price_paper", "is_page", "shown_by", "disturbs", "beside_each", "beside", "rounds_of", "rounds", "PARTS", "joined_words", "errand_text"]
def loose5 : List Str := ["text_of", "shown", "only_in", "seen", "with_errand", "without_errand", "turned", "is_exact", "back_book", "_law_cell_at", "_law_mixed", "_law_word", "_law_facts", "_law_some", "_law_thin", "_law_errand", "_law_book", "_law_want", "_law_case", "_law_bad_errand"]
def loose6 : List Str := ["_law_bad_book", "_law_bad_state", "_law_bad_want", "_law_bad_row", "_law_which", "_law_bad_book_to", "_law_bad_state_to", "_law_bad_want_to", "_law_bad_row_to", "_law_refusal"]
def loose : List Str := loose0 ++ loose1 ++ loose2 ++ loose3 ++ loose4 ++ loose5 ++ loose6
abbrev R : PySem.W.OpenRow := PySem.W.OpenLaw.row PySem.Challenge.rw_errands_k39_refused
abbrev hk : PySem.W.Hook := hookE 4 fa fn (exW cls whs inis glv)
def ob (s : PySem.W.SharedT) : AlE := obsEG 4 fa fn (exW cls whs inis glv) (HandSHeadRun.getT s)
theorem ob_eq (s : PySem.W.SharedT) : ob s = hk.obs s.abs := obsEG_eq (HandSHeadRun.getT_eq s)
theorem comb3 {S α β γ : Type} {o : Option S} {f : S → α} {g : S → β} {h : S → γ} {a : α} {b : β} {c : γ} (e1 : o.map f = some a) (e2 : o.map g = some b) (e3 : o.map h = some c) : o.map (fun s => (f s, g s, h s)) = some (a, b, c) := by
  cases o with
  | none => cases e1
  | some s => exact congrArg some (Prod.ext (Option.some.inj e1) (Prod.ext (Option.some.inj e2) (Option.some.inj e3)))
theorem obsD_app {fa fb : List He.Fa} {fm fn : List He.DefD} {K : PySem.W.Frag} (h1 : He.obsD fa fm K = He.valD fm) (h2 : He.obsD fb fn K = He.valD fn) : He.obsD (fa ++ fb) (fm ++ fn) K = He.valD (fm ++ fn) := by
  have a1 := congrArg Prod.fst h1
  have a2 := congrArg Prod.snd h1
  have b1 := congrArg Prod.fst h2
  have b2 := congrArg Prod.snd h2
  simp only [He.obsD, He.valD, Bool.and_eq_true] at a1 a2 b1 b2
  simp only [He.obsD, He.valD, List.all_append, List.map_append, a1.1, a1.2, b1.1, b1.2, a2, b2, Bool.and_self]
theorem joinD {S : Type} {o : Option S} {K : S → PySem.W.Frag} {fa : List He.Fa} {fn : List He.DefD} {ex : PySem.W.Frag → Bool} {k : Nat} (h0 : o.map (fun s => ex (K s)) = some true) (ha : o.map (fun s => He.obsD fa [] (K s)) = some (He.valD []))
    (hb : o.map (fun s => He.obsD [] (fn.take k) (K s)) = some (He.valD (fn.take k))) (hc : o.map (fun s => He.obsD [] ((fn.drop k).take k) (K s)) = some (He.valD ((fn.drop k).take k)))
    (hd : o.map (fun s => He.obsD [] ((fn.drop k).drop k) (K s)) = some (He.valD ((fn.drop k).drop k))) : o.map (fun s => (He.obsD fa fn (K s), ex (K s))) = some (He.valD fn, true) := by
  cases o with
  | none => cases h0
  | some s =>
    have e0 := Option.some.inj h0
    have q := obsD_app (Option.some.inj hc) (Option.some.inj hd)
    have q := obsD_app (Option.some.inj hb) q
    have q := obsD_app (Option.some.inj ha) q
    simp only [List.nil_append, List.append_nil, List.take_append_drop] at q
    exact congrArg some (Prod.ext q e0)
section
open PySem.W PySem.Calls PyProof.Rows
theorem runB (w : World) (os : OsState) : (HandSHeadRun.endF (HandSHeadRun.stepQ (HandSHeadRun.denQ HandSHeadRun.tabQ) R.prog w) 30000 R.prog w os).map (fun s => HandSHeadRun.looksF R.prog (boot_heap w.params) s.abs) = some true := by
  kernel_rfl
theorem runC (w : World) (os : OsState) : (HandSHeadRun.endF (HandSHeadRun.stepQ (HandSHeadRun.denQ HandSHeadRun.tabQ) R.prog w) 30000 R.prog w os).map (fun s => HandSHeadRun.seenQ (view R.prog [144]) loose (importedModules R.prog.main.body) (fun s => xlAt (view R.prog [144]) [] s && recOk R.toRowW.records s) s.abs) = some (openGood (view R.prog [144]) loose) := by
  kernel_rfl
theorem runE (w : World) (os : OsState) : (HandSHeadRun.endF (HandSHeadRun.stepQ (HandSHeadRun.denQ HandSHeadRun.tabQ) R.prog w) 30000 R.prog w os).map (fun s => exW cls whs inis glv (He.frG (HandSHeadRun.getT s) (asL (HandSHeadRun.getT s) 4))) = some true := by
  kernel_rfl
theorem runA (w : World) (os : OsState) : (HandSHeadRun.endF (HandSHeadRun.stepQ (HandSHeadRun.denQ HandSHeadRun.tabQ) R.prog w) 30000 R.prog w os).map (fun s => He.obsD fa [] (He.frG (HandSHeadRun.getT s) (asL (HandSHeadRun.getT s) 4))) = some (He.valD []) := by
  kernel_rfl
theorem runbD (w : World) (os : OsState) : (HandSHeadRun.endF (HandSHeadRun.stepQ (HandSHeadRun.denQ HandSHeadRun.tabQ) R.prog w) 30000 R.prog w os).map (fun s => He.obsD [] (fn.take 37) (He.frG (HandSHeadRun.getT s) (asL (HandSHeadRun.getT s) 4))) = some (He.valD (fn.take 37)) := by
  kernel_rfl
theorem runcD (w : World) (os : OsState) : (HandSHeadRun.endF (HandSHeadRun.stepQ (HandSHeadRun.denQ HandSHeadRun.tabQ) R.prog w) 30000 R.prog w os).map (fun s => He.obsD [] ((fn.drop 37).take 37) (He.frG (HandSHeadRun.getT s) (asL (HandSHeadRun.getT s) 4))) = some (He.valD ((fn.drop 37).take 37)) := by
  kernel_rfl
theorem rundD (w : World) (os : OsState) : (HandSHeadRun.endF (HandSHeadRun.stepQ (HandSHeadRun.denQ HandSHeadRun.tabQ) R.prog w) 30000 R.prog w os).map (fun s => He.obsD [] ((fn.drop 37).drop 37) (He.frG (HandSHeadRun.getT s) (asL (HandSHeadRun.getT s) 4))) = some (He.valD ((fn.drop 37).drop 37)) := by
  kernel_rfl
theorem runD (w : World) (os : OsState) : (HandSHeadRun.endF (HandSHeadRun.stepQ (HandSHeadRun.denQ HandSHeadRun.tabQ) R.prog w) 30000 R.prog w os).map ob = some (hk.val w) := joinD (K := fun s => (He.frG (HandSHeadRun.getT s) (asL (HandSHeadRun.getT s) 4))) (k := 37) (runE w os) (runA w os) (runbD w os) (runcD w os) (rundD w os)
end
theorem run (w : World) : HandSHeadRun.RunEq R (PySem.W.view R.prog [144]) hk ob 30000 loose w := by
  intro os
  exact comb3 (runB w os) (runC w os) (runD w os)
end Hd
end
section
set_option maxRecDepth 100000
set_option maxHeartbeats 1000000
namespace Pu
open PySem PySem.Spec L2
theorem C_succ {n f : Nat} {ds : List D} {F : Fn} (h : libT f = some F) : C (n + 1) f ds = runFn ⟨C n, libG⟩ F ds := by
  show (match libT f with | some F => _ | none => _) = _
  rw [h]
def Fl.out : Fl → R D
  | .ret d => .ok d
  | .nx _ => .ok .non
  | .exc c p => .exc c p
  | _ => .bad
@[simp] theorem Fl.out_ret (d : D) : Fl.out (.ret d) = .ok d := rfl
@[simp] theorem Fl.out_nx (e : Env) : Fl.out (.nx e) = .ok .non := rfl
@[simp] theorem Fl.out_exc (c : Nat) (p : D) : Fl.out (.exc c p) = .exc c p := rfl
theorem runFn_eq {P : Pr} {np nn : Nat} {b : SL} {ds : List D} (h : ds.length = np) : runFn P ⟨np, nn, b⟩ ds = Fl.out (evSL P (ds.map Sl.sh ++ List.replicate (nn - ds.length) Sl.em) b) := by
  unfold runFn
  rw [if_pos h]
  show (match evSL P _ b with | .ret d => _ | .nx _ => _ | .exc c p => _ | _ => _) = _
  unfold startE
  cases evSL P (ds.map Sl.sh ++ List.replicate (nn - ds.length) Sl.em) b <;> rfl
def Fl.seq (f : Fl) (k : Env → Fl) : Fl := match f with
  | .nx e => k e
  | f => f
@[simp] theorem seq_nx (e : Env) (k) : Fl.seq (.nx e) k = k e := rfl
@[simp] theorem seq_ret (d : D) (k) : Fl.seq (.ret d) k = .ret d := rfl
@[simp] theorem seq_exc (c p) (k) : Fl.seq (.exc c p) k = .exc c p := rfl
@[simp] theorem seq_brk (e) (k) : Fl.seq (.brk e) k = .brk e := rfl
@[simp] theorem seq_bad (k) : Fl.seq .bad k = .bad := rfl
section
variable {P : Pr} {env : Env}
@[simp] theorem q_var (i) : evE P env (.var i) = getE env i := by rw [evE]
@[simp] theorem q_non : evE P env .non = .ok .non := by rw [evE]
@[simp] theorem q_bl (b) : evE P env (.bl b) = .ok (.bl b) := by rw [evE]
@[simp] theorem q_int (b) : evE P env (.int b) = .ok (.int b) := by rw [evE]
@[simp] theorem q_str (b) : evE P env (.str b) = .ok (.str b) := by rw [evE]
@[simp] theorem q_gl (j) : evE P env (.gl j) = .ok (P.gl j) := by rw [evE]
@[simp] theorem q_fn (j) : evE P env (.fn j) = .ok (.fn j) := by rw [evE]
@[simp] theorem q_tup (es) : evE P env (.tup es) = (evL P env es).bind fun ds => .ok (.tup ds) := by rw [evE]
@[simp] theorem q_lst (es) : evE P env (.lst es) = (evL P env es).bind fun ds => .ok (.lst ds) := by rw [evE]
@[simp] theorem q_dct0 (t) : evE P env (.dct0 t) = .ok (.dct t []) := by rw [evE]
@[simp] theorem q_and (es) : evE P env (.and es) = evAnd P env es := by rw [evE]
@[simp] theorem q_or (es) : evE P env (.or es) = evOr P env es := by rw [evE]
@[simp] theorem q_not (a) : evE P env (.not a) = (evE P env a).bind fun d => (asB d).bind fun b => .ok (.bl (!b)) := by rw [evE]
@[simp] theorem q_cmp (o a b) : evE P env (.cmp o a b) = (evE P env a).bind fun x => (evE P env b).bind fun y => (cmpD o x y).bind fun r => .ok (.bl r) := by rw [evE]
@[simp] theorem q_chain (o o2 a b c) : evE P env (.chain o o2 a b c) = (evE P env a).bind fun x => (evE P env b).bind fun y => (cmpD o x y).bind fun r =>
      if r then (evE P env c).bind fun z => (cmpD o2 y z).bind fun r => .ok (.bl r) else .ok (.bl false) := by rw [evE]
@[simp] theorem q_bin (o a b) : evE P env (.bin o a b) = (evE P env a).bind fun x => (evE P env b).bind fun y => binD o x y := by rw [evE]
@[simp] theorem q_ix (a b) : evE P env (.ix a b) = (evE P env a).bind fun x => (evE P env b).bind fun y => ixD x y := by rw [evE]
@[simp] theorem q_sl (a lo hi) : evE P env (.sl a lo hi) = (evE P env a).bind fun x => ((evO P env lo).bind optI).bind fun l => ((evO P env hi).bind optI).bind fun h => slD x l h := by rw [evE]
@[simp] theorem q_call (f es) : evE P env (.call f es) = (evL P env es).bind fun ds => P.call f ds := by rw [evE]
@[simp] theorem q_b1 (o a) : evE P env (.b1 o a) = (evE P env a).bind fun x => b1D o x := by rw [evE]
@[simp] theorem q_b2 (o a b) : evE P env (.b2 o a b) = (evE P env a).bind fun x => (evE P env b).bind fun y => b2D o x y := by rw [evE]
@[simp] theorem q_isi (t a) : evE P env (.isi t a) = (evE P env a).bind fun x => (isiD t x).bind fun b => .ok (.bl b) := by rw [evE]
def turn (P : Pr) (env : Env) (elt : E) (tg : Tg) (c : OE) (d : D) : R (Option D) := (bindT env tg d).bind fun env' => (evC P env' c).bind fun b => if b then (evE P env' elt).bind fun x => .ok (some x) else .ok none
@[simp] theorem q_comp (elt tg it c) : evE P env (.comp elt tg it c) = (evI P env it).bind fun ds => (compL (turn P env elt tg c) ds).bind fun xs => .ok (.lst xs) := by rw [evE] <;> rfl
@[simp] theorem q_bor (e) : evE P env (.bor e) = (evE P (unown env) e).bind fun d => if d.imm || (frE e && immL d) then .ok d else .bad := by rw [evE]
@[simp] theorem l_nil : evL P env .nil = .ok [] := by rw [evL]
@[simp] theorem l_cons (e es) : evL P env (.cons e es) = (evE P env e).bind fun d => (evL P env es).bind fun ds => .ok (d :: ds) := by rw [evL]
@[simp] theorem and_1 (e) : evAnd P env (.cons e .nil) = evE P env e := by rw [evAnd]
@[simp] theorem and_2 (e e2 es) : evAnd P env (.cons e (.cons e2 es)) = (evE P env e).bind fun d => (asB d).bind fun b => if b then evAnd P env (.cons e2 es) else .ok (.bl false) := by
  rw [evAnd]; intro h; cases h
@[simp] theorem or_1 (e) : evOr P env (.cons e .nil) = evE P env e := by rw [evOr]
@[simp] theorem or_2 (e e2 es) : evOr P env (.cons e (.cons e2 es)) = (evE P env e).bind fun d => (asB d).bind fun b => if b then .ok (.bl true) else evOr P env (.cons e2 es) := by
  rw [evOr]; intro h; cases h
@[simp] theorem o_none : evO P env .none = .ok none := by rw [evO]
@[simp] theorem o_some (e) : evO P env (.some e) = (evE P env e).bind fun d => .ok (some d) := by rw [evO]
@[simp] theorem c_none : evC P env .none = .ok true := by rw [evC]
@[simp] theorem c_some (e) : evC P env (.some e) = (evE P env e).bind fun d => asB d := by rw [evC]
@[simp] theorem i_seq (e) : evI P env (.seq e) = (evE P env e).bind fun d => seqD d := by rw [evI]
@[simp] theorem i_keys (i) : evI P env (.keys i) = (getE env i).bind fun d => keysD d := by rw [evI]
@[simp] theorem i_rng1 (a) : evI P env (.rng1 a) = (evE P env a).bind fun x => match x with | .int i => if okR i 0 then .ok (rng 0 i) else .bad | _ => .bad := by rw [evI] <;> rfl
@[simp] theorem i_enm (a) : evI P env (.enm a) = (evE P env a).bind fun x => match x with | .tup xs => .ok (xs.mapIdx fun i d => .tup [.int i, d]) | .lst xs => .ok (xs.mapIdx fun i d => .tup [.int i, d]) | _ => .bad := by rw [evI] <;> rfl
@[simp] theorem s_set (i e) : evS P env (.set i e) = Fl.of (evE P env e) fun d => Fl.of (setE env i (.sh d)) .nx := by rw [evS]
@[simp] theorem s_own (i e) : evS P env (.own i e) = Fl.of (evE P env e) fun d => ownOf d (Fl.of (setE env i (.ow d)) .nx) := by rw [evS]
@[simp] theorem s_own2 (i n) : evS P env (.own2 i n) = Fl.of (setE env i (.o2 (List.replicate n []))) .nx := by rw [evS]
@[simp] theorem s_unp (is e) : evS P env (.unp is e) = Fl.of (evE P env e) fun d => Fl.of (bindT env (.many is) d) .nx := by rw [evS]
@[simp] theorem s_ex (e) : evS P env (.ex e) = Fl.of (evE P env e) fun _ => .nx env := by rw [evS]
@[simp] theorem s_iff (c a b) : evS P env (.iff c a b) = Fl.of (evE P env c) fun d => Fl.of (asB d) fun r => if r then evSL P env a else evSL P env b := by rw [evS]
@[simp] theorem s_whl (n c b) : evS P env (.whl n c b) = whileL (fun env => (evE P env c).bind asB) (fun env => evSL P env b) n env := by rw [evS]
@[simp] theorem s_frr (tg it b) : evS P env (.frr tg it b) = Fl.of (evI P env it) fun ds => forL (fun env d => bindT env tg d) (fun env => evSL P env b) ds env := by rw [evS]
@[simp] theorem s_ret (e) : evS P env (.ret e) = Fl.of (evE P env e) .ret := by rw [evS]
@[simp] theorem s_put (i k v) : evS P env (.put i k v) = match env[i]? with
    | some (.ow (.dct t kvs)) => Fl.of (evE P env v) fun v => Fl.of (evE P env k) fun k => Fl.of (R.ofO (keyOf t k)) fun k =>
        if kvs.length < sizeLine then .nx (env.set i (.ow (.dct t (dput kvs k v)))) else .bad
    | _ => .bad := by rw [evS] <;> rfl
@[simp] theorem s_app (i e) : evS P env (.app i e) = match env[i]? with
    | some (.ow (.lst ds)) => Fl.of (evE P env e) fun d => if ds.length < sizeLine then .nx (env.set i (.ow (.lst (ds ++ [d])))) else .bad
    | _ => .bad := by rw [evS] <;> rfl
@[simp] theorem s_app2 (i k e) : evS P env (.app2 i k e) = match env[i]? with
    | some (.o2 xs) => Fl.of (evE P env k) fun k => match k with
      | .int k => (match ixN xs.length k with
        | some j => Fl.of (evE P env e) fun d => (match d with
          | .str x => if (xs.getD j []).length < 1000 then .nx (env.set i (.o2 (xs.set j (xs.getD j [] ++ [.str x])))) else .bad
          | _ => .bad)
        | none => .bad)
      | _ => .bad
    | _ => .bad := by rw [evS] <;> rfl
@[simp] theorem s_retn : evS P env .retn = .ret .non := by rw [evS]
@[simp] theorem s_rais (k) : evS P env (.rais k) = .exc k .non := by rw [evS]
@[simp] theorem s_brk : evS P env .brk = .brk env := by rw [evS]
@[simp] theorem s_pass : evS P env .pass = .nx env := by rw [evS]
@[simp] theorem sl_nil : evSL P env .nil = .nx env := by rw [evSL]
@[simp] theorem sl_cons (s r) : evSL P env (.cons s r) = Fl.seq (evS P env s) fun env' => evSL P env' r := by rw [evSL]; cases evS P env s <;> rfl
@[simp] theorem sl_fz (i r) : evSL P env (.fz i r) = evSL P (freeze env i) r := by rw [evSL]
end
@[simp] theorem asB_bl (b : Bool) : asB (.bl b) = .ok b := rfl
@[simp] theorem get_0 (d : D) (env : Env) : getE (.sh d :: env) 0 = .ok d := rfl
@[simp] theorem get_s (s : Sl) (env : Env) (i : Nat) : getE (s :: env) (i + 1) = getE env i := by unfold getE; rw [List.getElem?_cons_succ]
@[simp] theorem add_i (i j : Int) : binD .add (.int i) (.int j) = .ok (.int (i + j)) := rfl
@[simp] theorem add_s (x y : Str) : binD .add (.str x) (.str y) = if x.length + y.length ≤ sizeLine then .ok (.str (x ++ y)) else .bad := rfl
@[simp] theorem add_l (x y : List D) : binD .add (.lst x) (.lst y) = if x.length + y.length ≤ sizeLine then .ok (.lst (x ++ y)) else .bad := rfl
@[simp] theorem add_t (x y : List D) : binD .add (.tup x) (.tup y) = if x.length + y.length ≤ sizeLine then .ok (.tup (x ++ y)) else .bad := rfl
@[simp] theorem sub_i (i j : Int) : binD .sub (.int i) (.int j) = .ok (.int (i - j)) := rfl
@[simp] theorem mul_i (i j : Int) : binD .mul (.int i) (.int j) = if smallI i || smallI j then .ok (.int (i * j)) else .bad := rfl
@[simp] theorem mod_i (i j : Int) : binD .mod (.int i) (.int j) = if 0 < j then .ok (.int (i % j)) else .bad := rfl
@[simp] theorem fdiv_i (i j : Int) : binD .fdiv (.int i) (.int j) = if 0 < j ∧ j < 1073741824 then .ok (.int (i / j)) else .bad := rfl
@[simp] theorem c_lt (i j : Int) : cmpD .lt (.int i) (.int j) = .ok (decide (i < j)) := rfl
@[simp] theorem c_le (i j : Int) : cmpD .le (.int i) (.int j) = .ok (decide (i ≤ j)) := rfl
@[simp] theorem c_gt (i j : Int) : cmpD .gt (.int i) (.int j) = .ok (decide (j < i)) := rfl
@[simp] theorem c_ge (i j : Int) : cmpD .ge (.int i) (.int j) = .ok (decide (j ≤ i)) := rfl
@[simp] theorem c_eq (a b : D) : cmpD .eq a b = eqD a b := rfl
@[simp] theorem c_ne (a b : D) : cmpD .ne a b = (eqD a b).bind fun r => .ok (!r) := rfl
@[simp] theorem c_in (a b : D) : cmpD .isin a b = inD a b := rfl
@[simp] theorem c_nin (a b : D) : cmpD .nin a b = (inD a b).bind fun r => .ok (!r) := rfl
def isN : D → Bool
  | .non => true
  | _ => false
@[simp] theorem isN_non : isN .non = true := rfl
@[simp] theorem isN_tup (x) : isN (.tup x) = false := rfl
@[simp] theorem isN_lst (x) : isN (.lst x) = false := rfl
@[simp] theorem isN_int (x) : isN (.int x) = false := rfl
@[simp] theorem isN_str (x) : isN (.str x) = false := rfl
@[simp] theorem isN_bl (x) : isN (.bl x) = false := rfl
@[simp] theorem c_is (a : D) : cmpD .isn a .non = .ok (isN a) := by cases a <;> rfl
@[simp] theorem c_nis (a : D) : cmpD .nisn a .non = .ok (!isN a) := by cases a <;> rfl
@[simp] theorem b_len (a : D) : b1D .len a = (lenD a).bind fun n => .ok (.int n) := rfl
theorem sortU_nd {xs : List Str} (h : xs.Nodup) : sortU xs = usort xs := by unfold sortU; rw [if_pos h]
@[simp] theorem b_sorts (xs : List D) : b1D .sorts (.lst xs) = (R.ofO (strsD xs)).bind fun ys => if ys.length ≤ 63 then .ok (.lst ((sortU ys).map .str)) else .bad := rfl
@[simp] theorem b_ssett (xs : List D) : b1D .sset (.tup xs) = (R.ofO (strsD xs)).bind fun ys => if ys.length ≤ 63 then .ok (.lst ((usort ys).map .str)) else if (usort ys).length ≤ 63 then .ok (.lst ((usort ys).map .str)) else .bad := rfl
@[simp] theorem b_ssetl (xs : List D) : b1D .sset (.lst xs) = (R.ofO (strsD xs)).bind fun ys => if ys.length ≤ 63 then .ok (.lst ((usort ys).map .str)) else if (usort ys).length ≤ 63 then .ok (.lst ((usort ys).map .str)) else .bad := rfl
@[simp] theorem b_lset (xs : List D) : b1D .lset (.lst xs) = (R.ofO (strsD xs)).bind fun ys => if ys.length ≤ 63 then .ok (.int (usort ys).length) else .bad := rfl
@[simp] theorem len_t (x : List D) : lenD (.tup x) = .ok x.length := rfl
@[simp] theorem len_l (x : List D) : lenD (.lst x) = .ok x.length := rfl
@[simp] theorem len_scr (x : List Int) : lenD (.scr x) = .ok x.length := rfl
@[simp] theorem len_d (t) (x : List (List Key × D)) : lenD (.dct t x) = .ok x.length := rfl
@[simp] theorem len_s (z : Str) : lenD (.str z) = if z.length ≤ sizeLine then .ok z.length else .bad := rfl
@[simp] theorem b_all (xs : List D) : b1D .all (.lst xs) = (R.ofO (blsD xs)).bind fun bs => .ok (.bl (bs.all id)) := rfl
@[simp] theorem b_any (xs : List D) : b1D .any (.lst xs) = (R.ofO (blsD xs)).bind fun bs => .ok (.bl (bs.any id)) := rfl
@[simp] theorem b_tupl (xs : List D) : b1D .tuple (.lst xs) = .ok (.tup xs) := rfl
@[simp] theorem b_tupt (xs : List D) : b1D .tuple (.tup xs) = .ok (.tup xs) := rfl
@[simp] theorem b_listt (xs : List D) : b1D .list (.tup xs) = .ok (.lst xs) := rfl
@[simp] theorem b_listl (xs : List D) : b1D .list (.lst xs) = .ok (.lst xs) := rfl
@[simp] theorem b_listd (t kvs) : b1D .list (.dct t kvs) = .ok (.lst (kvs.map fun kv => keyD t kv.1)) := rfl
@[simp] theorem b_sum (xs : List D) : b1D .sum (.lst xs) = (R.ofO (intsD xs)).bind fun ns => .ok (.int ns.sum) := rfl
@[simp] theorem ix_t (xs : List D) (i : Int) : ixD (.tup xs) (.int i) = R.ofO (atI xs i) := rfl
@[simp] theorem ix_l (xs : List D) (i : Int) : ixD (.lst xs) (.int i) = R.ofO (atI xs i) := rfl
@[simp] theorem ix_scr (xs : List Int) (i : Int) : ixD (.scr xs) (.int i) = (R.ofO (atI xs i)).bind fun n => .ok (.int n) := rfl
@[simp] theorem ix_s (z : Str) (i : Int) : ixD (.str z) (.int i) = if z.length ≤ sizeLine then (R.ofO (atI z.cps.toList i)).bind fun c => .ok (.str ⟨#[c]⟩) else .bad := rfl
@[simp] theorem seq_s (z : Str) : seqD (.str z) = if z.length ≤ sizeLine then .ok (z.cps.toList.map fun c => .str ⟨#[c]⟩) else .bad := rfl
@[simp] theorem sl_t (xs : List D) (lo hi) : slD (.tup xs) lo hi = .ok (.tup (cutD xs lo hi)) := rfl
@[simp] theorem sl_l (xs : List D) (lo hi) : slD (.lst xs) lo hi = .ok (.lst (cutD xs lo hi)) := rfl
@[simp] theorem seq_t (xs : List D) : seqD (.tup xs) = .ok xs := rfl
@[simp] theorem seq_l (xs : List D) : seqD (.lst xs) = .ok xs := rfl
@[simp] theorem keys_d (t kvs) : keysD (.dct t kvs) = .ok (kvs.map fun kv => keyD t kv.1) := rfl
@[simp] theorem optI_n : optI none = .ok none := rfl
@[simp] theorem optI_i (i : Int) : optI (some (.int i)) = .ok (some i) := rfl
@[simp] theorem isi_s1 (x) : isiD .str (.str x) = .ok true := rfl
@[simp] theorem isi_t1 (x) : isiD .tuple (.tup x) = .ok true := rfl
@[simp] theorem isi_i1 (x) : isiD .int (.int x) = .ok true := rfl
@[simp] theorem isi_i2 (x) : isiD .int (.bl x) = .ok true := rfl
@[simp] theorem isi_b1 (x) : isiD .bool (.bl x) = .ok true := rfl
@[simp] theorem isi_b2 (x) : isiD .bool (.int x) = .ok false := rfl
@[simp] theorem isi_l1 (x) : isiD .list (.lst x) = .ok true := rfl
theorem forL_ind {bind : Env → D → R Env} {b : Env → Fl} (I : Nat → Env → Prop) : ∀ {ds : List D} {env : Env} (_ : I 0 env) (_ : ∀ i d env, ds[i]? = some d → I i env → ∃ env1 env', bind env d = .ok env1 ∧ b env1 = .nx env' ∧ I (i + 1) env'), ∃ env', forL bind b ds env = .nx env' ∧ I ds.length env'
  | [], env, h0, _ => ⟨env, rfl, h0⟩
  | d :: ds, env, h0, h => by
    obtain ⟨env1, env', h1, h2, h3⟩ := h 0 d env rfl h0
    obtain ⟨env2, g1, g2⟩ := forL_ind (fun i => I (i + 1)) (ds := ds) h3 fun i d env e hi => h (i + 1) d env (by simpa using e) hi
    refine ⟨env2, ?_, g2⟩
    show (match bind env d with | .ok env1 => _ | _ => _) = _
    rw [h1]
    show (match b env1 with | .nx env' => _ | .brk env' => _ | f => _) = _
    rw [h2]
    exact g1
theorem compL_map {f : D → R (Option D)} {g : D → D} : ∀ {ds : List D}, (∀ d ∈ ds, f d = .ok (some (g d))) → compL f ds = .ok (ds.map g)
  | [], _ => rfl
  | d :: ds, h => by
    unfold compL
    rw [h d List.mem_cons_self, compL_map fun x hx => h x (List.mem_cons_of_mem _ hx)]
    rfl
theorem bls_map {α : Type} (f : α → Bool) : ∀ xs : List α, blsD (xs.map fun x => .bl (f x)) = some (xs.map f)
  | [] => rfl
  | x :: xs => by simp [blsD, bls_map f xs]
theorem strs_str : ∀ xs : List Str, strsD (xs.map .str) = some xs
  | [] => rfl
  | x :: xs => by simp [strsD, strs_str xs]
end Pu
end
section
set_option maxRecDepth 100000
namespace Pu
open PySem
theorem C_run {n f np nn : Nat} {b : SL} {ds : List D} (h : libT f = some ⟨np, nn, b⟩) (hl : ds.length = np) : C (n + 1) f ds = Fl.out (evSL ⟨C n, libG⟩ (ds.map Sl.sh ++ List.replicate (nn - ds.length) Sl.em) b) := by
  rw [C_succ h, runFn_eq hl]
theorem e0 (n : Nat) (x0 : D) : C (n + 1) 0 [x0] = Fl.out (evSL ⟨C n, libG⟩ [.sh x0, .em] b0) := C_run (np := 1) (nn := 2) (b := b0) rfl rfl
theorem e1 (n : Nat) (x0 x1 x2 : D) : C (n + 1) 1 [x0, x1, x2] = Fl.out (evSL ⟨C n, libG⟩ [.sh x0, .sh x1, .sh x2] b1) := C_run (np := 3) (nn := 3) (b := b1) rfl rfl
theorem e2 (n : Nat) (x0 x1 : D) : C (n + 1) 2 [x0, x1] = Fl.out (evSL ⟨C n, libG⟩ [.sh x0, .sh x1, .em] b2) := C_run (np := 2) (nn := 3) (b := b2) rfl rfl
theorem e3 (n : Nat) (x0 x1 : D) : C (n + 1) 3 [x0, x1] = Fl.out (evSL ⟨C n, libG⟩ [.sh x0, .sh x1, .em] b3) := C_run (np := 2) (nn := 3) (b := b3) rfl rfl
theorem e4 (n : Nat) (x0 x1 : D) : C (n + 1) 4 [x0, x1] = Fl.out (evSL ⟨C n, libG⟩ [.sh x0, .sh x1, .em] b4) := C_run (np := 2) (nn := 3) (b := b4) rfl rfl
theorem e5 (n : Nat) (x0 : D) : C (n + 1) 5 [x0] = Fl.out (evSL ⟨C n, libG⟩ [.sh x0, .em, .em] b5) := C_run (np := 1) (nn := 3) (b := b5) rfl rfl
theorem e6 (n : Nat) (x0 : D) : C (n + 1) 6 [x0] = Fl.out (evSL ⟨C n, libG⟩ [.sh x0] b6) := C_run (np := 1) (nn := 1) (b := b6) rfl rfl
theorem e7 (n : Nat) (x0 : D) : C (n + 1) 7 [x0] = Fl.out (evSL ⟨C n, libG⟩ [.sh x0] b7) := C_run (np := 1) (nn := 1) (b := b7) rfl rfl
theorem e8 (n : Nat) (x0 x1 : D) : C (n + 1) 8 [x0, x1] = Fl.out (evSL ⟨C n, libG⟩ [.sh x0, .sh x1] b8) := C_run (np := 2) (nn := 2) (b := b8) rfl rfl
theorem e9 (n : Nat) (x0 x1 x2 : D) : C (n + 1) 9 [x0, x1, x2] = Fl.out (evSL ⟨C n, libG⟩ [.sh x0, .sh x1, .sh x2, .em] b9) := C_run (np := 3) (nn := 4) (b := b9) rfl rfl
theorem e10 (n : Nat) (x0 x1 : D) : C (n + 1) 10 [x0, x1] = Fl.out (evSL ⟨C n, libG⟩ [.sh x0, .sh x1, .em, .em] b10) := C_run (np := 2) (nn := 4) (b := b10) rfl rfl
theorem e11 (n : Nat) (x0 x1 x2 : D) : C (n + 1) 11 [x0, x1, x2] = Fl.out (evSL ⟨C n, libG⟩ [.sh x0, .sh x1, .sh x2, .em, .em] b11) := C_run (np := 3) (nn := 5) (b := b11) rfl rfl
theorem e12 (n : Nat) (x0 x1 x2 x3 : D) : C (n + 1) 12 [x0, x1, x2, x3] = Fl.out (evSL ⟨C n, libG⟩ [.sh x0, .sh x1, .sh x2, .sh x3, .em, .em, .em, .em, .em, .em, .em, .em, .em] b12) := C_run (np := 4) (nn := 13) (b := b12) rfl rfl
theorem e15 (n : Nat) (x0 x1 : D) : C (n + 1) 15 [x0, x1] = Fl.out (evSL ⟨C n, libG⟩ [.sh x0, .sh x1, .em, .em] b15) := C_run (np := 2) (nn := 4) (b := b15) rfl rfl
theorem e20 (n : Nat) (x0 x1 : D) : C (n + 1) 20 [x0, x1] = Fl.out (evSL ⟨C n, libG⟩ [.sh x0, .sh x1] b20) := C_run (np := 2) (nn := 2) (b := b20) rfl rfl
theorem e24 (n : Nat) (x0 x1 : D) : C (n + 1) 24 [x0, x1] = Fl.out (evSL ⟨C n, libG⟩ [.sh x0, .sh x1, .em] b24) := C_run (np := 2) (nn := 3) (b := b24) rfl rfl
theorem e25 (n : Nat) (x0 x1 : D) : C (n + 1) 25 [x0, x1] = Fl.out (evSL ⟨C n, libG⟩ [.sh x0, .sh x1, .em] b25) := C_run (np := 2) (nn := 3) (b := b25) rfl rfl
theorem e26 (n : Nat) (x0 x1 x2 : D) : C (n + 1) 26 [x0, x1, x2] = Fl.out (evSL ⟨C n, libG⟩ [.sh x0, .sh x1, .sh x2, .em] b26) := C_run (np := 3) (nn := 4) (b := b26) rfl rfl
theorem e27 (n : Nat) (x0 x1 x2 x3 : D) : C (n + 1) 27 [x0, x1, x2, x3] = Fl.out (evSL ⟨C n, libG⟩ [.sh x0, .sh x1, .sh x2, .sh x3, .em, .em] b27) := C_run (np := 4) (nn := 6) (b := b27) rfl rfl
theorem e28 (n : Nat) (x0 x1 x2 x3 : D) : C (n + 1) 28 [x0, x1, x2, x3] = Fl.out (evSL ⟨C n, libG⟩ [.sh x0, .sh x1, .sh x2, .sh x3, .em, .em, .em, .em, .em, .em] b28) := C_run (np := 4) (nn := 10) (b := b28) rfl rfl
theorem e29 (n : Nat) (x0 x1 x2 x3 : D) : C (n + 1) 29 [x0, x1, x2, x3] = Fl.out (evSL ⟨C n, libG⟩ [.sh x0, .sh x1, .sh x2, .sh x3, .em, .em, .em, .em, .em, .em] b29) := C_run (np := 4) (nn := 10) (b := b29) rfl rfl
theorem e30 (n : Nat) (x0 x1 x2 : D) : C (n + 1) 30 [x0, x1, x2] = Fl.out (evSL ⟨C n, libG⟩ [.sh x0, .sh x1, .sh x2, .em, .em, .em, .em, .em] b30) := C_run (np := 3) (nn := 8) (b := b30) rfl rfl
theorem e31 (n : Nat) (x0 x1 x2 : D) : C (n + 1) 31 [x0, x1, x2] = Fl.out (evSL ⟨C n, libG⟩ [.sh x0, .sh x1, .sh x2, .em, .em] b31) := C_run (np := 3) (nn := 5) (b := b31) rfl rfl
theorem e34 (n : Nat) (x0 x1 x2 : D) : C (n + 1) 34 [x0, x1, x2] = Fl.out (evSL ⟨C n, libG⟩ [.sh x0, .sh x1, .sh x2, .em] b34) := C_run (np := 3) (nn := 4) (b := b34) rfl rfl
theorem e38 (n : Nat) (x0 x1 : D) : C (n + 1) 38 [x0, x1] = Fl.out (evSL ⟨C n, libG⟩ [.sh x0, .sh x1] b38) := C_run (np := 2) (nn := 2) (b := b38) rfl rfl
theorem e39 (n : Nat) (x0 x1 x2 : D) : C (n + 1) 39 [x0, x1, x2] = Fl.out (evSL ⟨C n, libG⟩ [.sh x0, .sh x1, .sh x2] b39) := C_run (np := 3) (nn := 3) (b := b39) rfl rfl
theorem e40 (n : Nat) (x0 x1 x2 : D) : C (n + 1) 40 [x0, x1, x2] = Fl.out (evSL ⟨C n, libG⟩ [.sh x0, .sh x1, .sh x2] b40) := C_run (np := 3) (nn := 3) (b := b40) rfl rfl
theorem e41 (n : Nat) (x0 x1 x2 : D) : C (n + 1) 41 [x0, x1, x2] = Fl.out (evSL ⟨C n, libG⟩ [.sh x0, .sh x1, .sh x2, .em, .em] b41) := C_run (np := 3) (nn := 5) (b := b41) rfl rfl
theorem e43 (n : Nat) (x0 x1 : D) : C (n + 1) 43 [x0, x1] = Fl.out (evSL ⟨C n, libG⟩ [.sh x0, .sh x1, .em] b43) := C_run (np := 2) (nn := 3) (b := b43) rfl rfl
theorem e44 (n : Nat) (x0 x1 : D) : C (n + 1) 44 [x0, x1] = Fl.out (evSL ⟨C n, libG⟩ [.sh x0, .sh x1] b44) := C_run (np := 2) (nn := 2) (b := b44) rfl rfl
theorem e46 (n : Nat) (x0 x1 x2 : D) : C (n + 1) 46 [x0, x1, x2] = Fl.out (evSL ⟨C n, libG⟩ [.sh x0, .sh x1, .sh x2, .em] b46) := C_run (np := 3) (nn := 4) (b := b46) rfl rfl
theorem e48 (n : Nat) (x0 x1 : D) : C (n + 1) 48 [x0, x1] = Fl.out (evSL ⟨C n, libG⟩ [.sh x0, .sh x1] b48) := C_run (np := 2) (nn := 2) (b := b48) rfl rfl
theorem e51 (n : Nat) (x0 x1 x2 : D) : C (n + 1) 51 [x0, x1, x2] = Fl.out (evSL ⟨C n, libG⟩ [.sh x0, .sh x1, .sh x2, .em, .em, .em] b51) := C_run (np := 3) (nn := 6) (b := b51) rfl rfl
theorem e55 (n : Nat) (x0 x1 x2 x3 : D) : C (n + 1) 55 [x0, x1, x2, x3] = Fl.out (evSL ⟨C n, libG⟩ [.sh x0, .sh x1, .sh x2, .sh x3] b55) := C_run (np := 4) (nn := 4) (b := b55) rfl rfl
theorem e61 (n : Nat) (x0 x1 x2 : D) : C (n + 1) 61 [x0, x1, x2] = Fl.out (evSL ⟨C n, libG⟩ [.sh x0, .sh x1, .sh x2] b61) := C_run (np := 3) (nn := 3) (b := b61) rfl rfl
theorem e67 (n : Nat) (x0 x1 : D) : C (n + 1) 67 [x0, x1] = Fl.out (evSL ⟨C n, libG⟩ [.sh x0, .sh x1] b67) := C_run (np := 2) (nn := 2) (b := b67) rfl rfl
theorem e68 (n : Nat) (x0 x1 x2 : D) : C (n + 1) 68 [x0, x1, x2] = Fl.out (evSL ⟨C n, libG⟩ [.sh x0, .sh x1, .sh x2, .em, .em] b68) := C_run (np := 3) (nn := 5) (b := b68) rfl rfl
theorem e72 (n : Nat) (x0 x1 x2 : D) : C (n + 1) 72 [x0, x1, x2] = Fl.out (evSL ⟨C n, libG⟩ [.sh x0, .sh x1, .sh x2] b72) := C_run (np := 3) (nn := 3) (b := b72) rfl rfl
theorem e73 (n : Nat) (x0 x1 x2 : D) : C (n + 1) 73 [x0, x1, x2] = Fl.out (evSL ⟨C n, libG⟩ [.sh x0, .sh x1, .sh x2, .em] b73) := C_run (np := 3) (nn := 4) (b := b73) rfl rfl
theorem e76 (n : Nat) (x0 x1 x2 : D) : C (n + 1) 76 [x0, x1, x2] = Fl.out (evSL ⟨C n, libG⟩ [.sh x0, .sh x1, .sh x2, .em, .em, .em, .em, .em, .em] b76) := C_run (np := 3) (nn := 9) (b := b76) rfl rfl
theorem e81 (n : Nat) (x0 x1 x2 : D) : C (n + 1) 81 [x0, x1, x2] = Fl.out (evSL ⟨C n, libG⟩ [.sh x0, .sh x1, .sh x2, .em, .em] b81) := C_run (np := 3) (nn := 5) (b := b81) rfl rfl
theorem e83 (n : Nat) (x0 x1 x2 : D) : C (n + 1) 83 [x0, x1, x2] = Fl.out (evSL ⟨C n, libG⟩ [.sh x0, .sh x1, .sh x2] b83) := C_run (np := 3) (nn := 3) (b := b83) rfl rfl
theorem e88 (n : Nat) (x0 x1 x2 : D) : C (n + 1) 88 [x0, x1, x2] = Fl.out (evSL ⟨C n, libG⟩ [.sh x0, .sh x1, .sh x2, .em, .em, .em] b88) := C_run (np := 3) (nn := 6) (b := b88) rfl rfl
theorem e90 (n : Nat) (x0 x1 x2 x3 : D) : C (n + 1) 90 [x0, x1, x2, x3] = Fl.out (evSL ⟨C n, libG⟩ [.sh x0, .sh x1, .sh x2, .sh x3, .em, .em, .em, .em] b90) := C_run (np := 4) (nn := 8) (b := b90) rfl rfl
theorem e99 (n : Nat) (x0 x1 : D) : C (n + 1) 99 [x0, x1] = Fl.out (evSL ⟨C n, libG⟩ [.sh x0, .sh x1] b99) := C_run (np := 2) (nn := 2) (b := b99) rfl rfl
theorem e101 (n : Nat) (x0 x1 x2 : D) : C (n + 1) 101 [x0, x1, x2] = Fl.out (evSL ⟨C n, libG⟩ [.sh x0, .sh x1, .sh x2, .em, .em] b101) := C_run (np := 3) (nn := 5) (b := b101) rfl rfl
theorem e108 (n : Nat) (x0 x1 : D) : C (n + 1) 108 [x0, x1] = Fl.out (evSL ⟨C n, libG⟩ [.sh x0, .sh x1, .em, .em] b108) := C_run (np := 2) (nn := 4) (b := b108) rfl rfl
theorem e110 (n : Nat) (x0 x1 x2 : D) : C (n + 1) 110 [x0, x1, x2] = Fl.out (evSL ⟨C n, libG⟩ [.sh x0, .sh x1, .sh x2, .em, .em] b110) := C_run (np := 3) (nn := 5) (b := b110) rfl rfl
theorem e113 (n : Nat) (x0 x1 x2 : D) : C (n + 1) 113 [x0, x1, x2] = Fl.out (evSL ⟨C n, libG⟩ [.sh x0, .sh x1, .sh x2] b113) := C_run (np := 3) (nn := 3) (b := b113) rfl rfl
theorem e114 (n : Nat) (x0 x1 x2 : D) : C (n + 1) 114 [x0, x1, x2] = Fl.out (evSL ⟨C n, libG⟩ [.sh x0, .sh x1, .sh x2, .em] b114) := C_run (np := 3) (nn := 4) (b := b114) rfl rfl
theorem e117 (n : Nat) (x0 x1 x2 : D) : C (n + 1) 117 [x0, x1, x2] = Fl.out (evSL ⟨C n, libG⟩ [.sh x0, .sh x1, .sh x2, .em] b117) := C_run (np := 3) (nn := 4) (b := b117) rfl rfl
theorem e120 (n : Nat) (x0 x1 : D) : C (n + 1) 120 [x0, x1] = Fl.out (evSL ⟨C n, libG⟩ [.sh x0, .sh x1, .em, .em, .em, .em] b120) := C_run (np := 2) (nn := 6) (b := b120) rfl rfl
theorem e124 (n : Nat) (x0 x1 x2 : D) : C (n + 1) 124 [x0, x1, x2] = Fl.out (evSL ⟨C n, libG⟩ [.sh x0, .sh x1, .sh x2] b124) := C_run (np := 3) (nn := 3) (b := b124) rfl rfl
theorem e131 (n : Nat) (x0 x1 : D) : C (n + 1) 131 [x0, x1] = Fl.out (evSL ⟨C n, libG⟩ [.sh x0, .sh x1, .em, .em, .em, .em, .em] b131) := C_run (np := 2) (nn := 7) (b := b131) rfl rfl
theorem e135 (n : Nat) (x0 x1 x2 x3 : D) : C (n + 1) 135 [x0, x1, x2, x3] = Fl.out (evSL ⟨C n, libG⟩ [.sh x0, .sh x1, .sh x2, .sh x3, .em, .em, .em, .em] b135) := C_run (np := 4) (nn := 8) (b := b135) rfl rfl
theorem e139 (n : Nat) (x0 x1 x2 x3 : D) : C (n + 1) 139 [x0, x1, x2, x3] = Fl.out (evSL ⟨C n, libG⟩ [.sh x0, .sh x1, .sh x2, .sh x3, .em, .em, .em] b139) := C_run (np := 4) (nn := 7) (b := b139) rfl rfl
theorem e143 (n : Nat) (x0 x1 x2 x3 : D) : C (n + 1) 143 [x0, x1, x2, x3] = Fl.out (evSL ⟨C n, libG⟩ [.sh x0, .sh x1, .sh x2, .sh x3] b143) := C_run (np := 4) (nn := 4) (b := b143) rfl rfl
theorem e144 (n : Nat) (x0 x1 x2 x3 : D) : C (n + 1) 144 [x0, x1, x2, x3] = Fl.out (evSL ⟨C n, libG⟩ [.sh x0, .sh x1, .sh x2, .sh x3, .em, .em] b144) := C_run (np := 4) (nn := 6) (b := b144) rfl rfl
theorem e145 (n : Nat) (x0 x1 x2 x3 : D) : C (n + 1) 145 [x0, x1, x2, x3] = Fl.out (evSL ⟨C n, libG⟩ [.sh x0, .sh x1, .sh x2, .sh x3, .em, .em, .em, .em, .em, .em] b145) := C_run (np := 4) (nn := 10) (b := b145) rfl rfl
theorem e151 (n : Nat) (x0 x1 : D) : C (n + 1) 151 [x0, x1] = Fl.out (evSL ⟨C n, libG⟩ [.sh x0, .sh x1, .em, .em, .em, .em] b151) := C_run (np := 2) (nn := 6) (b := b151) rfl rfl
theorem e152 (n : Nat) (x0 x1 : D) : C (n + 1) 152 [x0, x1] = Fl.out (evSL ⟨C n, libG⟩ [.sh x0, .sh x1, .em, .em] b152) := C_run (np := 2) (nn := 4) (b := b152) rfl rfl
theorem e153 (n : Nat) (x0 x1 : D) : C (n + 1) 153 [x0, x1] = Fl.out (evSL ⟨C n, libG⟩ [.sh x0, .sh x1, .em] b153) := C_run (np := 2) (nn := 3) (b := b153) rfl rfl
theorem e179 (n : Nat) (x0 x1 : D) : C (n + 1) 179 [x0, x1] = Fl.out (evSL ⟨C n, libG⟩ [.sh x0, .sh x1, .em, .em, .em, .em, .em, .em] b179) := C_run (np := 2) (nn := 8) (b := b179) rfl rfl
theorem e186 (n : Nat) (x0 : D) : C (n + 1) 186 [x0] = Fl.out (evSL ⟨C n, libG⟩ [.sh x0] b186) := C_run (np := 1) (nn := 1) (b := b186) rfl rfl
theorem e197 (n : Nat) (x0 : D) : C (n + 1) 197 [x0] = Fl.out (evSL ⟨C n, libG⟩ [.sh x0, .em] b197) := C_run (np := 1) (nn := 2) (b := b197) rfl rfl
theorem e198 (n : Nat) (x0 x1 : D) : C (n + 1) 198 [x0, x1] = Fl.out (evSL ⟨C n, libG⟩ [.sh x0, .sh x1, .em] b198) := C_run (np := 2) (nn := 3) (b := b198) rfl rfl
theorem e199 (n : Nat) (x0 x1 x2 : D) : C (n + 1) 199 [x0, x1, x2] = Fl.out (evSL ⟨C n, libG⟩ [.sh x0, .sh x1, .sh x2, .em] b199) := C_run (np := 3) (nn := 4) (b := b199) rfl rfl
theorem e200 (n : Nat) (x0 x1 x2 x3 : D) : C (n + 1) 200 [x0, x1, x2, x3] = Fl.out (evSL ⟨C n, libG⟩ [.sh x0, .sh x1, .sh x2, .sh x3, .em] b200) := C_run (np := 4) (nn := 5) (b := b200) rfl rfl
theorem e201 (n : Nat) (x0 x1 x2 x3 x4 : D) : C (n + 1) 201 [x0, x1, x2, x3, x4] = Fl.out (evSL ⟨C n, libG⟩ [.sh x0, .sh x1, .sh x2, .sh x3, .sh x4] b201) := C_run (np := 5) (nn := 5) (b := b201) rfl rfl
theorem e202 (n : Nat) (x0 x1 x2 x3 : D) : C (n + 1) 202 [x0, x1, x2, x3] = Fl.out (evSL ⟨C n, libG⟩ [.sh x0, .sh x1, .sh x2, .sh x3, .em, .em, .em, .em] b202) := C_run (np := 4) (nn := 8) (b := b202) rfl rfl
theorem e203 (n : Nat) (x0 : D) : C (n + 1) 203 [x0] = Fl.out (evSL ⟨C n, libG⟩ [.sh x0, .em, .em, .em, .em, .em, .em] b203) := C_run (np := 1) (nn := 7) (b := b203) rfl rfl
end Pu
end
section
set_option maxRecDepth 100000
set_option maxHeartbeats 1000000
namespace Pu
open PySem PySem.Spec L2
theorem atI_lt {α : Type} {xs : List α} {k : Int} (h0 : 0 ≤ k) (h1 : k < xs.length) : ∃ a, atI xs k = some a ∧ a ∈ xs := by
  have hl : k.toNat < xs.length := by omega
  refine ⟨xs[k.toNat], ?_, List.getElem_mem hl⟩
  unfold atI ixN
  rw [if_pos h0, if_pos h1]
  simp [List.getElem?_eq_getElem hl]
theorem smallI_of {i : Int} (h : -big < i) (h' : i < big) : smallI i = true := decide_eq_true ⟨h, h'⟩
theorem cell_at_ok (n : Nat) (ns : List Int) (k : Int) (hk : 0 ≤ k) : ∃ c : Int, C (n + 1) 8 [.scr ns, .int k] = .ok (.int c) := by
  rw [e8]
  by_cases h : k < ns.length
  · obtain ⟨a, e, _⟩ := atI_lt hk h
    exact ⟨a, by simp [b8, h, e]⟩
  · by_cases hn : ns = []
    · subst hn
      have h0 : ¬ (k < 0) := by omega
      exact ⟨0, by simp [b8, h0, eqD, ck, D.py, PyData.eqv, PyData.eqvAll]⟩
    · have hl : (0 : Int) < (ns.length : Int) := by
        have := List.length_pos_iff.mpr hn
        omega
      have hl' : 0 < ns.length := by omega
      obtain ⟨a, e, _⟩ := atI_lt (Int.emod_nonneg k (by omega)) (Int.emod_lt_of_pos k hl)
      have hne : PyData.eqv (D.py (.scr ns)) (D.py (.lst [])) = false := by
        cases ns with
        | nil => exact absurd rfl hn
        | cons a r => simp [D.py, PyData.eqv, PyData.eqvAll]
      have hck : ck 8 (D.py (.scr ns)) = true := by simp [D.py, ck]
      have hck2 : ck 8 (D.py (.lst [])) = true := by simp [D.py, ck]
      have h31 : smallI 31 = true := by decide
      exact ⟨a * 31 + k, by simp [b8, h, eqD, hck, hck2, hne, hl', e, h31]⟩
theorem mixed_ok (n : Nat) (ns : List Int) (k many : Int) (hk : 0 ≤ k) (hm : 0 < many) : ∃ c : Int, C (n + 2) 9 [.scr ns, .int k, .int many] = .ok (.int c) ∧ 0 ≤ c ∧ c < many := by
  obtain ⟨c, hc⟩ := cell_at_ok n ns k hk
  have h1 : smallI 7919 = true := by decide
  have h2 : smallI 48271 = true := by decide
  have h3 : smallI 7 = true := by decide
  have hb := Int.emod_nonneg ((c + 7919 * k + 1) * 48271) (show (2147483647 : Int) ≠ 0 by decide)
  have hb2 := Int.emod_lt_of_pos ((c + 7919 * k + 1) * 48271) (show (0 : Int) < 2147483647 by decide)
  have h4 : smallI ((c + 7919 * k + 1) * 48271 % 2147483647) = true := smallI_of (by unfold big; omega) (by unfold big; omega)
  refine ⟨((c + 7919 * k + 1) * 48271 % 2147483647 * ((c + 7919 * k + 1) * 48271 % 2147483647) + 7 * ((c + 7919 * k + 1) * 48271 % 2147483647) + k) % 2147483629 % many, ?_, Int.emod_nonneg _ (by omega), Int.emod_lt_of_pos _ hm⟩
  rw [e9]
  simp [b9, hc, h1, h2, h3, h4, hm, setE]
def letters : Str := "abcdefghijklmnopqrstuvwxyz"
def WordP (w : Str) : Prop := 1 ≤ w.length ∧ w.length ≤ 6 ∧ (∀ c ∈ w.cps.toList, c ∈ letters.cps.toList)
def Word5 (w : Str) : Prop := WordP w ∧ w.length ≠ 5
theorem len_app (x y : Str) : (x ++ y).length = x.length + y.length := by
  show (x.cps ++ y.cps).size = _
  rw [Array.size_append]; rfl
theorem cps_app (x y : Str) : (x ++ y).cps.toList = x.cps.toList ++ y.cps.toList := by
  show (x.cps ++ y.cps).toList = _
  rw [Array.toList_append]
theorem letters_len : letters.length = 26 := by decide +kernel
theorem sz_small {n : Nat} (h : n ≤ 1000000) : n ≤ sizeLine := Nat.le_trans h (by rw [sizeLine_eq]; decide)
theorem word_ok (n : Nat) (ns : List Int) (at_ : Int) (h0 : 0 ≤ at_) : ∃ w, C (n + 3) 10 [.scr ns, .int at_] = .ok (.str w) ∧ Word5 w := by
  obtain ⟨m, hm, m0, m1⟩ := mixed_ok n ns at_ 6 h0 (by decide)
  have hl : ∃ len : Int, atI [D.int 1, D.int 2, D.int 3, D.int 6, D.int 1, D.int 4] m = some (.int len) ∧ 1 ≤ len ∧ len ≤ 6 ∧ len ≠ 5 := by
    have : m = 0 ∨ m = 1 ∨ m = 2 ∨ m = 3 ∨ m = 4 ∨ m = 5 := by omega
    rcases this with rfl | rfl | rfl | rfl | rfl | rfl
    · exact ⟨1, rfl, by decide, by decide, by decide⟩
    · exact ⟨2, rfl, by decide, by decide, by decide⟩
    · exact ⟨3, rfl, by decide, by decide, by decide⟩
    · exact ⟨6, rfl, by decide, by decide, by decide⟩
    · exact ⟨1, rfl, by decide, by decide, by decide⟩
    · exact ⟨4, rfl, by decide, by decide, by decide⟩
  obtain ⟨len, hl, l0, l1, l5⟩ := hl
  have hok : okR len 0 = true := by simp only [okR, decide_eq_true_eq]; omega
  obtain ⟨env', f1, w, s, f2, f3, f4⟩ := forL_ind (bind := fun env d => bindT env (.one 3) d) (b := fun env => evSL ⟨C (n + 2), libG⟩ env b10_1)
    (ds := rng 0 len) (env := [.sh (.scr ns), .sh (.int at_), .sh (.str ""), .em]) (fun i env => ∃ (w : Str) (s : Sl), env = [.sh (.scr ns), .sh (.int at_), .sh (.str w), s] ∧ w.length = i ∧ (isOwn (some s) = false ∧ ∀ c ∈ w.cps.toList, c ∈ letters.cps.toList))
    ⟨"", .em, rfl, rfl, rfl, by decide⟩ (fun i d env e ⟨w, s, h1, h2, h3, h4⟩ => by
      have hi : i < (len - 0).toNat := by
        have := (List.getElem?_eq_some_iff.mp e).1
        simpa [rng] using this
      have ed : d = .int (i : Int) := by
        have : (rng 0 len)[i]? = some (.int (0 + (i : Int))) := by
          have hi' : i < len.toNat := by omega
          simp [rng, hi']
        rw [this] at e; cases e; simp
      subst ed; subst h1
      obtain ⟨x, hx, x0, x1⟩ := mixed_ok n ns (at_ + 1 + i) 26 (by omega) (by decide)
      obtain ⟨a, ea, ma⟩ := atI_lt (xs := letters.cps.toList) (k := x) x0 (by rw [Array.length_toList]; show x < ((letters.length : Nat) : Int); rw [letters_len]; exact x1)
      refine ⟨[.sh (.scr ns), .sh (.int at_), .sh (.str w), .sh (.int i)], [.sh (.scr ns), .sh (.int at_), .sh (.str (w ++ ⟨#[a]⟩)), .sh (.int i)], ?_, ?_, w ++ ⟨#[a]⟩, .sh (.int i), rfl, ?_, rfl, ?_⟩
      · simp [bindT, bindOne, h3]
      · have e26 : (letters.length ≤ sizeLine) := sz_small (by rw [letters_len]; decide)
        have e27 : w.length + (⟨#[a]⟩ : Str).length ≤ sizeLine := sz_small (by show w.length + 1 ≤ _; omega)
        have es : ("abcdefghijklmnopqrstuvwxyz" : Str) = letters := rfl
        simp [b10_1, es, hx, e26, ea, e27, setE]
      · rw [len_app, h2]; rfl
      · intro c hc
        rw [cps_app, List.mem_append] at hc
        rcases hc with hc | hc
        · exact h4 c hc
        · have : c = a := by simpa using hc
          subst this; exact ma)
  subst f2
  refine ⟨w, ?_, ⟨?_, ?_, f4.2⟩, ?_⟩
  · rw [e10]
    simp [b10, hm, hl, hok, setE, f1]
  · rw [f3]; simp [rng]; omega
  · rw [f3]; simp [rng]; omega
  · rw [f3]; simp [rng]; omega
end Pu
end
section
set_option maxRecDepth 100000
set_option maxHeartbeats 1000000
namespace Pu
open PySem PySem.Spec L2
abbrev tW (xs : List Str) : D := .tup (xs.map .str)
abbrev dW (ws : List Str) : List (List Key × D) := ws.map fun w => ([Sum.inr w], .bl true)
theorem dput_new {ws : List Str} {w : Str} (h : w ∉ ws) : dput (dW ws) [.inr w] (.bl true) = dW (ws ++ [w]) := by
  unfold dput
  have : ((dW ws).any fun kv => decide (kv.1 = [Sum.inr w])) = false := by
    rw [List.any_eq_false]
    intro p hp
    obtain ⟨v, hv, e⟩ := List.mem_map.mp hp
    subst e
    simp only [decide_eq_true_eq, List.cons.injEq, Sum.inr.injEq, and_true]
    intro e; subst e; exact h hv
  rw [this]
  simp [dW]
theorem dput_old {ws : List Str} {w : Str} (h : w ∈ ws) : dput (dW ws) [.inr w] (.bl true) = dW ws := by
  unfold dput
  have : ((dW ws).any fun kv => decide (kv.1 = [Sum.inr w])) = true := by
    rw [List.any_eq_true]
    exact ⟨([.inr w], .bl true), List.mem_map.mpr ⟨w, h, rfl⟩, by simp⟩
  rw [this, if_pos rfl]
  unfold dW
  rw [List.map_map]
  apply List.map_congr_left
  intro v hv
  simp only [Function.comp]
  split
  · rfl
  · rfl
theorem keys_dW (ws : List Str) : ((dW ws).map fun kv => keyD false kv.1) = ws.map .str := by
  unfold dW
  rw [List.map_map]; rfl
theorem rng_get {m : Int} {i : Nat} {d : D} (e : (rng 0 m)[i]? = some d) : d = .int (i : Int) ∧ (i : Int) < m := by
  have hi : i < (m - 0).toNat := by
    have := (List.getElem?_eq_some_iff.mp e).1
    simpa [rng] using this
  have hi' : i < m.toNat := by omega
  have : (rng 0 m)[i]? = some (.int (i : Int)) := by simp [rng, hi']
  rw [this] at e
  cases e
  exact ⟨rfl, by omega⟩
theorem rng_len (m : Int) : (rng 0 m).length = m.toNat := by simp [rng]
theorem usort_len' : ∀ l : List Str, (usort l).length ≤ l.length := fun l => by
  induction l with
  | nil => exact Nat.le_refl _
  | cons x l ih =>
    have h : ∀ m : List Str, (insU x m).length ≤ m.length + 1 := fun m => by
      induction m with
      | nil => exact Nat.le_refl _
      | cons y r ih =>
        unfold insU
        split
        · exact Nat.le_refl _
        · split
          · exact Nat.le_succ _
          · exact Nat.succ_le_succ ih
    exact Nat.le_trans (h (usort l)) (Nat.succ_le_succ ih)
def FactsP (F : List Str) : Prop := Rise F ∧ ∀ f ∈ F, Word5 f
theorem facts_ok (n : Nat) (ns : List Int) (at_ most : Int) (h0 : 0 ≤ at_) (hm : 0 ≤ most) (hm2 : most ≤ 60) : ∃ F, C (n + 4) 11 [.scr ns, .int at_, .int most] = .ok (tW F) ∧ FactsP F ∧ (F.length : Int) ≤ most := by
  obtain ⟨m, h1, m0, m1⟩ := mixed_ok (n + 1) ns at_ (most + 1) h0 (by omega)
  have hok : okR m 0 = true := by simp only [okR, decide_eq_true_eq]; omega
  obtain ⟨env', f1, ws, s, f2, f3, f4, f5, f6⟩ := forL_ind (bind := fun env d => bindT env (.one 4) d) (b := fun env => evSL ⟨C (n + 3), libG⟩ env b11_1)
    (ds := rng 0 m) (env := [.sh (.scr ns), .sh (.int at_), .sh (.int most), .ow (.dct false []), .em]) (fun i env => ∃ (ws : List Str) (s : Sl), env = [.sh (.scr ns), .sh (.int at_), .sh (.int most), .ow (.dct false (dW ws)), s] ∧ ws.length ≤ i ∧ isOwn (some s) = false ∧ ws.Nodup ∧ ∀ w ∈ ws, Word5 w)
    ⟨[], .em, rfl, Nat.le_refl _, rfl, .nil, fun _ z => nomatch z⟩ (fun i d env e ⟨ws, s, h1, h2, h3, h4, h5⟩ => by
      obtain ⟨rfl, hi⟩ := rng_get e
      subst h1
      obtain ⟨w, hw, wp⟩ := word_ok n ns (at_ + 1 + 8 * i) (by omega)
      have hz : ws.length < sizeLine := Nat.lt_of_lt_of_le (show ws.length < 1000000 by omega) (sz_small (Nat.le_refl _))
      have s8 : smallI 8 = true := by decide
      have step : ∀ ws', dput (dW ws) [.inr w] (.bl true) = dW ws' → evSL ⟨C (n + 3), libG⟩ [.sh (.scr ns), .sh (.int at_), .sh (.int most), .ow (.dct false (dW ws)), .sh (.int i)] b11_1 = .nx [.sh (.scr ns), .sh (.int at_), .sh (.int most), .ow (.dct false (dW ws')), .sh (.int i)] := fun ws' e => by
        have e' : dput (List.map (fun w => ([Sum.inr w], D.bl true)) ws) [.inr w] (.bl true) = dW ws' := e
        simp [b11_1, s8, hw, keyOf, key1, hz, e']
      by_cases hmem : w ∈ ws
      · exact ⟨_, _, by simp [bindT, bindOne, h3], step ws (dput_old hmem), ws, _, rfl, by omega, rfl, h4, h5⟩
      · refine ⟨_, _, by simp [bindT, bindOne, h3], step (ws ++ [w]) (dput_new hmem), ws ++ [w], _, rfl, by simp; omega, rfl, ?_, fun v hv => ?_⟩
        · rw [List.nodup_append]
          exact ⟨h4, by simp, fun a ha b hb => by simp at hb; subst hb; exact fun e => hmem (e ▸ ha)⟩
        · rcases List.mem_append.mp hv with z | z
          · exact h5 v z
          · have : v = w := by simpa using z
            subst this; exact wp)
  subst f2
  rw [rng_len] at f3
  have hl : ws.length ≤ 63 := by omega
  have hk := keys_dW ws
  refine ⟨usort ws, ?_, ⟨rise_usort ws, fun f hf => f6 f (mem_usort.mp hf)⟩, ?_⟩
  · rw [e11]
    have ek : (List.map ((fun kv : List Key × D => keyD false kv.1) ∘ fun w => ([Sum.inr w], D.bl true)) ws) = ws.map .str := by
      rw [← List.map_map]; exact hk
    simp [b11, h1, hok, ownOf, setE, f1, freeze, Sl.un, ek, strs_str, hl, sortU_nd f5]
  · have := usort_len' ws
    omega
end Pu
end
section
set_option maxRecDepth 100000
set_option maxHeartbeats 1000000
namespace Pu
open PySem PySem.Spec L2
theorem beq_str (a b : Str) : (a == b) = decide (a = b) := by
  cases h : a == b with
  | true => have := eq_of_beq h; subst this; simp
  | false => have : a ≠ b := fun e => by subst e; simp at h
             simp [this]
@[simp] theorem eq_s (a b : Str) : eqD (.str a) (.str b) = .ok (decide (a = b)) := by
  show R.ok (a == b) = _
  rw [beq_str]
@[simp] theorem eq_i (a b : Int) : eqD (.int a) (.int b) = .ok (decide (a = b)) := by
  show R.ok (a == b) = _
  congr 1
@[simp] theorem eq_b (a b : Bool) : eqD (.bl a) (.bl b) = .ok (decide (a = b)) := by
  cases a <;> cases b <;> rfl
theorem eqvAll_str : ∀ xs ys : List Str, PyData.eqvAll ((xs.map D.str).map D.py) ((ys.map D.str).map D.py) = decide (xs = ys)
  | [], [] => rfl
  | [], _ :: _ => rfl
  | _ :: _, [] => rfl
  | x :: xs, y :: ys => by
    have h : PyData.eqvAll (((x :: xs).map D.str).map D.py) (((y :: ys).map D.str).map D.py) = ((x == y) && PyData.eqvAll ((xs.map D.str).map D.py) ((ys.map D.str).map D.py)) := rfl
    rw [h, eqvAll_str xs ys, beq_str]
    by_cases h2 : xs = ys <;> by_cases h1 : x = y <;> simp [h1, h2]
theorem ck_strs (xs : List Str) (n : Nat) : ((xs.map D.str).map D.py).all (ck n) = true := by
  rw [List.map_map, List.all_map, List.all_eq_true]
  intro x _
  cases n <;> rfl
theorem eq_t (xs ys : List Str) : eqD (tW xs) (tW ys) = .ok (decide (xs = ys)) := by
  have h1 : ck 8 (tW xs).py = true := by show ck 8 (.tuple (D.pys (xs.map D.str))) = true; rw [D.pys_eq]; exact ck_strs xs 7
  have h2 : ck 8 (tW ys).py = true := by show ck 8 (.tuple (D.pys (ys.map D.str))) = true; rw [D.pys_eq]; exact ck_strs ys 7
  unfold eqD
  rw [h1, h2]
  show R.ok (PyData.eqv (.tuple (D.pys (xs.map D.str))) (.tuple (D.pys (ys.map D.str)))) = _
  rw [D.pys_eq, D.pys_eq]
  show R.ok (PyData.eqvAll _ _) = _
  rw [eqvAll_str]
theorem eq_l (xs ys : List Str) : eqD (.lst (xs.map .str)) (.lst (ys.map .str)) = .ok (decide (xs = ys)) := by
  have h1 : ck 8 (D.lst (xs.map .str)).py = true := by show ck 8 (.list (D.pys (xs.map D.str))) = true; rw [D.pys_eq]; exact ck_strs xs 7
  have h2 : ck 8 (D.lst (ys.map .str)).py = true := by show ck 8 (.list (D.pys (ys.map D.str))) = true; rw [D.pys_eq]; exact ck_strs ys 7
  unfold eqD
  rw [h1, h2]
  show R.ok (PyData.eqv (.list (D.pys (xs.map D.str))) (.list (D.pys (ys.map D.str)))) = _
  rw [D.pys_eq, D.pys_eq]
  show R.ok (PyData.eqvAll _ _) = _
  rw [eqvAll_str]
theorem any_eqv (x : Str) (xs : List Str) : ((xs.map D.str).any fun y => PyData.eqv y.py (D.str x).py) = decide (x ∈ xs) := by
  rw [List.any_map]
  apply Bool.eq_iff_iff.mpr
  rw [List.any_eq_true, decide_eq_true_eq]
  constructor
  · rintro ⟨y, hy, e⟩
    have : (y == x) = true := e
    rw [eq_of_beq this] at hy; exact hy
  · intro h
    exact ⟨x, h, by show (x == x) = true; simp⟩
theorem in_t (x : Str) (xs : List Str) : inD (.str x) (tW xs) = .ok (decide (x ∈ xs)) := by
  have h : (ck 8 (D.str x).py && (xs.map D.str).all fun y => ck 8 y.py) = true := by
    rw [Bool.and_eq_true]
    exact ⟨rfl, by have := ck_strs xs 8; rw [List.all_map] at this; exact this⟩
  show (if (ck 8 (D.str x).py && (xs.map D.str).all fun y => ck 8 y.py) = true then R.ok ((xs.map D.str).any fun y => PyData.eqv y.py (D.str x).py) else .bad) = _
  rw [h, if_pos rfl, any_eqv]
theorem in_l (x : Str) (xs : List Str) : inD (.str x) (.lst (xs.map .str)) = .ok (decide (x ∈ xs)) := by
  have h : (ck 8 (D.str x).py && (xs.map D.str).all fun y => ck 8 y.py) = true := by
    rw [Bool.and_eq_true]
    exact ⟨rfl, by have := ck_strs xs 8; rw [List.all_map] at this; exact this⟩
  show (if (ck 8 (D.str x).py && (xs.map D.str).all fun y => ck 8 y.py) = true then R.ok ((xs.map D.str).any fun y => PyData.eqv y.py (D.str x).py) else .bad) = _
  rw [h, if_pos rfl, any_eqv]
structure Er where
  name : Str
  needs : List Str
  bars : List Str
  makes : List Str
  ends : List Str
  price : Int
abbrev eD (e : Er) : D := .tup [.str e.name, tW e.needs, tW e.bars, tW e.makes, tW e.ends, .int e.price]
def SubP (F xs : List Str) : Prop := Rise xs ∧ ∀ x ∈ xs, x ∈ F
def ApartP (xs ys : List Str) : Prop := ∀ x ∈ xs, x ∉ ys
structure ErP (F : List Str) (e : Er) : Prop where
  name : WordP e.name
  needs : SubP F e.needs
  bars : SubP F e.bars
  makes : SubP F e.makes
  ends : SubP F e.ends
  ap1 : ApartP e.needs e.bars
  ap2 : ApartP e.makes e.ends
  price : 0 ≤ e.price ∧ e.price ≤ 9
theorem sub_usort {F xs : List Str} (h : ∀ x ∈ xs, x ∈ F) : SubP F (usort xs) := ⟨rise_usort xs, fun x hx => h x (mem_usort.mp hx)⟩
theorem thin_okL (n : Nat) (ns : List Int) (at_ : Int) (F : List Str) (nm : Str) (h0 : 0 ≤ at_) (hF : F ≠ []) (hw : WordP nm) : ∃ e, C (n + 3) 12 [.scr ns, .int at_, tW F, .str nm] = .ok (eD e) ∧ ErP F e ∧ e.name = nm ∧ e.price ≤ 4 := by
  have hl : (0 : Int) < (F.length : Int) := by have := List.length_pos_iff.mpr hF; omega
  have pick : ∀ k : Int, 0 ≤ k → ∃ m x, C (n + 2) 9 [.scr ns, .int (at_ + k), .int (F.length : Int)] = .ok (.int m) ∧ atI (F.map D.str) m = some (.str x) ∧ x ∈ F := fun k hk => by
    obtain ⟨m, h1, m0, m1⟩ := mixed_ok n ns (at_ + k) (F.length : Int) (by omega) hl
    obtain ⟨a, e, ha⟩ := atI_lt (xs := F.map D.str) m0 (by rw [List.length_map]; exact m1)
    obtain ⟨x, hx, rfl⟩ := List.mem_map.mp ha
    exact ⟨m, x, h1, e, hx⟩
  obtain ⟨m1, one, a1, a2, a3⟩ := pick 10 (by decide)
  obtain ⟨m2, two, b1, b2, b3⟩ := pick 11 (by decide)
  obtain ⟨m3, goal, c1, c2, c3⟩ := pick 12 (by decide)
  obtain ⟨m4, d1, d2, d3⟩ := mixed_ok n ns (at_ + 13) 3 (by omega) (by decide)
  obtain ⟨m5, f1, f2, f3⟩ := mixed_ok n ns (at_ + 14) 4 (by omega) (by decide)
  obtain ⟨m6, g1, g2, g3⟩ := mixed_ok n ns (at_ + 15) 3 (by omega) (by decide)
  obtain ⟨m7, p1, p2, p3⟩ := mixed_ok n ns at_ 5 h0 (by decide)
  obtain ⟨needs, hn1, hn2, hn3⟩ : ∃ needs : List Str, cutD [D.str one, D.str two] none (some (1 + m4 / 2)) = needs.map D.str ∧ (∀ x ∈ needs, x ∈ F) ∧ needs.length ≤ 2 := by
    have : m4 = 0 ∨ m4 = 1 ∨ m4 = 2 := by omega
    rcases this with rfl | rfl | rfl
    · exact ⟨[one], rfl, by simp [a3], by simp⟩
    · exact ⟨[one], rfl, by simp [a3], by simp⟩
    · exact ⟨[one, two], rfl, by simp [a3, b3], by simp⟩
  have bars : (compL (turn ⟨C (n + 2), libG⟩ [.sh (.scr ns), .sh (.int at_), .sh (tW F), .sh (.str nm), .sh (.str one), .sh (.str two), .sh (.str goal), .sh (.lst (needs.map .str)), .em, .em, .em, .em, .em] (.var 9) (.one 9) (.some (.and (.cons (.cmp .nin (.var 9) (.var 7)) (.cons (.cmp .eq (.call 9 (.cons (.var 0) (.cons (.bin .add (.var 1) (.int 14)) (.cons (.int 4) .nil)))) (.int 0)) .nil))))) [.str goal]) = .ok ((if goal ∉ needs ∧ m5 = 0 then [goal] else []).map .str) := by
    by_cases h1 : goal ∈ needs <;> by_cases h2 : m5 = 0 <;> simp [compL, turn, bindT, bindOne, isOwn, in_l, h1, h2, f1]
  generalize hbs : (if goal ∉ needs ∧ m5 = 0 then [goal] else []) = bs at bars
  have ends : (compL (turn ⟨C (n + 2), libG⟩ [.sh (.scr ns), .sh (.int at_), .sh (tW F), .sh (.str nm), .sh (.str one), .sh (.str two), .sh (.str goal), .sh (.lst (needs.map .str)), .sh (.lst (bs.map .str)), .em, .em, .em, .em] (.var 9) (.one 9) (.some (.and (.cons (.cmp .ne (.var 9) (.var 6)) (.cons (.cmp .eq (.call 9 (.cons (.var 0) (.cons (.bin .add (.var 1) (.int 15)) (.cons (.int 3) .nil)))) (.int 0)) .nil))))) [.str one]) = .ok ((if one ≠ goal ∧ m6 = 0 then [one] else []).map .str) := by
    by_cases h1 : one = goal <;> by_cases h2 : m6 = 0 <;> simp [compL, turn, bindT, bindOne, isOwn, h1, h2, g1]
  generalize hes : (if one ≠ goal ∧ m6 = 0 then [one] else []) = es at ends
  have lbs : bs.length ≤ 63 := by rw [← hbs]; split <;> simp
  have les : es.length ≤ 63 := by rw [← hes]; split <;> simp
  have mbs : ∀ x ∈ bs, x = goal ∧ goal ∉ needs := by
    rw [← hbs]; intro x hx; split at hx
    · rename_i h; exact ⟨by simpa using hx, h.1⟩
    · cases hx
  have mes : ∀ x ∈ es, x = one ∧ one ≠ goal := by
    rw [← hes]; intro x hx; split at hx
    · rename_i h; exact ⟨by simpa using hx, h.1⟩
    · cases hx
  have part : ∀ (env : Env) (xs : List Str), xs.length ≤ 63 → env.length = 13 → isOwn env[12]? = false → turn ⟨C (n + 2), libG⟩ env (.b1 .tuple (.b1 .sset (.var 12))) (.one 12) .none (.lst (xs.map .str)) = .ok (some (tW (usort xs))) := fun env xs hx he ho => by
    have hb : bindT env (.one 12) (.lst (xs.map .str)) = .ok (env.set 12 (.sh (.lst (xs.map .str)))) := by
      show bindOne env 12 _ = _
      unfold bindOne
      rw [he, ho]; rfl
    have hg : getE (env.set 12 (.sh (.lst (xs.map .str)))) 12 = .ok (.lst (xs.map .str)) := by
      unfold getE
      rw [List.getElem?_set_self (by rw [he]; decide)]
    unfold turn
    rw [hb]
    simp [hg, strs_str, hx]
  have four : ∀ env : Env, env.length = 13 → isOwn env[12]? = false → compL (turn ⟨C (n + 2), libG⟩ env (.b1 .tuple (.b1 .sset (.var 12))) (.one 12) .none) [.lst (needs.map .str), .lst (bs.map .str), .lst [.str goal], .lst (es.map .str)] = .ok [tW (usort needs), tW (usort bs), tW (usort [goal]), tW (usort es)] := fun env he ho => by
    have p3 := part env [goal] (by simp) he ho
    simp only [compL, part env needs (by omega) he ho, part env bs lbs he ho, part env es les he ho]
    rw [show (D.lst [.str goal]) = .lst ([goal].map .str) from rfl, p3]
  refine ⟨⟨nm, usort needs, usort bs, usort [goal], usort es, m7⟩, ?_, ⟨hw, sub_usort hn2, sub_usort fun x hx => by rw [(mbs x hx).1]; exact c3, sub_usort fun x hx => by simp at hx; rw [hx]; exact c3, sub_usort fun x hx => by rw [(mes x hx).1]; exact a3, fun x hx hx' => ?_, fun x hx hx' => ?_, ⟨p2, by show m7 ≤ 9; omega⟩⟩, rfl, by show m7 ≤ 4; omega⟩
  · rw [e12]
    have h2 : (2 : Int) < 1073741824 := by decide
    simp [b12, a1, a2, b1, b2, c1, c2, d1, hn1, setE, bars, ends]
    rw [four _ rfl rfl]
    simp [atI, ixN, p1]
  · obtain ⟨e1, e2⟩ := mbs x (mem_usort.mp hx')
    subst e1
    exact e2 (mem_usort.mp hx)
  · obtain ⟨e1, e2⟩ := mes x (mem_usort.mp hx')
    have : x = goal := by simpa using mem_usort.mp hx
    exact e2 (e1.symm.trans this)
end Pu
end
section
set_option maxRecDepth 100000
set_option maxHeartbeats 1000000
namespace Pu
open PySem PySem.Spec L2
theorem eq_t0 (F : List Str) : eqD (.tup (F.map .str)) (.tup []) = .ok (decide (F = [])) := eq_t F []
theorem enm_get {F : List Str} {i : Nat} {d : D} (e : ((F.map D.str).mapIdx fun i d => D.tup [.int i, d])[i]? = some d) : ∃ f, F[i]? = some f ∧ d = .tup [.int (i : Int), .str f] := by
  rw [List.getElem?_mapIdx, List.getElem?_map] at e
  cases h : F[i]? with
  | none => rw [h] at e; cases e
  | some f => rw [h] at e; cases e; exact ⟨f, rfl, rfl⟩
theorem take_snoc {F : List Str} {i : Nat} {f : Str} (h : F[i]? = some f) : F.take (i + 1) = F.take i ++ [f] := by
  have ⟨hl, e⟩ := List.getElem?_eq_some_iff.mp h
  rw [List.take_succ_eq_append_getElem hl, e]
theorem sub_snoc {F xs : List Str} {i : Nat} {f : Str} (h : F[i]? = some f) (s : xs.Sublist (F.take i)) : (xs ++ [f]).Sublist (F.take (i + 1)) := by
  rw [take_snoc h]; exact s.append (List.Sublist.refl _)
theorem sub_stay {F xs : List Str} {i : Nat} {f : Str} (h : F[i]? = some f) (s : xs.Sublist (F.take i)) : xs.Sublist (F.take (i + 1)) := by
  rw [take_snoc h]; exact s.trans (List.sublist_append_left _ _)
theorem not_take {F : List Str} {i : Nat} {f : Str} (nd : F.Nodup) (h : F[i]? = some f) : f ∉ F.take i := by
  have : (F.take (i + 1)).Nodup := nd.sublist (List.take_sublist _ _)
  rw [take_snoc h, List.nodup_append] at this
  exact fun hm => this.2.2 f hm f (by simp) rfl
structure Two (F : List Str) (i : Nat) (a b : List Str) : Prop where
  ha : a.Sublist (F.take i)
  hb : b.Sublist (F.take i)
  ap : ApartP a b
theorem Two.stay {F : List Str} {i : Nat} {f : Str} {a b : List Str} (t : Two F i a b) (h : F[i]? = some f) : Two F (i + 1) a b := ⟨sub_stay h t.ha, sub_stay h t.hb, t.ap⟩
theorem Two.left {F : List Str} {i : Nat} {f : Str} {a b : List Str} (t : Two F i a b) (nd : F.Nodup) (h : F[i]? = some f) : Two F (i + 1) (a ++ [f]) b := ⟨sub_snoc h t.ha, sub_stay h t.hb, fun x hx hb => by
  rcases List.mem_append.mp hx with z | z
  · exact t.ap x z hb
  · have : x = f := by simpa using z
    subst this
    exact not_take nd h (t.hb.subset hb)⟩
theorem Two.right {F : List Str} {i : Nat} {f : Str} {a b : List Str} (t : Two F i a b) (nd : F.Nodup) (h : F[i]? = some f) : Two F (i + 1) a (b ++ [f]) := ⟨sub_stay h t.ha, sub_snoc h t.hb, fun x hx hb => by
  rcases List.mem_append.mp hb with z | z
  · exact t.ap x hx z
  · have : x = f := by simpa using z
    subst this
    exact not_take nd h (t.ha.subset hx)⟩
theorem sub_of {F xs : List Str} {i : Nat} (hF : Rise F) (s : xs.Sublist (F.take i)) : SubP F xs := ⟨hF.sublist (s.trans (List.take_sublist _ _)), fun x hx => (List.take_sublist _ _).subset (s.subset hx)⟩
def E28 (ns : List Int) (at_ : Int) (F : List Str) (nm : Str) (a b c d : List Str) (s5 s6 s7 : Sl) : Env := [.sh (.scr ns), .sh (.int at_), .sh (tW F), .sh (.str nm), .o2 [a.map .str, b.map .str, c.map .str, d.map .str], s5, s6, s7, .em, .em]
theorem errand_step (n : Nat) (ns : List Int) (at_ : Int) (F : List Str) (nm : Str) (a b c d : List Str) (s7 : Sl) (i : Nat) (f : Str) (h0 : 0 ≤ at_) (nd : F.Nodup) (hf : F[i]? = some f) (hz : F.length ≤ 60) (t1 : Two F i a b) (t2 : Two F i c d) (hs : isOwn (some s7) = false) :
    ∃ a' b' c' d' s, evSL ⟨C (n + 2), libG⟩ (E28 ns at_ F nm a b c d (.sh (.int i)) (.sh (.str f)) s7) b28_1 = .nx (E28 ns at_ F nm a' b' c' d' (.sh (.int i)) (.sh (.str f)) s) ∧ Two F (i + 1) a' b' ∧ Two F (i + 1) c' d' ∧ isOwn (some s) = false := by
  obtain ⟨w1, h1, p1, q1⟩ := mixed_ok n ns (at_ + 10 + i) 8 (by omega) (by decide)
  obtain ⟨w2, h2, p2, q2⟩ := mixed_ok n ns (at_ + 20 + i) 8 (by omega) (by decide)
  have len : ∀ xs : List Str, xs.Sublist (F.take i) → xs.length < 1000 := fun xs s => by
    have := s.length_le
    rw [List.length_take] at this
    omega
  have la := len a t1.ha
  have lb := len b t1.hb
  have lc := len c t2.ha
  have ld := len d t2.hb
  have c1 : w1 = 0 ∨ w1 = 1 ∨ w1 = 2 ∨ 3 ≤ w1 := by omega
  have c2 : w2 = 0 ∨ w2 = 1 ∨ w2 = 2 ∨ w2 = 3 ∨ 4 ≤ w2 := by omega
  have three : ∀ {w : Int}, 3 ≤ w → ¬ w < 3 := fun h => by omega
  have four : ∀ {w : Int}, 4 ≤ w → ¬ w < 4 := fun h => by omega
  have go : ∀ a' b' c' d', evSL ⟨C (n + 2), libG⟩ (E28 ns at_ F nm a b c d (.sh (.int i)) (.sh (.str f)) s7) b28_1 = .nx (E28 ns at_ F nm a' b' c' d' (.sh (.int i)) (.sh (.str f)) (.sh (.int w2))) → Two F (i + 1) a' b' → Two F (i + 1) c' d' → ∃ a' b' c' d' s, evSL ⟨C (n + 2), libG⟩ (E28 ns at_ F nm a b c d (.sh (.int i)) (.sh (.str f)) s7) b28_1 = .nx (E28 ns at_ F nm a' b' c' d' (.sh (.int i)) (.sh (.str f)) s) ∧ Two F (i + 1) a' b' ∧ Two F (i + 1) c' d' ∧ isOwn (some s) = false := fun a' b' c' d' e t1 t2 => ⟨a', b', c', d', _, e, t1, t2, rfl⟩
  rcases c1 with rfl | rfl | rfl | c1 <;> rcases c2 with rfl | rfl | rfl | rfl | c2
  · exact go (a ++ [f]) b (c ++ [f]) d (by simp [E28, b28_1, h1, h2, setE, atI, ixN, la, lc]) (t1.left nd hf) (t2.left nd hf)
  · exact go (a ++ [f]) b (c ++ [f]) d (by simp [E28, b28_1, h1, h2, setE, atI, ixN, la, lc]) (t1.left nd hf) (t2.left nd hf)
  · exact go (a ++ [f]) b c (d ++ [f]) (by simp [E28, b28_1, h1, h2, setE, atI, ixN, la, ld]) (t1.left nd hf) (t2.right nd hf)
  · exact go (a ++ [f]) b c (d ++ [f]) (by simp [E28, b28_1, h1, h2, setE, atI, ixN, la, ld]) (t1.left nd hf) (t2.right nd hf)
  · exact go (a ++ [f]) b c d (by simp [E28, b28_1, h1, h2, setE, atI, ixN, la, four c2]) (t1.left nd hf) (t2.stay hf)
  · exact go (a ++ [f]) b (c ++ [f]) d (by simp [E28, b28_1, h1, h2, setE, atI, ixN, la, lc]) (t1.left nd hf) (t2.left nd hf)
  · exact go (a ++ [f]) b (c ++ [f]) d (by simp [E28, b28_1, h1, h2, setE, atI, ixN, la, lc]) (t1.left nd hf) (t2.left nd hf)
  · exact go (a ++ [f]) b c (d ++ [f]) (by simp [E28, b28_1, h1, h2, setE, atI, ixN, la, ld]) (t1.left nd hf) (t2.right nd hf)
  · exact go (a ++ [f]) b c (d ++ [f]) (by simp [E28, b28_1, h1, h2, setE, atI, ixN, la, ld]) (t1.left nd hf) (t2.right nd hf)
  · exact go (a ++ [f]) b c d (by simp [E28, b28_1, h1, h2, setE, atI, ixN, la, four c2]) (t1.left nd hf) (t2.stay hf)
  · exact go a (b ++ [f]) (c ++ [f]) d (by simp [E28, b28_1, h1, h2, setE, atI, ixN, lb, lc]) (t1.right nd hf) (t2.left nd hf)
  · exact go a (b ++ [f]) (c ++ [f]) d (by simp [E28, b28_1, h1, h2, setE, atI, ixN, lb, lc]) (t1.right nd hf) (t2.left nd hf)
  · exact go a (b ++ [f]) c (d ++ [f]) (by simp [E28, b28_1, h1, h2, setE, atI, ixN, lb, ld]) (t1.right nd hf) (t2.right nd hf)
  · exact go a (b ++ [f]) c (d ++ [f]) (by simp [E28, b28_1, h1, h2, setE, atI, ixN, lb, ld]) (t1.right nd hf) (t2.right nd hf)
  · exact go a (b ++ [f]) c d (by simp [E28, b28_1, h1, h2, setE, atI, ixN, lb, four c2]) (t1.right nd hf) (t2.stay hf)
  · exact go a b (c ++ [f]) d (by simp [E28, b28_1, h1, h2, setE, atI, ixN, three c1, lc]) (t1.stay hf) (t2.left nd hf)
  · exact go a b (c ++ [f]) d (by simp [E28, b28_1, h1, h2, setE, atI, ixN, three c1, lc]) (t1.stay hf) (t2.left nd hf)
  · exact go a b c (d ++ [f]) (by simp [E28, b28_1, h1, h2, setE, atI, ixN, three c1, ld]) (t1.stay hf) (t2.right nd hf)
  · exact go a b c (d ++ [f]) (by simp [E28, b28_1, h1, h2, setE, atI, ixN, three c1, ld]) (t1.stay hf) (t2.right nd hf)
  · exact go a b c d (by simp [E28, b28_1, h1, h2, setE, atI, ixN, three c1, four c2]) (t1.stay hf) (t2.stay hf)
theorem errand_okL (n : Nat) (ns : List Int) (at_ : Int) (F : List Str) (nm : Str) (h0 : 0 ≤ at_) (hF : FactsP F) (hz : F.length ≤ 60) (hw : WordP nm) : ∃ e, C (n + 4) 28 [.scr ns, .int at_, tW F, .str nm] = .ok (eD e) ∧ ErP F e ∧ e.name = nm ∧ e.price ≤ 4 := by
  obtain ⟨m, h1, p1, q1⟩ := mixed_ok (n + 1) ns 97 2 (by decide) (by decide)
  by_cases ht : F ≠ [] ∧ m = 0
  · obtain ⟨hn, rfl⟩ := ht
    obtain ⟨e, g1, g2, g3⟩ := thin_okL n ns at_ F nm h0 hn hw
    refine ⟨e, ?_, g2, g3⟩
    rw [e28]
    have g1' : C (n + 3) 12 [.scr ns, .int at_, .tup (F.map .str), .str nm] = .ok (eD e) := g1
    simp [b28, eq_t0, hn, h1, g1']
  · have nd := rise_nodup hF.1
    obtain ⟨m7, p7, q7, r7⟩ := mixed_ok (n + 1) ns at_ 5 h0 (by decide)
    obtain ⟨env', f1, a, b, c, d, s5, s6, s7, f2, t1, t2, _⟩ := forL_ind (bind := fun env d => bindT env (.many [5, 6]) d) (b := fun env => evSL ⟨C (n + 3), libG⟩ env b28_1)
      (ds := (F.map D.str).mapIdx fun i d => D.tup [.int i, d]) (env := [.sh (.scr ns), .sh (.int at_), .sh (tW F), .sh (.str nm), .o2 [[], [], [], []], .em, .em, .em, .em, .em])
      (fun i env => ∃ (a b c d : List Str) (s5 s6 s7 : Sl), env = E28 ns at_ F nm a b c d s5 s6 s7 ∧ Two F i a b ∧ Two F i c d ∧ isOwn (some s5) = false ∧ isOwn (some s6) = false ∧ isOwn (some s7) = false)
      ⟨[], [], [], [], .em, .em, .em, rfl, ⟨List.nil_sublist _, List.nil_sublist _, (by intro x hx; cases hx)⟩, ⟨List.nil_sublist _, List.nil_sublist _, (by intro x hx; cases hx)⟩, rfl, rfl, rfl⟩ (fun i dd env e ⟨a, b, c, d, s5, s6, s7, h1, t1, t2, i5, i6, i7⟩ => by
        obtain ⟨f, hf, rfl⟩ := enm_get e
        subst h1
        obtain ⟨a', b', c', d', s, g1, g2, g3, g4⟩ := errand_step (n + 1) ns at_ F nm a b c d s7 i f h0 nd hf hz t1 t2 i7
        refine ⟨E28 ns at_ F nm a b c d (.sh (.int i)) (.sh (.str f)) s7, _, ?_, g1, a', b', c', d', _, _, s, rfl, g2, g3, rfl, rfl, g4⟩
        simp [bindT, bindMany, bindOne, E28, i5, i6])
    subst f2
    refine ⟨⟨nm, a, b, c, d, m7⟩, ?_, ⟨hw, sub_of hF.1 t1.ha, sub_of hF.1 t1.hb, sub_of hF.1 t2.ha, sub_of hF.1 t2.hb, t1.ap, t2.ap, ⟨q7, by show m7 ≤ 9; omega⟩⟩, rfl, by show m7 ≤ 4; omega⟩
    rw [e28]
    have f1' : forL (fun env d => bindT env (.many [5, 6]) d) (fun env => evSL ⟨C (n + 3), libG⟩ env b28_1) ((F.map D.str).mapIdx fun i d => D.tup [.int i, d]) [.sh (.scr ns), .sh (.int at_), .sh (.tup (F.map .str)), .sh (.str nm), .o2 [[], [], [], []], .em, .em, .em, .em, .em] = .nx (E28 ns at_ F nm a b c d s5 s6 s7) := f1
    have hsub : ∀ xs ys : List Str, True := fun _ _ => trivial
    by_cases hn : F = []
    · have he : eqD (.tup (F.map .str)) (.tup []) = .ok true := by rw [eq_t0]; simp [hn]
      simp [b28, he, setE, List.replicate, f1, f1']
      simp [E28, freeze, Sl.un, compL, turn, bindT, bindOne, isOwn, atI, ixN, p7]
    · have he : eqD (.tup (F.map .str)) (.tup []) = .ok false := by rw [eq_t0]; simp [hn]
      have hm : ¬ m = 0 := fun z => ht ⟨hn, z⟩
      simp [b28, he, h1, hm, setE, List.replicate, f1, f1']
      simp [E28, freeze, Sl.un, compL, turn, bindT, bindOne, isOwn, atI, ixN, p7]
end Pu
end
section
set_option maxRecDepth 100000
set_option maxHeartbeats 1000000
namespace Pu
open PySem PySem.Spec L2
theorem cut_drop {α : Type} (xs : List α) (t : Int) (h0 : 0 ≤ t) (h1 : t ≤ xs.length) : cutD xs (some t) none = xs.drop t.toNat := by
  have e1 : HT.sIx xs.length 0 (some t) = t.toNat := by
    show (if t < 0 then _ else _) = _
    rw [if_neg (by omega)]; omega
  have e2 : HT.sIx xs.length xs.length none = xs.length := by unfold HT.sIx; simp
  unfold cutD
  rw [e1, e2, List.take_of_length_le (by rw [List.length_drop]; omega)]
theorem cut_take {α : Type} (xs : List α) (t : Int) (h0 : 0 ≤ t) (h1 : t ≤ xs.length) : cutD xs none (some t) = xs.take t.toNat := by
  have e1 : HT.sIx xs.length 0 none = 0 := by unfold HT.sIx; simp
  have e2 : HT.sIx xs.length xs.length (some t) = t.toNat := by
    show (if t < 0 then _ else _) = _
    rw [if_neg (by omega)]; omega
  unfold cutD
  rw [e1, e2]; simp
theorem compL_of {α : Type} {f : D → R (Option D)} {h g : α → D} : ∀ {xs : List α}, (∀ x ∈ xs, f (h x) = .ok (some (g x))) → compL f (xs.map h) = .ok (xs.map g)
  | [], _ => rfl
  | x :: xs, hh => by
    simp only [List.map_cons]
    unfold compL
    rw [hh x List.mem_cons_self, compL_of fun y hy => hh y (List.mem_cons_of_mem _ hy)]
abbrev dE (es : List Er) : List (List Key × D) := es.map fun e => ([Sum.inr e.name], eD e)
theorem dfind_dE {es : List Er} (nd : (es.map (·.name)).Nodup) : ∀ e ∈ es, dfind (dE es) [.inr e.name] = some (eD e) := by
  induction es with
  | nil => intro e he; cases he
  | cons a es ih =>
    intro e he
    simp only [List.map_cons, List.nodup_cons] at nd
    unfold dfind dE
    rw [List.map_cons, List.find?_cons]
    rcases List.mem_cons.mp he with q | q
    · subst q; simp
    · have ne : a.name ≠ e.name := fun z => nd.1 (z ▸ List.mem_map.mpr ⟨e, q, rfl⟩)
      have : decide ([Sum.inr a.name] = ([Sum.inr e.name] : List Key)) = false := by simp [ne]
      rw [this]
      exact ih nd.2 e q
theorem dput_dE {es : List Er} (nd : (es.map (·.name)).Nodup) (e : Er) : ∃ es', dput (dE es) [.inr e.name] (eD e) = dE es' ∧ (es'.map (·.name)).Nodup ∧ es'.length ≤ es.length + 1 ∧ ∀ x ∈ es', x = e ∨ x ∈ es := by
  by_cases hm : e.name ∈ es.map (·.name)
  · refine ⟨es.map fun x => if x.name = e.name then e else x, ?_, ?_, by simp, fun x hx => ?_⟩
    · unfold dput
      have : ((dE es).any fun kv => decide (kv.1 = [Sum.inr e.name])) = true := by
        rw [List.any_eq_true]
        obtain ⟨y, hy, e1⟩ := List.mem_map.mp hm
        exact ⟨_, List.mem_map.mpr ⟨y, hy, rfl⟩, by simp [e1]⟩
      rw [this, if_pos rfl]
      unfold dE
      simp only [List.map_map]
      apply List.map_congr_left
      intro x _
      simp only [Function.comp, List.cons.injEq, Sum.inr.injEq, and_true]
      by_cases h : x.name = e.name
      · simp [h]
      · simp [h]
    · have : (es.map fun x => if x.name = e.name then e else x).map (·.name) = es.map (·.name) := by
        rw [List.map_map]
        apply List.map_congr_left
        intro x _
        simp only [Function.comp]
        split
        · rename_i h; exact h.symm
        · rfl
      rw [this]; exact nd
    · obtain ⟨y, hy, e1⟩ := List.mem_map.mp hx
      split at e1
      · exact .inl e1.symm
      · subst e1; exact .inr hy
  · refine ⟨es ++ [e], ?_, ?_, by simp, fun x hx => ?_⟩
    · unfold dput
      have : ((dE es).any fun kv => decide (kv.1 = [Sum.inr e.name])) = false := by
        rw [List.any_eq_false]
        intro p hp
        obtain ⟨y, hy, e1⟩ := List.mem_map.mp hp
        subst e1
        simp only [decide_eq_true_eq, List.cons.injEq, Sum.inr.injEq, and_true]
        intro z; exact hm (List.mem_map.mpr ⟨y, hy, z⟩)
      rw [this]
      simp [dE]
    · simp only [List.map_append, List.nodup_append]
      exact ⟨nd, by simp, fun a ha b hb => by simp at hb; subst hb; exact fun z => hm (z ▸ ha)⟩
    · rcases List.mem_append.mp hx with z | z
      · exact .inr z
      · exact .inl (by simpa using z)
abbrev bD (F : List Str) (E : List Er) : D := .tup [tW F, .tup (E.map eD)]
structure BookP (F : List Str) (E : List Er) : Prop where
  facts : FactsP F
  len : F.length ≤ 6
  few : E.length ≤ 6
  ers : ∀ e ∈ E, ErP F e
  nd : (E.map (·.name)).Nodup
structure Drawn (F : List Str) (E : List Er) (most many : Int) : Prop where
  facts : (F.length : Int) ≤ most
  few : (E.length : Int) ≤ many
  price : ∀ e ∈ E, e.price ≤ 4
  n5 : ∀ e ∈ E, e.name.length ≠ 5
theorem book_okL (n : Nat) (ns : List Int) (at_ most many : Int) (h0 : 0 ≤ at_) (hm : 0 ≤ most ∧ most ≤ 6) (hy : 0 ≤ many ∧ many ≤ 6) : ∃ F E, C (n + 5) 29 [.scr ns, .int at_, .int most, .int many] = .ok (bD F E) ∧ BookP F E ∧ Drawn F E most many := by
  obtain ⟨F, a1, a2, a3⟩ := facts_ok n ns at_ most h0 hm.1 (by omega)
  obtain ⟨m, b1, b2, b3⟩ := mixed_ok (n + 2) ns (at_ + 60) (many + 1) (by omega) (by omega)
  have hok : okR m 0 = true := by simp only [okR, decide_eq_true_eq]; omega
  obtain ⟨env', f1, es, s6, s7, f2, f3, f4, f5, f6, f7⟩ := forL_ind (bind := fun env d => bindT env (.one 6) d) (b := fun env => evSL ⟨C (n + 4), libG⟩ env b29_1)
    (ds := rng 0 m) (env := [.sh (.scr ns), .sh (.int at_), .sh (.int most), .sh (.int many), .sh (tW F), .ow (.dct false []), .em, .em, .em, .em])
    (fun i env => ∃ (es : List Er) (s6 s7 : Sl), env = [.sh (.scr ns), .sh (.int at_), .sh (.int most), .sh (.int many), .sh (tW F), .ow (.dct false (dE es)), s6, s7, .em, .em] ∧ es.length ≤ i ∧ isOwn (some s6) = false ∧ isOwn (some s7) = false ∧ (es.map (·.name)).Nodup ∧ ∀ e ∈ es, ErP F e ∧ e.name.length ≠ 5 ∧ e.price ≤ 4)
    ⟨[], .em, .em, rfl, Nat.le_refl _, rfl, rfl, .nil, fun _ z => nomatch z⟩ (fun i d env e ⟨es, s6, s7, h1, h2, h3, h4, h5, h6⟩ => by
      obtain ⟨rfl, hi⟩ := rng_get e
      subst h1
      obtain ⟨w, hw, wp⟩ := word_ok (n + 1) ns (at_ + 70 + 40 * i) (by omega)
      obtain ⟨er, g1, g2, g3, g4⟩ := errand_okL n ns (at_ + 80 + 40 * i) F w (by omega) a2 (by omega) wp.1
      obtain ⟨es', d1, d2, d3, d4⟩ := dput_dE h5 er
      have s40 : smallI 40 = true := by decide
      have hz : es.length < sizeLine := Nat.lt_of_lt_of_le (show es.length < 1000000 by omega) (sz_small (Nat.le_refl _))
      rw [g3] at d1
      have g1' : C (n + 4) 28 [.scr ns, .int (at_ + 80 + 40 * i), .tup (F.map .str), .str w] = .ok (eD er) := g1
      refine ⟨[.sh (.scr ns), .sh (.int at_), .sh (.int most), .sh (.int many), .sh (tW F), .ow (.dct false (dE es)), .sh (.int i), s7, .em, .em], [.sh (.scr ns), .sh (.int at_), .sh (.int most), .sh (.int many), .sh (tW F), .ow (.dct false (dE es')), .sh (.int i), .sh (.str w), .em, .em], ?_, ?_, es', _, _, rfl, by omega, rfl, rfl, d2, fun e he => ?_⟩
      · simp [bindT, bindOne, h3]
      · have d1' : dput (List.map (fun e => ([Sum.inr e.name], eD e)) es) [.inr w] (eD er) = dE es' := d1
        simp [b29_1, s40, hw, setE, g1', keyOf, key1, hz, d1']
      · rcases d4 e he with q | q
        · subst q; exact ⟨g2, by rw [g3]; exact wp.2, g4⟩
        · exact h6 e q)
  subst f2
  rw [rng_len] at f3
  obtain ⟨t, t1, t2, t3⟩ := mixed_ok (n + 2) ns (at_ + 61) ((es.length : Int) + 1) (by omega) (by omega)
  have names : (List.map ((fun kv : List Key × D => keyD false kv.1) ∘ fun e : Er => ([Sum.inr e.name], eD e)) es) = es.map fun e => .str e.name := rfl
  have hperm : ∀ e, e ∈ es.drop t.toNat ++ es.take t.toNat → e ∈ es := fun e he => by
    rcases List.mem_append.mp he with z | z
    · exact List.mem_of_mem_drop z
    · exact List.mem_of_mem_take z
  refine ⟨F, es.drop t.toNat ++ es.take t.toNat, ?_, ⟨a2, by omega, by rw [List.length_append, List.length_drop, List.length_take]; omega, fun e he => (f7 e (hperm e he)).1, ?_⟩, ⟨a3, by rw [List.length_append, List.length_drop, List.length_take]; omega, fun e he => (f7 e (hperm e he)).2.2, fun e he => (f7 e (hperm e he)).2.1⟩⟩
  · rw [e29]
    simp [b29, a1, b1, hok, ownOf, setE, f1, freeze, Sl.un, names, t1]
    have e1 : cutD (es.map fun e => D.str e.name) (some t) none = (es.drop t.toNat).map fun e => .str e.name := by
      rw [cut_drop _ _ t2 (by rw [List.length_map]; omega), List.map_drop]
    have e2 : cutD (es.map fun e => D.str e.name) none (some t) = (es.take t.toNat).map fun e => .str e.name := by
      rw [cut_take _ _ t2 (by rw [List.length_map]; omega), List.map_take]
    have hz : ((es.drop t.toNat).map fun e => D.str e.name).length + ((es.take t.toNat).map fun e => D.str e.name).length ≤ sizeLine := sz_small (by
      rw [List.length_map, List.length_map, List.length_drop, List.length_take]; omega)
    have cmp : compL (turn ⟨C (n + 4), libG⟩ [.sh (.scr ns), .sh (.int at_), .sh (.int most), .sh (.int many), .sh (tW F), .sh (.dct false (dE es)), s6, s7, .sh (.lst (es.map fun e => .str e.name)), .sh (.int t)] (.ix (.var 5) (.var 7)) (.one 7) .none) ((es.drop t.toNat).map (fun e => D.str e.name) ++ (es.take t.toNat).map fun e => D.str e.name) = .ok ((es.drop t.toNat ++ es.take t.toNat).map eD) := by
      rw [← List.map_append]
      refine compL_of fun e he => ?_
      have hf := dfind_dE f6 e (hperm e he)
      have hf' : dfind (List.map (fun e => ([Sum.inr e.name], eD e)) es) [.inr e.name] = some (eD e) := hf
      simp [turn, bindT, bindOne, f5, ixD, keyOf, key1, hf']
    rw [e1, e2, if_pos hz]
    simp only [R.bind_ok, seq_l]
    rw [cmp]
    simp
  · have p : ((es.drop t.toNat ++ es.take t.toNat).map (·.name)).Perm (es.map (·.name)) := by
      apply List.Perm.map
      exact (List.perm_append_comm).trans (by rw [List.take_append_drop])
    exact p.nodup_iff.mpr f6
end Pu
end
section
set_option maxRecDepth 100000
set_option maxHeartbeats 1000000
namespace Pu
open PySem PySem.Spec L2
theorem compL_sub {f : D → R (Option D)} : ∀ {ds : List D} {F : List Str}, ds.length = F.length → (∀ (i : Nat) (d : D) (x : Str), ds[i]? = some d → F[i]? = some x → ∃ b : Bool, f d = .ok (if b then some (.str x) else none)) → ∃ st : List Str, compL f ds = .ok (st.map D.str) ∧ st.Sublist F
  | [], [], _, _ => ⟨[], rfl, List.Sublist.refl _⟩
  | [], _ :: _, hb, _ => by cases hb
  | _ :: _, [], hb, _ => by cases hb
  | d :: ds, x :: F, h, hh => by
    obtain ⟨b, e⟩ := hh 0 d x rfl rfl
    obtain ⟨st, e1, e2⟩ := compL_sub (ds := ds) (F := F) (by simpa using h) fun i d x h1 h2 => hh (i + 1) d x (by simpa using h1) (by simpa using h2)
    unfold compL
    rw [e]
    cases b with
    | true => exact ⟨x :: st, by simp [e1], e2.cons₂ x⟩
    | false => exact ⟨st, by simp [e1], e2.cons x⟩
theorem some_ok (n : Nat) (ns : List Int) (at_ part : Int) (F : List Str) (h0 : 0 ≤ at_) (hF : FactsP F) : ∃ st, C (n + 3) 27 [.scr ns, .int at_, tW F, .int part] = .ok (tW st) ∧ SubP F st := by
  obtain ⟨st, e1, e2⟩ := compL_sub (f := turn ⟨C (n + 2), libG⟩ [.sh (.scr ns), .sh (.int at_), .sh (tW F), .sh (.int part), .em, .em] (.var 5) (.many [4, 5]) (.some (.cmp .lt (.call 9 (.cons (.var 0) (.cons (.bin .add (.var 1) (.var 4)) (.cons (.int 12) .nil)))) (.var 3))))
    (ds := (F.map D.str).mapIdx fun i d => D.tup [.int i, d]) (F := F) (by simp) (fun i d x h1 h2 => by
      obtain ⟨f, hf, rfl⟩ := enm_get h1
      rw [h2] at hf
      cases hf
      obtain ⟨m, g1, g2, g3⟩ := mixed_ok n ns (at_ + i) 12 (by omega) (by decide)
      refine ⟨decide (m < part), ?_⟩
      by_cases hm : m < part
      · simp [turn, bindT, bindMany, bindOne, isOwn, g1, hm]
      · simp [turn, bindT, bindMany, bindOne, isOwn, g1, hm])
  refine ⟨st, ?_, hF.1.sublist e2, fun x hx => e2.subset hx⟩
  rw [e27]
  have e1' : compL (turn ⟨C (n + 2), libG⟩ [.sh (.scr ns), .sh (.int at_), .sh (.tup (F.map .str)), .sh (.int part), .em, .em] (.var 5) (.many [4, 5]) (.some (.cmp .lt (.call 9 (.cons (.var 0) (.cons (.bin .add (.var 1) (.var 4)) (.cons (.int 12) .nil)))) (.var 3)))) ((F.map D.str).mapIdx fun i d => D.tup [.int i, d]) = .ok (st.map .str) := e1
  simp [b27, e1, e1']
structure WantP (F m b : List Str) : Prop where
  must : SubP F m
  bars : SubP F b
  ap : ApartP m b
def E30 (ns : List Int) (at_ : Int) (F : List Str) (a b : List Str) (s5 s6 s7 : Sl) : Env := [.sh (.scr ns), .sh (.int at_), .sh (tW F), .ow (.lst (a.map .str)), .ow (.lst (b.map .str)), s5, s6, s7]
theorem want_ok (n : Nat) (ns : List Int) (at_ : Int) (F : List Str) (h0 : 0 ≤ at_) (hF : FactsP F) (hz : F.length ≤ 60) : ∃ m b, C (n + 3) 30 [.scr ns, .int at_, tW F] = .ok (.tup [tW m, tW b]) ∧ WantP F m b := by
  have nd := rise_nodup hF.1
  obtain ⟨env', f1, a, b, s5, s6, s7, f2, t1, _⟩ := forL_ind (bind := fun env d => bindT env (.many [5, 6]) d) (b := fun env => evSL ⟨C (n + 2), libG⟩ env b30_1)
    (ds := (F.map D.str).mapIdx fun i d => D.tup [.int i, d]) (env := [.sh (.scr ns), .sh (.int at_), .sh (tW F), .ow (.lst []), .ow (.lst []), .em, .em, .em])
    (fun i env => ∃ (a b : List Str) (s5 s6 s7 : Sl), env = E30 ns at_ F a b s5 s6 s7 ∧ Two F i a b ∧ isOwn (some s5) = false ∧ isOwn (some s6) = false ∧ isOwn (some s7) = false)
    ⟨[], [], .em, .em, .em, rfl, ⟨List.nil_sublist _, List.nil_sublist _, (by intro x hx; cases hx)⟩, rfl, rfl, rfl⟩ (fun i dd env e ⟨a, b, s5, s6, s7, h1, t1, i5, i6, i7⟩ => by
      obtain ⟨f, hf, rfl⟩ := enm_get e
      subst h1
      obtain ⟨w, h1, p1, q1⟩ := mixed_ok n ns (at_ + i) 8 (by omega) (by decide)
      have len : ∀ xs : List Str, xs.Sublist (F.take i) → xs.length < sizeLine := fun xs s => by
        have := s.length_le
        rw [List.length_take] at this
        exact Nat.lt_of_lt_of_le (show xs.length < 1000000 by omega) (sz_small (Nat.le_refl _))
      have la := len a t1.ha
      have lb := len b t1.hb
      have bd : bindT (E30 ns at_ F a b s5 s6 s7) (.many [5, 6]) (.tup [.int (i : Int), .str f]) = .ok (E30 ns at_ F a b (.sh (.int i)) (.sh (.str f)) s7) := by
        simp [bindT, bindMany, bindOne, E30, i5, i6]
      by_cases c1 : w < 2
      · exact ⟨_, E30 ns at_ F (a ++ [f]) b (.sh (.int i)) (.sh (.str f)) (.sh (.int w)), bd, by simp [E30, b30_1, h1, setE, c1, la], _, _, _, _, _, rfl, t1.left nd hf, rfl, rfl, rfl⟩
      · by_cases c2 : w = 2
        · subst c2
          exact ⟨_, E30 ns at_ F a (b ++ [f]) (.sh (.int i)) (.sh (.str f)) (.sh (.int 2)), bd, by simp [E30, b30_1, h1, setE, lb], _, _, _, _, _, rfl, t1.right nd hf, rfl, rfl, rfl⟩
        · exact ⟨_, E30 ns at_ F a b (.sh (.int i)) (.sh (.str f)) (.sh (.int w)), bd, by simp [E30, b30_1, h1, setE, c1, c2], _, _, _, _, _, rfl, t1.stay hf, rfl, rfl, rfl⟩)
  subst f2
  refine ⟨a, b, ?_, sub_of hF.1 t1.ha, sub_of hF.1 t1.hb, t1.ap⟩
  rw [e30]
  simp [b30, ownOf, setE, f1]
  simp [E30, freeze, Sl.un]
theorem case_okL (n : Nat) (ns : List Int) (most many : Int) (hm : 0 ≤ most ∧ most ≤ 6) (hy : 0 ≤ many ∧ many ≤ 6) :
    ∃ F E st m b, C (n + 6) 31 [.scr ns, .int most, .int many] = .ok (.tup [bD F E, tW st, .tup [tW m, tW b]]) ∧ BookP F E ∧ SubP F st ∧ WantP F m b ∧ Drawn F E most many := by
  obtain ⟨F, E, a1, a2, a3⟩ := book_okL n ns 100 most many (by decide) hm hy
  obtain ⟨p, p1, p2, p3⟩ := mixed_ok (n + 3) ns 97 2 (by decide) (by decide)
  obtain ⟨q, hq⟩ : ∃ q : Int, atI [D.int 2, D.int 4] p = some (.int q) := by
    have : p = 0 ∨ p = 1 := by omega
    rcases this with rfl | rfl
    · exact ⟨2, rfl⟩
    · exact ⟨4, rfl⟩
  obtain ⟨st, b1, b2⟩ := some_ok (n + 2) ns 20 q F (by decide) a2.facts
  obtain ⟨m, b, c1, c2⟩ := want_ok (n + 2) ns 30 F (by decide) a2.facts (by have := a2.len; omega)
  refine ⟨F, E, st, m, b, ?_, a2, b2, c2, a3⟩
  rw [e31]
  have b1' : C (n + 5) 27 [.scr ns, .int 20, .tup (F.map .str), .int q] = .ok (tW st) := b1
  have c1' : C (n + 5) 30 [.scr ns, .int 30, .tup (F.map .str)] = .ok (.tup [tW m, tW b]) := c1
  have i0 : atI [D.tup (F.map .str), D.tup (E.map eD)] 0 = some (tW F) := rfl
  simp [b31, a1, setE, p1, hq, i0, b1, b1', c1, c1']
end Pu
end
section
set_option maxRecDepth 100000
set_option maxHeartbeats 1000000
namespace Pu
open PySem PySem.Spec L2
@[simp] theorem g0 : libG 0 = .str letters := rfl
@[simp] theorem g1 : libG 1 = .int 6 := rfl
@[simp] theorem g2 : libG 2 = .int 6 := rfl
@[simp] theorem g3 : libG 3 = .int 6 := rfl
@[simp] theorem g4 : libG 4 = .int 9 := rfl
@[simp] theorem g5 : libG 5 = .int 64 := rfl
theorem in_s (c : Nat) (z : Str) : inD (.str ⟨#[c]⟩) (.str z) = .ok (decide (c ∈ z.cps.toList)) := rfl
theorem all_true {α : Type} (xs : List α) : (xs.map fun _ => true).all id = true := by
  rw [List.all_map, List.all_eq_true]; intro _ _; rfl
theorem is_word_ok (n : Nat) {z : Str} (h : WordP z) : C (n + 1) 0 [.str z] = .ok (.bl true) := by
  obtain ⟨h1, h2, h3⟩ := h
  have hz : z.length ≤ sizeLine := sz_small (by omega)
  have hc : compL (turn ⟨C n, libG⟩ [.sh (.str z), .em] (.cmp .isin (.var 1) (.gl 0)) (.one 1) .none) (z.cps.toList.map fun c => D.str ⟨#[c]⟩) = .ok (z.cps.toList.map fun _ => .bl true) :=
    compL_of fun c hc => by
      have : decide (c ∈ letters.cps.toList) = true := decide_eq_true (h3 c hc)
      simp [turn, bindT, bindOne, isOwn, in_s, h3 c hc]
  have hb : blsD (z.cps.toList.map fun _ => D.bl true) = some (z.cps.toList.map fun _ => true) := bls_map (fun _ => true) _
  rw [e0]
  have h1' : (1 : Int) ≤ z.length := by omega
  have h2' : (z.length : Int) ≤ 6 := by omega
  simp [b0, hz, h1, h2, h1', h2', hc, hb, all_true]
def apartB (xs ys : List Str) : Bool := !(xs.any fun x => decide (x ∈ ys))
theorem apartB_of {xs ys : List Str} (h : ApartP xs ys) : apartB xs ys = true := by
  unfold apartB
  rw [Bool.not_eq_true', List.any_eq_false]
  intro x hx
  simpa using h x hx
theorem apartB_iff {xs ys : List Str} : apartB xs ys = true ↔ ApartP xs ys := by
  refine ⟨fun h x hx hy => ?_, apartB_of⟩
  unfold apartB at h
  rw [Bool.not_eq_true', List.any_eq_false] at h
  exact h x hx (by simpa using hy)
theorem are_apart_ok (n : Nat) (xs ys : List Str) : C (n + 1) 3 [tW xs, tW ys] = .ok (.bl (apartB xs ys)) := by
  have hc : compL (turn ⟨C n, libG⟩ [.sh (tW xs), .sh (tW ys), .em] (.cmp .isin (.var 2) (.var 1)) (.one 2) .none) (xs.map .str) = .ok (xs.map fun x => .bl (decide (x ∈ ys))) :=
    compL_of fun x hx => by
      have := in_t x ys
      simp [turn, bindT, bindOne, isOwn, this]
  have hb : blsD (xs.map fun x => D.bl (decide (x ∈ ys))) = some (xs.map fun x => decide (x ∈ ys)) := bls_map _ _
  have hc' : compL (turn ⟨C n, libG⟩ [.sh (.tup (xs.map .str)), .sh (.tup (ys.map .str)), .em] (.cmp .isin (.var 2) (.var 1)) (.one 2) .none) (xs.map .str) = .ok (xs.map fun x => .bl (decide (x ∈ ys))) := hc
  rw [e3]
  have hf : (xs.map fun x => decide (x ∈ ys)).any id = xs.any fun x => decide (x ∈ ys) := by rw [List.any_map]; rfl
  simp only [b3, sl_cons, s_ret, q_not, q_b1, q_comp, i_seq, q_var, get_0, R.bind_ok, seq_t, hc', b_any, hb, R.ofO_some, hf, asB_bl, Fl.of_ok, seq_ret, Fl.out_ret]
  rfl
theorem are_facts_ok (n : Nat) {F xs : List Str} (h : SubP F xs) (hl : xs.length ≤ 63) : C (n + 1) 2 [tW F, tW xs] = .ok (.bl true) := by
  have hc : compL (turn ⟨C n, libG⟩ [.sh (.tup (F.map .str)), .sh (.tup (xs.map .str)), .em] (.and (.cons (.isi .str (.var 2)) (.cons (.cmp .isin (.var 2) (.var 0)) .nil))) (.one 2) .none) (xs.map .str) = .ok (xs.map fun x => .bl true) :=
    compL_of fun x hx => by
      have := in_t x F
      have h2 := h.2 x hx
      simp [turn, bindT, bindOne, isOwn, this, h2]
  have hb : blsD (xs.map fun _ => D.bl true) = some (xs.map fun _ => true) := bls_map (fun _ => true) _
  have hu : usort xs = xs := rise_uniq (rise_usort xs) h.1 fun k => mem_usort
  have he := eq_l xs (usort xs)
  rw [e2]
  rw [hu] at he
  simp [b2, hc, hb, all_true, strs_str, hl, hu, he]
theorem isw (n : Nat) (i : Int) (h : 0 ≤ i ∧ i ≤ 9) : C (n + 1) 1 [.int i, .int 0, .int 9] = .ok (.bl true) := by
  rw [e1]
  simp [b1, h.1, h.2]
theorem nodup_len : ∀ {xs F : List Str}, xs.Nodup → (∀ x ∈ xs, x ∈ F) → xs.length ≤ F.length
  | [], _, _, _ => (Nat.zero_le _)
  | x :: xs, F, nd, h => by
    have ⟨n1, n2⟩ := List.nodup_cons.mp nd
    have hx := h x List.mem_cons_self
    have ih := nodup_len (F := F.erase x) n2 fun y hy => by
      have ne : y ≠ x := fun e => n1 (e ▸ hy)
      exact (List.mem_erase_of_ne ne).mpr (h y (List.mem_cons_of_mem _ hy))
    rw [List.length_erase_of_mem hx] at ih
    have := List.length_pos_of_mem hx
    rw [List.length_cons]
    omega
theorem is_errand_ok (n : Nat) {F : List Str} {e : Er} (h : ErP F e) (hl : F.length ≤ 6) : C (n + 2) 4 [tW F, eD e] = .ok (.bl true) := by
  have nd : ∀ xs, SubP F xs → xs.length ≤ 63 := fun xs s => by
    have := nodup_len (rise_nodup s.1) s.2
    omega
  have f : ∀ xs, SubP F xs → C (n + 1) 2 [.tup (F.map .str), .tup (xs.map .str)] = .ok (.bl true) := fun xs s => are_facts_ok n s (nd xs s)
  have hc : compL (turn ⟨C (n + 1), libG⟩ [.sh (.tup (F.map .str)), .sh (eD e), .em] (.call 2 (.cons (.var 0) (.cons (.var 2) .nil))) (.one 2) .none) [tW e.needs, tW e.bars, tW e.makes, tW e.ends] = .ok ([tW e.needs, tW e.bars, tW e.makes, tW e.ends].map fun _ => .bl true) := by
    simp [compL, turn, bindT, bindOne, isOwn, f _ h.needs, f _ h.bars, f _ h.makes, f _ h.ends]
  have w := is_word_ok n h.name
  have p := isw n e.price h.price
  have a1 := are_apart_ok n e.needs e.bars
  have a2 := are_apart_ok n e.makes e.ends
  rw [apartB_of h.ap1] at a1
  rw [apartB_of h.ap2] at a2
  have cut : cutD [D.str e.name, tW e.needs, tW e.bars, tW e.makes, tW e.ends, .int e.price] (some 1) (some 5) = [tW e.needs, tW e.bars, tW e.makes, tW e.ends] := rfl
  have i0 : atI [D.str e.name, tW e.needs, tW e.bars, tW e.makes, tW e.ends, .int e.price] 0 = some (.str e.name) := rfl
  have i1 : atI [D.str e.name, tW e.needs, tW e.bars, tW e.makes, tW e.ends, .int e.price] 1 = some (tW e.needs) := rfl
  have i2 : atI [D.str e.name, tW e.needs, tW e.bars, tW e.makes, tW e.ends, .int e.price] 2 = some (tW e.bars) := rfl
  have i3 : atI [D.str e.name, tW e.needs, tW e.bars, tW e.makes, tW e.ends, .int e.price] 3 = some (tW e.makes) := rfl
  have i4 : atI [D.str e.name, tW e.needs, tW e.bars, tW e.makes, tW e.ends, .int e.price] 4 = some (tW e.ends) := rfl
  have i5 : atI [D.str e.name, tW e.needs, tW e.bars, tW e.makes, tW e.ends, .int e.price] 5 = some (.int e.price) := rfl
  rw [e4]
  have hb : blsD ([tW e.needs, tW e.bars, tW e.makes, tW e.ends].map fun _ => D.bl true) = some [true, true, true, true] := rfl
  simp [b4, i0, i1, i2, i3, i4, i5, cut, w, p, a1, a2, hc, blsD]
theorem is_book_ok (n : Nat) {F : List Str} {E : List Er} (h : BookP F E) : C (n + 3) 5 [bD F E] = .ok (.bl true) := by
  have c1 : compL (turn ⟨C (n + 2), libG⟩ [.sh (bD F E), .em, .em] (.call 0 (.cons (.var 1) .nil)) (.one 1) .none) (F.map .str) = .ok (F.map fun _ => .bl true) :=
    compL_of fun x hx => by
      have := is_word_ok (n + 1) (h.facts.2 x hx).1
      simp [turn, bindT, bindOne, isOwn, this]
  have b1 : blsD (F.map fun _ => D.bl true) = some (F.map fun _ => true) := bls_map (fun _ => true) _
  have i0 : atI [D.tup (F.map .str), D.tup (E.map eD)] 0 = some (tW F) := rfl
  have i1 : atI [D.tup (F.map .str), D.tup (E.map eD)] 1 = some (.tup (E.map eD)) := rfl
  have c2 : compL (turn ⟨C (n + 2), libG⟩ [.sh (bD F E), .em, .em] (.call 4 (.cons (.ix (.var 0) (.int 0)) (.cons (.var 2) .nil))) (.one 2) .none) (E.map eD) = .ok (E.map fun _ => .bl true) :=
    compL_of fun e he => by
      have g : C (n + 2) 4 [.tup (F.map .str), eD e] = .ok (.bl true) := is_errand_ok n (h.ers e he) h.len
      simp [turn, bindT, bindOne, isOwn, i0, g]
  have b2 : blsD (E.map fun _ => D.bl true) = some (E.map fun _ => true) := bls_map (fun _ => true) _
  have c3 : compL (turn ⟨C (n + 2), libG⟩ [.sh (bD F E), .em, .em] (.ix (.var 2) (.int 0)) (.one 2) .none) (E.map eD) = .ok (E.map fun e => .str e.name) :=
    compL_of fun e he => by
      have j : atI [D.str e.name, tW e.needs, tW e.bars, tW e.makes, tW e.ends, .int e.price] 0 = some (.str e.name) := rfl
      simp [turn, bindT, bindOne, isOwn, j]
  have s3 : strsD (E.map fun e => D.str e.name) = some (E.map (·.name)) := by
    have := strs_str (E.map (·.name))
    rw [List.map_map] at this
    exact this
  have hu : usort F = F := rise_uniq (rise_usort F) h.facts.1 fun k => mem_usort
  have he := eq_l F F
  have l3 : (usort (E.map (·.name))).length = E.length := by
    have p : (usort (E.map (·.name))).Perm (E.map (·.name)) := (List.perm_ext_iff_of_nodup (rise_nodup (rise_usort _)) h.nd).mpr fun k => mem_usort
    rw [p.length_eq, List.length_map]
  have hl : F.length ≤ 63 := by have := h.len; omega
  have hE : E.length ≤ 63 := by have := h.few; omega
  have n1 : ¬ (6 : Int) < F.length := by have := h.len; omega
  have n2 : ¬ (6 : Int) < E.length := by have := h.few; omega
  have n1' : ¬ 6 < F.length := by have := h.len; omega
  have n2' : ¬ 6 < E.length := by have := h.few; omega
  rw [e5]
  simp [b5, i0, i1, n1, n2, c1, b1, all_true, strs_str, hl, hu, he, c2, b2, c3, s3, hE, l3]
theorem need_book_ok (n : Nat) {F : List Str} {E : List Er} (h : BookP F E) : C (n + 4) 6 [bD F E] = .ok .non := by
  have := is_book_ok n h
  rw [e6]
  simp [b6, this]
end Pu
end
section
set_option maxRecDepth 100000
set_option maxHeartbeats 1000000
namespace Pu
open PySem PySem.Spec L2
@[simp] theorem er0 (e : Er) : atI [D.str e.name, tW e.needs, tW e.bars, tW e.makes, tW e.ends, .int e.price] 0 = some (.str e.name) := rfl
@[simp] theorem er1 (e : Er) : atI [D.str e.name, tW e.needs, tW e.bars, tW e.makes, tW e.ends, .int e.price] 1 = some (tW e.needs) := rfl
@[simp] theorem er2 (e : Er) : atI [D.str e.name, tW e.needs, tW e.bars, tW e.makes, tW e.ends, .int e.price] 2 = some (tW e.bars) := rfl
@[simp] theorem er3 (e : Er) : atI [D.str e.name, tW e.needs, tW e.bars, tW e.makes, tW e.ends, .int e.price] 3 = some (tW e.makes) := rfl
@[simp] theorem er4 (e : Er) : atI [D.str e.name, tW e.needs, tW e.bars, tW e.makes, tW e.ends, .int e.price] 4 = some (tW e.ends) := rfl
@[simp] theorem er5 (e : Er) : atI [D.str e.name, tW e.needs, tW e.bars, tW e.makes, tW e.ends, .int e.price] 5 = some (.int e.price) := rfl
@[simp] theorem bk0 (F : List Str) (E : List Er) : atI [D.tup (F.map .str), D.tup (E.map eD)] 0 = some (tW F) := rfl
@[simp] theorem bk1 (F : List Str) (E : List Er) : atI [D.tup (F.map .str), D.tup (E.map eD)] 1 = some (.tup (E.map eD)) := rfl
def optE : Option Er → D
  | some e => eD e
  | none => .non
def findE (E : List Er) (nm : Str) : Option Er := E.find? fun e => decide (e.name = nm)
theorem find_loop (n : Nat) (nm : Str) (d0 : D) : ∀ (E : List Er) (s : Sl), isOwn (some s) = false → ∃ s', forL (fun env d => bindT env (.one 2) d) (fun env => evSL ⟨C n, libG⟩ env b24_1) (E.map eD) [.sh d0, .sh (.str nm), s] = (match findE E nm with | some e => .ret (eD e) | none => .nx [.sh d0, .sh (.str nm), s'])
  | [], s, _ => ⟨s, rfl⟩
  | e :: E, s, hs => by
    have hb : bindT [.sh d0, .sh (.str nm), s] (.one 2) (eD e) = .ok [.sh d0, .sh (.str nm), .sh (eD e)] := by simp [bindT, bindOne, hs]
    by_cases h : e.name = nm
    · subst h
      refine ⟨s, ?_⟩
      have hf : findE (e :: E) e.name = some e := by simp [findE]
      rw [hf, List.map_cons]
      unfold forL
      rw [hb]
      simp [b24_1]
    · obtain ⟨s', ih⟩ := find_loop n nm d0 E (.sh (eD e)) rfl
      refine ⟨s', ?_⟩
      have hf : findE (e :: E) nm = findE E nm := by simp [findE, h]
      rw [hf, List.map_cons]
      unfold forL
      rw [hb]
      have hbody : evSL ⟨C n, libG⟩ [.sh d0, .sh (.str nm), .sh (eD e)] b24_1 = .nx [.sh d0, .sh (.str nm), .sh (eD e)] := by simp [b24_1, h]
      simp only [hbody]
      exact ih
theorem find_ok (n : Nat) (F : List Str) (E : List Er) (nm : Str) : C (n + 1) 24 [bD F E, .str nm] = .ok (optE (findE E nm)) := by
  obtain ⟨s', h⟩ := find_loop n nm (bD F E) E .em rfl
  rw [e24]
  cases hf : findE E nm with
  | none => rw [hf] at h; simp [b24, h, optE]
  | some e => rw [hf] at h; simp [b24, h, optE]
def distB (a b : Er) : Bool := !apartB a.ends b.needs || !apartB a.makes b.bars || (!apartB a.makes b.ends || !apartB a.ends b.makes)
def besB (a b : Er) : Bool := apartB a.makes b.needs && apartB a.ends b.bars && (apartB b.makes a.needs && apartB b.ends a.bars) && (!distB a b && !distB b a)
def goodB (st m b : List Str) : Bool := (m.all fun x => decide (x ∈ st)) && !(b.any fun x => decide (x ∈ st))
def stepS (e : Er) (st : List Str) : Option (List Str) := if goodB st e.needs e.bars then some (usort (st.filter (fun x => !decide (x ∈ e.ends)) ++ e.makes)) else none
def optS : Option (List Str) → D
  | some s => tW s
  | none => .non
end Pu
end
section
set_option maxRecDepth 100000
set_option maxHeartbeats 1000000
namespace Pu
open PySem PySem.Spec L2
theorem good_iff {st m b : List Str} : goodB st m b = true ↔ (∀ x ∈ m, x ∈ st) ∧ ∀ x ∈ b, x ∉ st := by
  unfold goodB
  rw [Bool.and_eq_true, List.all_eq_true, Bool.not_eq_true', List.any_eq_false]
  simp
theorem step_mem {e : Er} {st r : List Str} (h : stepS e st = some r) : Rise r ∧ ∀ x, x ∈ r ↔ (x ∈ st ∧ x ∉ e.ends) ∨ x ∈ e.makes := by
  unfold stepS at h
  split at h
  · cases h
    exact ⟨rise_usort _, fun x => by rw [mem_usort]; simp⟩
  · cases h
theorem step_none {e : Er} {st : List Str} : stepS e st = none ↔ goodB st e.needs e.bars = false := by
  unfold stepS
  cases goodB st e.needs e.bars <;> simp
structure Bes (a b : Er) : Prop where
  mn : ApartP a.makes b.needs
  eb : ApartP a.ends b.bars
  en : ApartP a.ends b.needs
  mb : ApartP a.makes b.bars
  me : ApartP a.makes b.ends
  em : ApartP a.ends b.makes
theorem bes_of {a b : Er} (h : besB a b = true) : Bes a b ∧ Bes b a := by
  unfold besB distB at h
  simp only [Bool.and_eq_true, Bool.not_eq_true', Bool.or_eq_false_iff, Bool.not_eq_false'] at h
  obtain ⟨⟨⟨h1, h2⟩, h3, h4⟩, ⟨⟨h5, h6⟩, h7, h8⟩, ⟨h9, h10⟩, h11, h12⟩ := h
  have f : ∀ {xs ys : List Str}, apartB xs ys = true → ApartP xs ys := fun h => apartB_iff.mp h
  exact ⟨⟨f h1, f h2, f h5, f h6, f h7, f h8⟩, ⟨f h3, f h4, f h9, f h10, f h11, f h12⟩⟩
theorem good_stay {a b : Er} (h : Bes a b) {st r : List Str} (hr : stepS a st = some r) : goodB r b.needs b.bars = goodB st b.needs b.bars := by
  obtain ⟨_, hm⟩ := step_mem hr
  apply Bool.eq_iff_iff.mpr
  rw [good_iff, good_iff]
  have k1 : ∀ x ∈ b.needs, (x ∈ r ↔ x ∈ st) := fun x hx => by
    rw [hm x]
    constructor
    · rintro (⟨z, _⟩ | z)
      · exact z
      · exact (h.mn x z hx).elim
    · exact fun z => .inl ⟨z, fun w => h.en x w hx⟩
  have k2 : ∀ x ∈ b.bars, (x ∈ r ↔ x ∈ st) := fun x hx => by
    rw [hm x]
    constructor
    · rintro (⟨z, _⟩ | z)
      · exact z
      · exact (h.mb x z hx).elim
    · exact fun z => .inl ⟨z, fun w => h.eb x w hx⟩
  constructor
  · exact fun ⟨p, q⟩ => ⟨fun x hx => (k1 x hx).mp (p x hx), fun x hx z => q x hx ((k2 x hx).mpr z)⟩
  · exact fun ⟨p, q⟩ => ⟨fun x hx => (k1 x hx).mpr (p x hx), fun x hx z => q x hx ((k2 x hx).mp z)⟩
theorem swap_ok {a b : Er} (h : besB a b = true) {st f s : List Str} (hf : stepS a st = some f) (hs : stepS b st = some s) : ∃ r, stepS b f = some r ∧ stepS a s = some r := by
  obtain ⟨h1, h2⟩ := bes_of h
  have gf : goodB st a.needs a.bars = true := by
    cases e : goodB st a.needs a.bars with
    | true => rfl
    | false => rw [step_none.mpr e] at hf; cases hf
  have gs : goodB st b.needs b.bars = true := by
    cases e : goodB st b.needs b.bars with
    | true => rfl
    | false => rw [step_none.mpr e] at hs; cases hs
  cases e1 : stepS b f with
  | none => rw [step_none, good_stay h1 hf, gs] at e1; cases e1
  | some r =>
    cases e2 : stepS a s with
    | none => rw [step_none, good_stay h2 hs, gf] at e2; cases e2
    | some r' =>
      obtain ⟨_, mf⟩ := step_mem hf
      obtain ⟨_, ms⟩ := step_mem hs
      obtain ⟨q1, m1⟩ := step_mem e1
      obtain ⟨q2, m2⟩ := step_mem e2
      have : r' = r := rise_uniq q2 q1 fun x => by
        rw [m2 x, ms x, m1 x, mf x]
        constructor
        · rintro (⟨(⟨z, w⟩ | z), v⟩ | z)
          · exact .inl ⟨.inl ⟨z, v⟩, w⟩
          · exact .inr z
          · exact .inl ⟨.inr z, h1.me x z⟩
        · rintro (⟨(⟨z, w⟩ | z), v⟩ | z)
          · exact .inl ⟨.inl ⟨z, v⟩, w⟩
          · exact .inr z
          · exact .inl ⟨.inr z, fun y => h1.em x y z⟩
      exact ⟨r, rfl, by rw [this]⟩
theorem swap_none {a b : Er} (h : besB a b = true) {st f : List Str} (hf : stepS a st = some f) (hs : stepS b st = none) : stepS b f = none := by
  rw [step_none] at hs ⊢
  rw [good_stay (bes_of h).1 hf]; exact hs
end Pu
end
section
set_option maxRecDepth 100000
set_option maxHeartbeats 1000000
namespace Pu
open PySem PySem.Spec L2
theorem forL_st {bind : Env → D → R Env} {b : Env → Fl} (I : Env → Prop) {ds : List D} {env : Env} (h0 : I env) (h : ∀ d env, d ∈ ds → I env → ∃ env1 env', bind env d = .ok env1 ∧ b env1 = .nx env' ∧ I env') : ∃ env', forL bind b ds env = .nx env' ∧ I env' :=
  forL_ind (fun _ => I) h0 fun i d env e hi => h d env (List.mem_of_getElem? e) hi
end Pu
end
section
set_option maxRecDepth 100000
set_option maxHeartbeats 1000000
namespace Pu
open PySem PySem.Spec L2
def Fl.tri (hs : List (Nat × Nat)) : Fl → Fl
  | .exc c p => if c < 11 then (match hs.find? (fun h => subC c h.1) with
      | some h => .ret (hdl h.2 c p)
      | none => .exc c p) else .bad
  | f => f
@[simp] theorem tri_nx (hs e) : Fl.tri hs (.nx e) = .nx e := rfl
@[simp] theorem tri_ret (hs d) : Fl.tri hs (.ret d) = .ret d := rfl
@[simp] theorem tri_bad (hs) : Fl.tri hs .bad = .bad := rfl
section
variable {P : Pr} {env : Env}
@[simp] theorem s_tri (b hs) : evS P env (.tri b hs) = Fl.tri hs (evSL P env b) := by
  rw [evS]
  cases evSL P env b <;> rfl
def callD (P : Pr) (x : D) (ds : List D) : R D := match x with
  | .fn f => P.call f ds
  | _ => .bad
@[simp] theorem callD_fn (f ds) : callD P (.fn f) ds = P.call f ds := rfl
@[simp] theorem q_callv (e es) : evE P env (.callv e es) = (evE P env e).bind fun x => match x with | .fn f => (evL P env es).bind fun ds => P.call f ds | _ => .bad := by rw [evE] <;> rfl
@[simp] theorem q_rev (e) : evE P env (.rev e) = (evE P env e).bind fun x => revD x := by rw [evE]
@[simp] theorem rev_l (xs : List D) : revD (.lst xs) = .ok (.lst xs.reverse) := rfl
@[simp] theorem rev_t (xs : List D) : revD (.tup xs) = .ok (.tup xs.reverse) := rfl
end
@[simp] theorem isi_s2 : isiD .str .non = .ok false := rfl
@[simp] theorem isi_s3 (x) : isiD .str (.int x) = .ok false := rfl
@[simp] theorem isi_s4 (x) : isiD .str (.lst x) = .ok false := rfl
@[simp] theorem isi_s5 (x) : isiD .str (.tup x) = .ok false := rfl
@[simp] theorem isi_s6 (x) : isiD .str (.bl x) = .ok false := rfl
abbrev refD (c : Nat) : D := .tup [.str sRefused, .int c]
def toldR : R D → R D
  | .ok d => .ok d
  | .exc c _ => if c < 11 then .ok (refD c) else .bad
  | .bad => .bad
@[simp] theorem toldR_ok (d) : toldR (.ok d) = .ok d := rfl
theorem atI_0 {α : Type} (x : α) (xs : List α) : atI (x :: xs) 0 = some x := by
  unfold atI ixN
  have h : (0 : Int) < ((x :: xs).length : Int) := by rw [List.length_cons]; omega
  rw [if_pos (by decide), if_pos h]
  rfl
end Pu
end
section
set_option maxRecDepth 100000
set_option maxHeartbeats 1000000
namespace Pu
open PySem PySem.Spec L2
theorem isN_optE (o : Option Er) : isN (optE o) = !o.isSome := by cases o <;> rfl
theorem find_none {E : List Er} (h : ∀ e ∈ E, e.name.length ≠ 5) {x : Str} (hx : x.length = 5) : findE E x = none := by
  unfold findE
  rw [List.find?_eq_none]
  intro e he hn
  have : e.name = x := by simpa using hn
  have w := h e he
  rw [this] at w
  exact w hx
theorem len5 : ("zzzzz" : Str).length = 5 := by decide +kernel
end Pu
end
section
set_option maxRecDepth 100000
set_option maxHeartbeats 1000000
namespace Pu
open PySem PySem.Spec L2
@[simp] theorem ck_str (n x) : ck n (D.py (.str x)) = true := by cases n <;> rfl
@[simp] theorem ck_int (n x) : ck n (D.py (.int x)) = true := by cases n <;> rfl
@[simp] theorem ck_bl (n x) : ck n (D.py (.bl x)) = true := by cases n <;> rfl
@[simp] theorem ck_non (n) : ck n (D.py .non) = true := by cases n <;> rfl
@[simp] theorem ck_tup (n xs) : ck (n + 1) (D.py (.tup xs)) = xs.all fun d => ck n d.py := by
  show ck (n + 1) (.tuple (D.pys xs)) = _
  rw [D.pys_eq]
  show (xs.map D.py).all (ck n) = _
  rw [List.all_map]; rfl
@[simp] theorem ck_lst (n xs) : ck (n + 1) (D.py (.lst xs)) = xs.all fun d => ck n d.py := by
  show ck (n + 1) (.list (D.pys xs)) = _
  rw [D.pys_eq]
  show (xs.map D.py).all (ck n) = _
  rw [List.all_map]; rfl
theorem eqD_refl {d : D} (h : ck 8 d.py = true) : eqD d d = .ok true := by
  unfold eqD
  rw [h, PySem.SeqAt.eqv_refl_plain _ (ck_plain _ _ h).1]
  rfl
inductive Sc : D → Prop where
  | non : Sc .non
  | int (i) : Sc (.int i)
  | str (x) : Sc (.str x)
def factB (F : List Str) : D → Bool
  | .str x => decide (x ∈ F)
  | _ => false
theorem facts_comp (n : Nat) (F : List Str) (d : D) (s : Sl) (hs : isOwn (some s) = false) {ds : List D} (h : ∀ x ∈ ds, Sc x) :
    compL (turn ⟨C n, libG⟩ [.sh (.tup (F.map .str)), .sh d, s] (.and (.cons (.isi .str (.var 2)) (.cons (.cmp .isin (.var 2) (.var 0)) .nil))) (.one 2) .none) ds = .ok (ds.map fun x => .bl (factB F x)) :=
  compL_map fun x hx => by
    cases h x hx with
    | non => simp [turn, bindT, bindOne, hs, factB]
    | int i => simp [turn, bindT, bindOne, hs, factB]
    | str y =>
      have hi := in_t y F
      simp [turn, bindT, bindOne, hs, hi, factB]
theorem are_facts_odd (n : Nat) (F : List Str) {ds : List D} (h : ∀ x ∈ ds, Sc x) (hb : ds.all (factB F) = false) : C (n + 1) 2 [tW F, .tup ds] = .ok (.bl false) := by
  have hc := facts_comp n F (.tup ds) .em rfl h
  have hf : ((ds.map (factB F)).all id) = ds.all (factB F) := by rw [List.all_map]; rfl
  have hl : blsD (ds.map fun x => D.bl (factB F x)) = some (ds.map (factB F)) := bls_map _ _
  rw [e2]
  simp [b2, hc, hl, hf, hb]
theorem are_facts_str (n : Nat) (F : List Str) {xs : List Str} (hl : xs.length ≤ 63) (h : ∀ x ∈ xs, x ∈ F) : C (n + 1) 2 [tW F, tW xs] = .ok (.bl (decide (xs = usort xs))) := by
  have hc := facts_comp n F (tW xs) .em rfl (ds := xs.map .str) fun x hx => by
    obtain ⟨y, _, e⟩ := List.mem_map.mp hx
    subst e; exact .str y
  have hf : (((xs.map D.str).map (factB F)).all id) = true := by
    rw [List.all_map, List.all_map, List.all_eq_true]
    intro x hx
    exact decide_eq_true (h x hx)
  have hb : blsD ((xs.map D.str).map fun x => D.bl (factB F x)) = some ((xs.map D.str).map (factB F)) := bls_map _ _
  have he := eq_l xs (usort xs)
  rw [e2]
  simp only [b2, sl_cons, s_iff, q_or, or_2, or_1, q_not, q_isi, q_var, get_0, get_s, R.bind_ok, isi_t1, asB_bl, Bool.not_true, if_neg Bool.false_ne_true, q_b1, q_comp, i_seq, seq_t, hc, b_all, hb, R.ofO_some, hf, Fl.of_ok, sl_nil, seq_nx, s_ret, q_cmp, b_listt, b_ssett, strs_str, if_pos hl, c_eq, he, seq_ret, Fl.out_ret, Bool.false_eq_true, if_false]
def BadSt (F : List Str) (d : D) : Prop := ∀ n, C (n + 1) 2 [tW F, d] = .ok (.bl false)
inductive NoT : D → Prop where
  | non : NoT .non
  | int (i) : NoT (.int i)
  | str (x) : NoT (.str x)
  | lst (x) : NoT (.lst x)
@[simp] theorem isi_t2 : isiD .tuple .non = .ok false := rfl
@[simp] theorem isi_t3 (x) : isiD .tuple (.int x) = .ok false := rfl
@[simp] theorem isi_t4 (x) : isiD .tuple (.str x) = .ok false := rfl
@[simp] theorem isi_t5 (x) : isiD .tuple (.lst x) = .ok false := rfl
@[simp] theorem isi_t6 (x) : isiD .tuple (.bl x) = .ok false := rfl
theorem bad_not {F : List Str} {d : D} (h : NoT d) : BadSt F d := fun n => by
  rw [e2]
  cases h <;> simp [b2]
theorem bad_odd {F : List Str} {ds : List D} (h : ∀ x ∈ ds, Sc x) (hb : ds.all (factB F) = false) : BadSt F (.tup ds) := fun n => are_facts_odd n F h hb
theorem bad_str {F xs : List Str} (hl : xs.length ≤ 63) (h : ∀ x ∈ xs, x ∈ F) (hu : xs ≠ usort xs) : BadSt F (tW xs) := fun n => by
  rw [are_facts_str n F hl h, decide_eq_false hu]
theorem bad_dup {F xs : List Str} (hl : xs.length ≤ 63) (h : ∀ x ∈ xs, x ∈ F) (hu : ¬ xs.Nodup) : BadSt F (tW xs) := bad_str hl h fun e => hu (by
  rw [e]; exact rise_nodup (rise_usort _))
theorem need_state_ok (n : Nat) {F : List Str} {E : List Er} (h : BookP F E) {st : List Str} (hs : SubP F st) : C (n + 5) 20 [bD F E, tW st] = .ok .non := by
  have h1 : C (n + 4) 6 [.tup [.tup (F.map .str), .tup (E.map eD)]] = .ok .non := need_book_ok n h
  have h2 : C (n + 4) 2 [.tup (F.map .str), .tup (st.map .str)] = .ok (.bl true) := are_facts_ok (n + 3) hs (by have := nodup_len (rise_nodup hs.1) hs.2; have := h.len; omega)
  rw [e20]
  simp [b20, h1, h2]
theorem need_state_bad (n : Nat) {F : List Str} {E : List Er} (h : BookP F E) {d : D} (hs : BadSt F d) : C (n + 5) 20 [bD F E, d] = .exc 1 .non := by
  have h1 : C (n + 4) 6 [.tup [.tup (F.map .str), .tup (E.map eD)]] = .ok .non := need_book_ok n h
  have h2 : C (n + 4) 2 [.tup (F.map .str), d] = .ok (.bl false) := hs (n + 3)
  rw [e20]
  simp [b20, h1, h2]
def behindL (e : Er) (st : List Str) : List Str := usort (st.filter (fun x => !decide (x ∈ e.ends)) ++ e.makes)
theorem stepS_eq (e : Er) (st : List Str) : stepS e st = if goodB st e.needs e.bars then some (behindL e st) else none := rfl
end Pu
end
section
set_option maxRecDepth 100000
set_option maxHeartbeats 1000000
namespace Pu
open PySem PySem.Spec L2
@[simp] theorem s_ext (P : Pr) (env : Env) (i e) : evS P env (.ext i e) = match env[i]? with
    | some (.ow (.lst ds)) => Fl.of (evE P env e) fun d => match d with
      | .lst es => if ds.length + es.length ≤ sizeLine then .nx (env.set i (.ow (.lst (ds ++ es)))) else .bad
      | _ => .bad
    | _ => .bad := by rw [evS] <;> rfl
@[simp] theorem mul_l (xs : List D) (j : Int) : binD .mul (.lst xs) (.int j) = if 0 ≤ j ∧ j ≤ 1000 ∧ xs.length ≤ 1000 then .ok (.lst (List.replicate j.toNat xs).flatten) else .bad := rfl
def badBase (F : List Str) : List D := [.non, .lst (F.map .str), .tup [.str "zzzzz"], .tup (F.map .str ++ [.str "zzzzz"]), .tup [.int 1], .int 0, .str "a", .tup [.str ""], .tup [.non]]
theorem z5_not {F : List Str} (hF : FactsP F) : ("zzzzz" : Str) ∉ F := fun h => (hF.2 _ h).2 len5
theorem e_not {F : List Str} (hF : FactsP F) : ("" : Str) ∉ F := fun h => by
  have := (hF.2 _ h).1.1
  have e : ("" : Str).length = 0 := rfl
  omega
theorem sc_strs {F : List Str} : ∀ x ∈ F.map D.str, Sc x := fun x hx => by
  obtain ⟨y, _, e⟩ := List.mem_map.mp hx
  subst e; exact .str y
theorem base_bad {F : List Str} (hF : FactsP F) : ∀ d ∈ badBase F, BadSt F d := by
  intro d hd
  unfold badBase at hd
  simp only [List.mem_cons, List.not_mem_nil, or_false] at hd
  rcases hd with rfl | rfl | rfl | rfl | rfl | rfl | rfl | rfl | rfl
  · exact bad_not .non
  · exact bad_not (.lst _)
  · exact bad_odd (fun x hx => by simp at hx; subst hx; exact .str _) (by simp [factB, z5_not hF])
  · exact bad_odd (fun x hx => by
      rcases List.mem_append.mp hx with z | z
      · exact sc_strs x z
      · simp at z; subst z; exact .str _) (by rw [List.all_append]; simp [factB, z5_not hF])
  · exact bad_odd (fun x hx => by simp at hx; subst hx; exact .int _) (by simp [factB])
  · exact bad_not (.int _)
  · exact bad_not (.str _)
  · exact bad_odd (fun x hx => by simp at hx; subst hx; exact .str _) (by simp [factB, e_not hF])
  · exact bad_odd (fun x hx => by simp at hx; subst hx; exact .non) (by simp [factB])
theorem rise_rev {F : List Str} (h : Rise F) (h2 : 1 < F.length) : F.reverse ≠ usort F.reverse := fun e => by
  have r : Rise F.reverse := by rw [e]; exact rise_usort _
  have : F = F.reverse := rise_uniq h r fun k => by simp
  match F, h2 with
  | a :: b :: r, _ =>
    have hnd := rise_nodup h
    have l : (a :: b :: r).getLast? = some a := by
      rw [this, List.getLast?_reverse]; rfl
    have : a ∈ b :: r := by
      rw [List.getLast?_cons_cons] at l
      exact List.mem_of_getLast? l
    exact (List.nodup_cons.mp hnd).1 this
theorem bad_state_ok (n : Nat) (ns : List Int) (at_ : Int) (F : List Str) (h0 : 0 ≤ at_) (hF : FactsP F) (hl : F.length ≤ 6) : ∃ d, C (n + 3) 34 [.scr ns, .int at_, tW F] = .ok d ∧ BadSt F d := by
  have hz : ∀ k : Nat, k ≤ 100 → k ≤ sizeLine := fun k h => sz_small (by omega)
  have pick : ∀ L : List D, L ≠ [] → ∃ m d, C (n + 2) 9 [.scr ns, .int at_, .int (L.length : Int)] = .ok (.int m) ∧ atI L m = some d ∧ d ∈ L := fun L hL => by
    have := List.length_pos_iff.mpr hL
    obtain ⟨m, h1, m0, m1⟩ := mixed_ok n ns at_ (L.length : Int) h0 (by omega)
    obtain ⟨d, e, hd⟩ := atI_lt m0 m1
    exact ⟨m, d, h1, e, hd⟩
  have hb := base_bad hF
  have he := eq_t0 F
  rw [e34]
  match F, hF, hl, hb, he with
  | [], hF, hl, hb, he =>
    obtain ⟨m, d, h1, h2, h3⟩ := pick (badBase []) (by simp [badBase])
    refine ⟨d, ?_, hb d h3⟩
    simp only [badBase, List.map_nil, List.nil_append, List.length_cons, List.length_nil] at h1 h2
    simp at h1 h2
    simp [b34, ownOf, setE, he, freeze, Sl.un, h1, h2, hz]
  | [a], hF, hl, hb, he =>
    obtain ⟨m, d, h1, h2, h3⟩ := pick (badBase [a] ++ [.tup [.str a, .str a], .tup [.str a, .str a], .tup [.str a, .int 0]]) (by simp [badBase])
    have ct : cutD [D.str a] none (some 1) = [D.str a] := by
      rw [cut_take _ _ (by decide) (by simp)]; rfl
    have two : BadSt [a] (.tup [.str a, .str a]) := bad_dup (xs := [a, a]) (by simp) (by simp) (by simp)
    refine ⟨d, ?_, ?_⟩
    · simp [badBase] at h1 h2
      simp [b34, ownOf, setE, he, freeze, Sl.un, h1, h2, hz, ct, atI_0]
    · rcases List.mem_append.mp h3 with z | z
      · exact hb d z
      · simp only [List.mem_cons, List.not_mem_nil, or_false] at z
        rcases z with rfl | rfl | rfl
        · exact two
        · exact two
        · exact bad_odd (fun x hx => by simp at hx; rcases hx with rfl | rfl; exact .str _; exact .int _) (by simp [factB])
  | a :: b :: r, hF, hl, hb, he =>
    obtain ⟨m, d, h1, h2, h3⟩ := pick (badBase (a :: b :: r) ++ [.tup ((a :: b :: r).map .str ++ (a :: b :: r).map .str), .tup [.str a, .str a], .tup [.str a, .int 0]] ++ [.tup ((a :: b :: r).map .str).reverse, .tup ((a :: b :: r).map .str).reverse, .tup ((a :: b :: r).map .str).reverse]) (by simp [badBase])
    have ct : cutD (D.str a :: D.str b :: r.map D.str) none (some 1) = [D.str a] := by
      rw [cut_take _ _ (by decide) (by simp; omega)]; rfl
    have lr : r.length ≤ 4 := by simp at hl; omega
    have z1 : r.length + 1 + 1 + (r.length + 1 + 1) ≤ sizeLine := hz _ (by omega)
    have z2 : r.length + 1 + 1 + 1 ≤ sizeLine := hz _ (by omega)
    have g1 : (1 : Int) < (r.length : Int) + 1 + 1 := by omega
    refine ⟨d, ?_, ?_⟩
    · simp [badBase] at h1 h2
      simp [b34, ownOf, setE, he, freeze, Sl.un, hz, ct, atI_0, z1, z2, g1, List.replicate, h1, h2]
    · rcases List.mem_append.mp h3 with z | z
      · rcases List.mem_append.mp z with z | z
        · exact hb d z
        · simp only [List.mem_cons, List.not_mem_nil, or_false] at z
          rcases z with rfl | rfl | rfl
          · rw [← List.map_append]
            refine bad_dup (by simp; omega) (fun x hx => (List.mem_append.mp hx).elim id id) fun nd => ?_
            rw [List.nodup_append] at nd
            exact nd.2.2 a (by simp) a (by simp) rfl
          · exact bad_dup (xs := [a, a]) (by simp) (by simp) (by simp)
          · exact bad_odd (fun x hx => by simp at hx; rcases hx with rfl | rfl; exact .str _; exact .int _) (by simp [factB])
      · have : d = .tup ((a :: b :: r).map .str).reverse := by simpa using z
        subst this
        rw [← List.map_reverse]
        exact bad_str (by simp; omega) (fun x hx => List.mem_reverse.mp hx) (rise_rev hF.1 (by simp))
end Pu
end
section
set_option maxRecDepth 100000
set_option maxHeartbeats 1000000
namespace Pu
open PySem PySem.Spec L2
theorem SubP.len {F xs : List Str} (h : SubP F xs) (hF : F.length ≤ 6) : xs.length ≤ 6 := Nat.le_trans (nodup_len (rise_nodup h.1) h.2) hF
@[simp] theorem isN_optS (o : Option (List Str)) : isN (optS o) = !o.isSome := by cases o <;> rfl
end Pu
end
section
set_option maxRecDepth 100000
set_option maxHeartbeats 1000000
namespace Pu
open PySem PySem.Spec L2
abbrev wD (m b : List Str) : D := .tup [tW m, tW b]
theorem is_want_ok (n : Nat) {F : List Str} (E : List Er) {m b : List Str} (h : WantP F m b) (hF : F.length ≤ 6) : C (n + 2) 38 [bD F E, wD m b] = .ok (.bl true) := by
  have l1 := h.must.len hF
  have l2 := h.bars.len hF
  have h1 : C (n + 1) 2 [.tup (F.map .str), .tup (m.map .str)] = .ok (.bl true) := are_facts_ok n h.must (by omega)
  have h2 : C (n + 1) 2 [.tup (F.map .str), .tup (b.map .str)] = .ok (.bl true) := are_facts_ok n h.bars (by omega)
  have h3 : C (n + 1) 3 [.tup (m.map .str), .tup (b.map .str)] = .ok (.bl (apartB m b)) := are_apart_ok n m b
  rw [apartB_of h.ap] at h3
  have i0 : atI [D.tup (m.map .str), D.tup (b.map .str)] 0 = some (tW m) := rfl
  have i1 : atI [D.tup (m.map .str), D.tup (b.map .str)] 1 = some (tW b) := rfl
  rw [e38]
  simp [b38, h1, h2, h3, i0, i1]
def BadW (F : List Str) (d : D) : Prop := ∀ n E, C (n + 2) 38 [bD F E, d] = .ok (.bl false)
theorem badw_not {F : List Str} {d : D} (h : NoT d) : BadW F d := fun n E => by
  rw [e38]
  cases h <;> simp [b38]
theorem badw_len {F : List Str} {ds : List D} (h : ds.length ≠ 2) : BadW F (.tup ds) := fun n E => by
  have h' : ¬ (ds.length : Int) = 2 := by omega
  rw [e38]
  simp [b38, h']
theorem nil_facts (n : Nat) (F : List Str) : C (n + 1) 2 [.tup (F.map .str), .tup []] = .ok (.bl true) := are_facts_ok n (F := F) (xs := []) ⟨.nil, fun _ z => nomatch z⟩ (by decide)
theorem badw_1 {F : List Str} {d x : D} (h : BadSt F d) : BadW F (.tup [d, x]) := fun n E => by
  have h1 : C (n + 1) 2 [.tup (F.map .str), d] = .ok (.bl false) := h n
  have i0 : atI [d, x] 0 = some d := atI_0 _ _
  rw [e38]
  simp [b38, h1, i0]
theorem badw_2 {F : List Str} {d : D} (h : BadSt F d) : BadW F (.tup [.tup [], d]) := fun n E => by
  have h1 : C (n + 1) 2 [.tup (F.map .str), d] = .ok (.bl false) := h n
  have h2 := nil_facts n F
  have i0 : atI [.tup [], d] 0 = some (.tup []) := atI_0 _ _
  have i1 : atI [.tup [], d] 1 = some d := rfl
  rw [e38]
  simp [b38, h1, h2, i0, i1]
theorem badw_ap {F xs ys : List Str} (hx : SubP F xs) (hy : SubP F ys) (hF : F.length ≤ 6) (hb : apartB xs ys = false) : BadW F (.tup [tW xs, tW ys]) := fun n E => by
  have l1 := hx.len hF
  have l2 := hy.len hF
  have h1 : C (n + 1) 2 [.tup (F.map .str), .tup (xs.map .str)] = .ok (.bl true) := are_facts_ok n hx (by omega)
  have h2 : C (n + 1) 2 [.tup (F.map .str), .tup (ys.map .str)] = .ok (.bl true) := are_facts_ok n hy (by omega)
  have h3 : C (n + 1) 3 [.tup (xs.map .str), .tup (ys.map .str)] = .ok (.bl (apartB xs ys)) := are_apart_ok n xs ys
  rw [hb] at h3
  have i0 : atI [D.tup (xs.map .str), D.tup (ys.map .str)] 0 = some (tW xs) := rfl
  have i1 : atI [D.tup (xs.map .str), D.tup (ys.map .str)] 1 = some (tW ys) := rfl
  rw [e38]
  simp [b38, h1, h2, h3, i0, i1]
def badWs (b : D) : List D := [.non, .tup [.tup []], .lst [.tup [], .tup []], .tup [.tup [], .tup [], .tup []], .tup [b, .tup []], .tup [.tup [], b], .tup [b, .tup []], .tup [.tup [], b], .int 0]
theorem base_badw {F : List Str} {b : D} (hb : BadSt F b) : ∀ d ∈ badWs b, BadW F d := by
  intro d hd
  unfold badWs at hd
  simp only [List.mem_cons, List.not_mem_nil, or_false] at hd
  rcases hd with rfl | rfl | rfl | rfl | rfl | rfl | rfl | rfl | rfl
  · exact badw_not .non
  · exact badw_len (by simp)
  · exact badw_not (.lst _)
  · exact badw_len (by simp)
  · exact badw_1 hb
  · exact badw_2 hb
  · exact badw_1 hb
  · exact badw_2 hb
  · exact badw_not (.int _)
theorem pick_ok (n : Nat) (ns : List Int) (at_ : Int) (h0 : 0 ≤ at_) (L : List D) (hL : L ≠ []) : ∃ m d, C (n + 2) 9 [.scr ns, .int at_, .int (L.length : Int)] = .ok (.int m) ∧ atI L m = some d ∧ d ∈ L := by
  have := List.length_pos_iff.mpr hL
  obtain ⟨m, h1, m0, m1⟩ := mixed_ok n ns at_ (L.length : Int) h0 (by omega)
  obtain ⟨d, e, hd⟩ := atI_lt m0 m1
  exact ⟨m, d, h1, e, hd⟩
theorem sub_self {F : List Str} (h : Rise F) : SubP F F := ⟨h, fun _ z => z⟩
theorem bad_want_ok (n : Nat) (ns : List Int) (at_ : Int) (F : List Str) (h0 : 0 ≤ at_) (hF : FactsP F) (hl : F.length ≤ 6) : ∃ d, C (n + 4) 41 [.scr ns, .int at_, tW F] = .ok d ∧ BadW F d := by
  obtain ⟨b, hb, hbs⟩ := bad_state_ok n ns (at_ + 1) F (by omega) hF hl
  have hz : ∀ k : Nat, k ≤ 100 → k ≤ sizeLine := fun k h => sz_small (by omega)
  have he := eq_t0 F
  have hbw := base_badw hbs
  rw [e41]
  match F, hF, hl, hb, he, hbw with
  | [], hF, hl, hb, he, hbw =>
    obtain ⟨m, d, h1, h2, h3⟩ := pick_ok (n + 1) ns at_ h0 (badWs b) (by simp [badWs])
    refine ⟨d, ?_, hbw d h3⟩
    simp [badWs] at h1 h2
    have hb' : C (n + 3) 34 [.scr ns, .int (at_ + 1), .tup []] = .ok b := hb
    simp [b41, hb', hb, ownOf, setE, he, freeze, Sl.un, h1, h2, hz]
  | a :: r, hF, hl, hb, he, hbw =>
    obtain ⟨m, d, h1, h2, h3⟩ := pick_ok (n + 1) ns at_ h0 (badWs b ++ [.tup [.tup ((a :: r).map .str), .tup [.str a]], .tup [.tup [.str a], .tup ((a :: r).map .str)]]) (by simp [badWs])
    have ct : cutD (D.str a :: r.map D.str) none (some 1) = [D.str a] := by
      rw [cut_take _ _ (by decide) (by simp; omega)]; rfl
    have s1 : SubP (a :: r) [a] := ⟨List.pairwise_singleton _ _, fun x hx => by simp at hx; subst hx; simp⟩
    have s2 := sub_self hF.1
    refine ⟨d, ?_, ?_⟩
    · simp [badWs] at h1 h2
      have hb' : C (n + 3) 34 [.scr ns, .int (at_ + 1), .tup (.str a :: r.map .str)] = .ok b := hb
      have tw : tW (a :: r) = .tup (.str a :: r.map .str) := rfl
      have he' : eqD (.tup (.str a :: r.map .str)) (.tup []) = .ok (decide (a :: r = [])) := he
      simp [b41, tw, he', hb', hb, ownOf, setE, he, freeze, Sl.un, hz, ct, h1, h2]
    · rcases List.mem_append.mp h3 with z | z
      · exact hbw d z
      · simp only [List.mem_cons, List.not_mem_nil, or_false] at z
        rcases z with rfl | rfl
        · exact badw_ap (xs := a :: r) (ys := [a]) s2 s1 hl (by simp [apartB])
        · exact badw_ap (xs := [a]) (ys := a :: r) s1 s2 hl (by simp [apartB])
theorem need_all_ok (n : Nat) {F : List Str} {E : List Er} (h : BookP F E) {st m b : List Str} (hs : SubP F st) (hw : WantP F m b) : C (n + 6) 39 [bD F E, tW st, wD m b] = .ok .non := by
  have h1 : C (n + 5) 20 [.tup [.tup (F.map .str), .tup (E.map eD)], .tup (st.map .str)] = .ok .non := need_state_ok n h hs
  have h2 : C (n + 5) 38 [.tup [.tup (F.map .str), .tup (E.map eD)], .tup [.tup (m.map .str), .tup (b.map .str)]] = .ok (.bl true) := is_want_ok (n + 3) E hw h.len
  rw [e39]
  simp [b39, h1, h2]
theorem need_all_bad1 (n : Nat) {F : List Str} {E : List Er} (h : BookP F E) {s d : D} (hs : BadSt F s) : C (n + 6) 39 [bD F E, s, d] = .exc 1 .non := by
  have h1 : C (n + 5) 20 [.tup [.tup (F.map .str), .tup (E.map eD)], s] = .exc 1 .non := need_state_bad n h hs
  rw [e39]
  simp [b39, h1]
theorem need_all_bad2 (n : Nat) {F : List Str} {E : List Er} (h : BookP F E) {st : List Str} {d : D} (hs : SubP F st) (hd : BadW F d) : C (n + 6) 39 [bD F E, tW st, d] = .exc 2 .non := by
  have h1 : C (n + 5) 20 [.tup [.tup (F.map .str), .tup (E.map eD)], .tup (st.map .str)] = .ok .non := need_state_ok n h hs
  have h2 : C (n + 5) 38 [.tup [.tup (F.map .str), .tup (E.map eD)], d] = .ok (.bl false) := hd (n + 3) E
  rw [e39]
  simp [b39, h1, h2]
theorem er_ref (c : Int) : eqD (.tup [.str sRefused, .int c]) (.tup [.str sRefused, .int c]) = .ok true := eqD_refl (by simp)
theorem s_ref : ("refused" : Str) = sRefused := rfl
end Pu
end
section
set_option maxRecDepth 100000
set_option maxHeartbeats 1000000
namespace Pu
open PySem PySem.Spec L2
@[simp] theorem b_intb (b : Bool) : b1D .int (.bl b) = .ok (.int (if b then 1 else 0)) := rfl
end Pu
end
section
set_option maxRecDepth 100000
set_option maxHeartbeats 1000000
namespace Pu
open PySem PySem.Spec L2
@[simp] theorem q_neg (P : Pr) (env : Env) (a : E) : evE P env (.neg a) = (evE P env a).bind fun x => match x with | .int i => .ok (.int (-i)) | _ => .bad := by rw [evE] <;> rfl
def endS : List Str → List Er → Option (List Str)
  | st, [] => some st
  | st, e :: rs => if goodB st e.needs e.bars then endS (behindL e st) rs else none
end Pu
end
section
set_option maxRecDepth 100000
set_option maxHeartbeats 1000000
namespace Pu
open PySem PySem.Spec L2
@[simp] theorem isi_i3 (x) : isiD .int (.lst x) = .ok false := rfl
@[simp] theorem isi_l2 : isiD .list .non = .ok false := rfl
@[simp] theorem isi_l3 (x) : isiD .list (.tup x) = .ok false := rfl
@[simp] theorem isi_l4 (x) : isiD .list (.str x) = .ok false := rfl
@[simp] theorem isi_l5 (x) : isiD .list (.int x) = .ok false := rfl
def BadR (F : List Str) (E : List Er) (d : D) : Prop := ∀ n, C (n + 2) 43 [bD F E, d] = .ok (.bl false)
inductive NoL : D → Prop where
  | non : NoL .non
  | int (i) : NoL (.int i)
  | str (x) : NoL (.str x)
  | tup (x) : NoL (.tup x)
theorem badr_not {F : List Str} {E : List Er} {d : D} (h : NoL d) : BadR F E d := fun n => by
  rw [e43]
  cases h <;> simp [b43]
theorem badr_long {F : List Str} {E : List Er} {ds : List D} (h : 64 < ds.length) : BadR F E (.lst ds) := fun n => by
  have h' : (64 : Int) < (ds.length : Int) := by omega
  rw [e43]
  simp [b43, g5, h']
def nmB (E : List Er) : D → Bool
  | .str w => (findE E w).isSome
  | _ => false
inductive Sd : D → Prop where
  | non : Sd .non
  | int (i) : Sd (.int i)
  | str (x) : Sd (.str x)
  | lst (x) : Sd (.lst x)
theorem badr_item {F : List Str} {E : List Er} {ds : List D} (hs : ∀ d ∈ ds, Sd d) (hl : ds.length ≤ 64) (h : ds.all (nmB E) = false) : BadR F E (.lst ds) := fun n => by
  have cm : compL (turn ⟨C (n + 1), libG⟩ [.sh (bD F E), .sh (.lst ds), .em] (.and (.cons (.isi .str (.var 2)) (.cons (.cmp .nisn (.call 24 (.cons (.var 0) (.cons (.var 2) .nil))) .non) .nil))) (.one 2) .none) ds = .ok (ds.map fun d => .bl (nmB E d)) :=
    compL_map fun d hd => by
      cases hs d hd with
      | non => simp [turn, bindT, bindOne, isOwn, nmB]
      | int i => simp [turn, bindT, bindOne, isOwn, nmB]
      | lst x => simp [turn, bindT, bindOne, isOwn, nmB]
      | str x =>
        have h2 : C (n + 1) 24 [.tup [.tup (F.map .str), .tup (E.map eD)], .str x] = .ok (optE (findE E x)) := find_ok n F E x
        simp [turn, bindT, bindOne, isOwn, nmB, h2, isN_optE]
  have hb : blsD (ds.map fun d => D.bl (nmB E d)) = some (ds.map (nmB E)) := bls_map _ _
  have hf : (ds.map (nmB E)).all id = ds.all (nmB E) := by rw [List.all_map] <;> rfl
  have h64 : ¬ (64 : Int) < (ds.length : Int) := by omega
  rw [e43]
  simp [b43, g5, h64, cm, hb, hf, h]
@[simp] theorem s_raisn (P : Pr) (env : Env) (k e) : evS P env (.raisn k e) = Fl.of (evE P env e) fun d => match d with
    | .non => .exc k .non
    | .int i => .exc k (.int i)
    | _ => .bad := by rw [evS] <;> rfl
theorem need_row_bad (n : Nat) {F : List Str} {E : List Er} {d : D} (h : BadR F E d) : C (n + 3) 44 [bD F E, d] = .exc 4 .non := by
  have h : C (n + 2) 43 [.tup [.tup (F.map .str), .tup (E.map eD)], d] = .ok (.bl false) := h n
  rw [e44]
  simp [b44, h]
end Pu
end
section
set_option maxRecDepth 100000
set_option maxHeartbeats 1000000
namespace Pu
open PySem PySem.Spec L2
end Pu
end
section
set_option maxRecDepth 100000
set_option maxHeartbeats 1000000
namespace Pu
open PySem PySem.Spec L2
theorem endS_snoc : ∀ (rs : List Er) (st s : List Str) (e : Er), endS st rs = some s → goodB s e.needs e.bars = true → endS st (rs ++ [e]) = some (behindL e s)
  | [], st, s, e, h, hg => by
    cases h
    show (if goodB st e.needs e.bars then endS (behindL e st) [] else none) = _
    rw [hg] <;> rfl
  | r :: rs, st, s, e, h, hg => by
    unfold endS at h
    cases q : goodB st r.needs r.bars with
    | false => rw [q] at h; cases h
    | true =>
      rw [q] at h
      show (if goodB st r.needs r.bars then endS (behindL r st) (rs ++ [e]) else none) = _
      rw [q]
      exact endS_snoc rs _ s e h hg
theorem bad_row_ok (n : Nat) (ns : List Int) (at_ : Int) (h0 : 0 ≤ at_) {F : List Str} {E : List Er} (hB : BookP F E) (h5 : ∀ e ∈ E, e.name.length ≠ 5) : ∃ d, C (n + 3) 51 [.scr ns, .int at_, bD F E] = .ok d ∧ BadR F E d := by
  have hz : ∀ k : Nat, k ≤ 1000 → k ≤ sizeLine := fun k h => sz_small (by omega)
  have e6 := hB.few
  have nz : nmB E (.str "zzzzz") = false := by
    show (findE E "zzzzz").isSome = false
    rw [find_none h5 len5] <;> rfl
  have sdn : ∀ d ∈ E.map fun e => D.str e.name, Sd d := fun d hd => by
    obtain ⟨e, _, rfl⟩ := List.mem_map.mp hd
    exact .str _
  have one : ∀ d, Sd d → nmB E d = false → BadR F E (.lst [d]) := fun d hd hn => badr_item (fun x hx => by simp at hx; subst hx; exact hd) (by simp) (by simp [hn])
  let base : List D := [.non, .tup (E.map fun e => .str e.name), .lst ((E.map fun e => .str e.name) ++ [.str "zzzzz"]), .lst [.str "zzzzz"], .lst [.non], .lst [.lst [.str "a"]], .str "a", .int 0, .lst [.int 1]]
  have hb : ∀ d ∈ base, BadR F E d := fun d hd => by
    simp only [base, List.mem_cons, List.not_mem_nil, or_false] at hd
    rcases hd with rfl | rfl | rfl | rfl | rfl | rfl | rfl | rfl | rfl
    · exact badr_not .non
    · exact badr_not (.tup _)
    · exact badr_item (fun x hx => (List.mem_append.mp hx).elim (sdn x) fun z => by simp at z; subst z; exact .str _) (by simp; omega) (by rw [List.all_append]; simp [nz])
    · exact one _ (.str _) nz
    · exact one _ .non rfl
    · exact one _ (.lst _) rfl
    · exact badr_not (.str _)
    · exact badr_not (.int _)
    · exact one _ (.int _) rfl
  have cm : compL (turn ⟨C (n + 2), libG⟩ [.sh (.scr ns), .sh (.int at_), .sh (bD F E), .em, .em, .em] (.ix (.var 4) (.int 0)) (.one 4) .none) (E.map eD) = .ok (E.map fun e => .str e.name) :=
    compL_of fun e he => by simp [turn, bindT, bindOne, isOwn]
  have z1 : E.length + 1 ≤ sizeLine := hz _ (by omega)
  rw [e51]
  cases E with
  | nil =>
    obtain ⟨k, d, h1, h2, h3⟩ := pick_ok n ns at_ h0 base (by simp [base])
    refine ⟨d, ?_, hb d h3⟩
    have q : eqD (.lst []) (.lst []) = .ok true := rfl
    simp [base] at h1 h2
    simp at cm
    have i1 : atI [tW F, D.tup []] 1 = some (.tup []) := rfl
    simp [b51, i1, cm, ownOf, setE, hz, q, freeze, Sl.un, h1, h2]
  | cons e E =>
    obtain ⟨k, d, h1, h2, h3⟩ := pick_ok n ns at_ h0 (base ++ [.lst (List.replicate 65 (.str e.name)), .tup [.str e.name]]) (by simp [base])
    refine ⟨d, ?_, ?_⟩
    · have q : eqD (.lst ((e :: E).map fun e => .str e.name)) (.lst []) = .ok false := by
        have : ck 8 (D.lst ((e :: E).map fun e => .str e.name)).py = true := by simp [Function.comp_def]
        unfold eqD
        rw [this] <;> rfl
      have ct : cutD ((e :: E).map fun e => D.str e.name) none (some 1) = [.str e.name] := by
        rw [cut_take _ _ (by decide) (by simp; omega)]; rfl
      have a0 : atI ((e :: E).map fun e => D.str e.name) 0 = some (.str e.name) := by rw [List.map_cons, atI_0]
      have rp : binD .mul (.lst [D.str e.name]) (.int 65) = .ok (.lst (List.replicate 65 (.str e.name))) := by rw [mul_l, if_pos (by simp), List.flatten_replicate_singleton] <;> rfl
      have z1' : ((e :: E).map fun e => D.str e.name).length + 1 ≤ sizeLine := by rw [List.length_map]; exact z1
      simp only [base] at h1 h2
      generalize hN : ((e :: E).map fun e => D.str e.name) = N at *
      generalize hR : List.replicate 65 (D.str e.name) = Rp at *
      have hc : compL (turn ⟨C (n + 2), libG⟩ [.sh (.scr ns), .sh (.int at_), .sh (bD F (e :: E)), .em, .em, .em] (.ix (.var 4) (.int 0)) (.one 4) .none) (eD e :: E.map eD) = .ok N := cm
      simp at h1 h2
      have i1 : atI [tW F, D.tup (eD e :: E.map eD)] 1 = some (.tup (eD e :: E.map eD)) := rfl
      simp [-mul_l, b51, i1, hc, ownOf, setE, hz, q, ct, a0, rp, z1', freeze, Sl.un, h1, h2]
    · rcases List.mem_append.mp h3 with z | z
      · exact hb d z
      · simp only [List.mem_cons, List.not_mem_nil, or_false] at z
        rcases z with rfl | rfl
        · exact badr_long (by simp)
        · exact badr_not (.tup _)
end Pu
end
section
set_option maxRecDepth 100000
set_option maxHeartbeats 1000000
namespace Pu
open PySem PySem.Spec L2
def optW : Option (List Str × List Str) → D
  | some w => wD w.1 w.2
  | none => .non
end Pu
end
section
set_option maxRecDepth 100000
set_option maxHeartbeats 1000000
namespace Pu
open PySem PySem.Spec L2
@[simp] theorem isN_optW (o) : isN (optW o) = !o.isSome := by cases o <;> rfl
theorem rise_sub : ∀ {xs F : List Str}, Rise xs → Rise F → (∀ x ∈ xs, x ∈ F) → xs.Sublist F
  | [], F, _, _, _ => List.nil_sublist _
  | x :: xs, [], _, _, h => nomatch h x List.mem_cons_self
  | x :: xs, f :: F, hx, hF, h => by
    have nx := rise_nodup hx
    have nF := rise_nodup hF
    rcases List.mem_cons.mp (h x List.mem_cons_self) with q | q
    · subst q
      refine List.Sublist.cons₂ _ (rise_sub (List.Pairwise.of_cons hx) (List.Pairwise.of_cons hF) fun y hy => ?_)
      rcases List.mem_cons.mp (h y (List.mem_cons_of_mem _ hy)) with z | z
      · subst z
        exact ((List.nodup_cons.mp nx).1 hy).elim
      · exact z
    · refine List.Sublist.cons _ (rise_sub hx (List.Pairwise.of_cons hF) fun y hy => ?_)
      rcases List.mem_cons.mp (h y hy) with z | z
      · exfalso
        subst z
        rcases List.mem_cons.mp hy with e' | e
        · subst e'; exact (List.nodup_cons.mp nF).1 q
        · have a := (List.pairwise_cons.mp hx).1 _ e
          have b := (List.pairwise_cons.mp hF).1 _ q
          rw [sLt_asymm a] at b
          cases b
      · exact z
end Pu
end
section
set_option maxRecDepth 100000
set_option maxHeartbeats 1000000
namespace Pu
open PySem PySem.Spec L2
def rm (k : Nat) (l : List Er) : List Er := l.take k ++ l.drop (k + 1)
def pass (P : List Er → Bool) : Nat → List Er → List Er
  | 0, l => l
  | k + 1, l => pass P k (if P (rm k l) then rm k l else l)
@[simp] theorem i_rngd (P : Pr) (env : Env) (a b) : evI P env (.rngd a b) = (evE P env a).bind fun x => (evE P env b).bind fun y => match x, y with | .int i, .int j => if okR i j then .ok (rngD i j) else .bad | _, _ => .bad := by rw [evI] <;> rfl
end Pu
end
section
set_option maxRecDepth 100000
set_option maxHeartbeats 1000000
namespace Pu
open PySem PySem.Spec L2
theorem SubP.trans {F G H : List Str} (h : SubP F G) (h' : SubP G H) : SubP F H := ⟨h'.1, fun x hx => h.2 x (h'.2 x hx)⟩
end Pu
end
section
set_option maxRecDepth 100000
set_option maxHeartbeats 1000000
namespace Pu
open PySem PySem.Spec L2
def badE : List D := [.tup [.str "X", .tup [], .tup [], .tup [], .tup [], .int 0], .tup [.str "x", .tup [], .tup [], .tup [], .tup []], .lst [.str "x", .tup [], .tup [], .tup [], .tup [], .int 0], .non, .tup [.str "x", .tup [], .tup [], .tup [], .tup [], .int 10], .tup [.str "x", .tup [], .tup [], .tup [], .tup [], .int (-1)], .tup [.str "x", .tup [], .tup [], .tup [], .tup [], .bl true], .tup [.str "x", .lst [.str "a"], .tup [], .tup [], .tup [], .int 0], .tup [.str "x", .tup [.str "b", .str "a"], .tup [], .tup [], .tup [], .int 0], .tup [.str "x", .tup [.str "a", .str "a"], .tup [], .tup [], .tup [], .int 0], .tup [.str "x", .tup [.str "a"], .tup [.str "a"], .tup [], .tup [], .int 0], .tup [.str "x", .tup [], .tup [], .tup [.str "a"], .tup [.str "a"], .int 0], .tup [.str "x", .tup [], .tup [], .tup [], .non, .int 0], .tup [.str "x", .tup [.str "zz"], .tup [], .tup [], .tup [], .int 0], .tup [.str "x", .tup [], .tup [], .tup [], .tup [], .int 0, .int 0], .tup [.str "x", .tup [], .tup [.str "a", .int 1], .tup [], .tup [], .int 0]]
def badBk (b : D) : List D := [.tup [.tup [.str "a", .str "b"], .tup [b]], .tup [.tup [.str "a", .str "b"], .tup [.tup [.str "x", .tup [], .tup [], .tup [], .tup [], .int 0], b]], .non, .tup [.tup [.str "a", .str "b"], .tup [.tup [.str "x", .tup [], .tup [], .tup [], .tup [], .int 0], .tup [.str "x", .tup [], .tup [], .tup [], .tup [], .int 0]]], .tup [.tup [.str "a", .str "b"], .tup [.tup [.str "p", .tup [], .tup [], .tup [], .tup [], .int 0], .tup [.str "q", .tup [], .tup [], .tup [], .tup [], .int 0], .tup [.str "r", .tup [], .tup [], .tup [], .tup [], .int 0], .tup [.str "s", .tup [], .tup [], .tup [], .tup [], .int 0], .tup [.str "t", .tup [], .tup [], .tup [], .tup [], .int 0], .tup [.str "u", .tup [], .tup [], .tup [], .tup [], .int 0], .tup [.str "v", .tup [], .tup [], .tup [], .tup [], .int 0]]], .tup [.tup [.str "a", .str "b"], .lst [.tup [.str "x", .tup [], .tup [], .tup [], .tup [], .int 0]]], .tup [.tup [.str "a", .str "b"]], .lst [.tup [.str "a", .str "b"], .tup []], .non, .tup [.tup [.str "b", .str "a"], .tup []], .tup [.tup [.str "a", .str "a"], .tup []], .tup [.lst [.str "a"], .tup []], .tup [.tup [.str "A"], .tup []], .tup [.tup [.str "a", .str "b", .str "c", .str "d", .str "e", .str "f", .str "g"], .tup []], .tup [.tup [.str "a", .str "b"], .tup [], .tup []], .tup [.tup [.str ""], .tup []]]
def b15_t1 : SL := (.cons (.ret (.ix (.var 3) (.call 9 (.cons (.var 0) (.cons (.var 1) (.cons (.int 16) .nil)))))) .nil)
def b16_t2 : SL := (.cons (.ret (.ix (.var 7) (.ix (.lst (.cons (.int 0) (.cons (.int 0) (.cons (.int 0) (.cons (.int 1) (.cons (.int 1) (.cons (.int 3) (.cons (.int 4) (.cons (.int 5) (.cons (.int 6) (.cons (.int 7) (.cons (.int 8) (.cons (.int 9) (.cons (.int 10) (.cons (.int 11) (.cons (.int 12) (.cons (.int 13) (.cons (.int 14) (.cons (.int 15) .nil))))))))))))))))))) (.call 9 (.cons (.var 0) (.cons (.var 1) (.cons (.int 18) .nil))))))) .nil)
def b16_t1 : SL := (.cons (.set 5 (.b1 .tuple (.comp (.bin .add (.tup (.cons (.var 6) .nil)) (.sl (.var 3) (.some (.int 1)) .none)) (.one 6) (.seq (.lst (.cons (.str "p") (.cons (.str "q") (.cons (.str "r") (.cons (.str "s") (.cons (.str "t") (.cons (.str "u") (.cons (.str "v") .nil))))))))) .none))) (.cons (.own 7 (.lst (.cons (.tup (.cons (.var 2) (.cons (.tup (.cons (.var 4) .nil)) .nil))) (.cons (.tup (.cons (.var 2) (.cons (.tup (.cons (.var 3) (.cons (.var 4) .nil))) .nil))) (.cons .non .nil))))) (.cons (.ext 7 (.lst (.cons (.tup (.cons (.var 2) (.cons (.tup (.cons (.var 3) (.cons (.var 3) .nil))) .nil))) (.cons (.tup (.cons (.var 2) (.cons (.var 5) .nil))) (.cons (.tup (.cons (.var 2) (.cons (.lst (.cons (.var 3) .nil)) .nil))) (.cons (.tup (.cons (.var 2) .nil)) (.cons (.lst (.cons (.var 2) (.cons (.tup .nil) .nil))) (.cons .non (.cons (.tup (.cons (.tup (.cons (.str "b") (.cons (.str "a") .nil))) (.cons (.tup .nil) .nil))) .nil))))))))) (.cons (.ext 7 (.lst (.cons (.tup (.cons (.tup (.cons (.str "a") (.cons (.str "a") .nil))) (.cons (.tup .nil) .nil))) (.cons (.tup (.cons (.lst (.cons (.str "a") .nil)) (.cons (.tup .nil) .nil))) (.cons (.tup (.cons (.tup (.cons (.str "A") .nil)) (.cons (.tup .nil) .nil))) (.cons (.tup (.cons (.b1 .tups (.str "abcdefg")) (.cons (.tup .nil) .nil))) (.cons (.bin .add (.tup (.cons (.var 2) (.cons (.tup .nil) .nil))) (.tup (.cons (.tup .nil) .nil))) (.cons (.tup (.cons (.tup (.cons (.str "") .nil)) (.cons (.tup .nil) .nil))) .nil)))))))) (.fz 7 b16_t2)))))
abbrev goodE : D := .tup [.str "x", .tup [], .tup [], .tup [], .tup [], .int 0]
theorem pre15 (P : Pr) (x0 x1 : D) : evSL P [.sh x0, .sh x1, .em, .em] b15 = evSL P [.sh x0, .sh x1, .sh goodE, .sh (.lst badE)] b15_t1 := rfl
theorem pre16 (P : Pr) (x0 x1 b : D) : evSL P [.sh x0, .sh x1, .sh (.tup [.str "a", .str "b"]), .sh goodE, .sh b, .em, .em, .em] b16_t1 = evSL P [.sh x0, .sh x1, .sh (.tup [.str "a", .str "b"]), .sh goodE, .sh b, .sh (.tup (([("p" : Str), "q", "r", "s", "t", "u", "v"] : List Str).map fun x => .tup [.str x, .tup [], .tup [], .tup [], .tup [], .int 0])), .em, .sh (.lst (badBk b))] b16_t2 := rfl
end Pu
end
section
set_option maxRecDepth 100000
set_option maxHeartbeats 1000000
namespace Pu
open PySem PySem.Spec L2
theorem pigeon {α : Type} [DecidableEq α] : ∀ {L M : List α}, L.Nodup → (∀ x ∈ L, x ∈ M) → L.length ≤ M.length
  | [], _, _, _ => (Nat.zero_le _)
  | a :: L, M, h, hm => by
    (obtain ⟨h1, h2⟩ := List.nodup_cons.mp h)
    have ha := hm a List.mem_cons_self
    have ih := pigeon (L := L) (M := M.erase a) h2 fun x hx => (List.mem_erase_of_ne (fun e => h1 (by rw [← e]; exact hx))).mpr (hm x (List.mem_cons_of_mem _ hx))
    rw [List.length_erase_of_mem ha] at ih
    have : 0 < M.length := List.length_pos_of_mem ha
    rw [List.length_cons]
    omega
def subs : List Str → List (List Str)
  | [] => [[]]
  | f :: F => subs F ++ (subs F).map (f :: ·)
theorem subs_len : ∀ F : List Str, (subs F).length = 2 ^ F.length
  | [] => rfl
  | f :: F => by
    have ih := subs_len F
    show (subs F ++ (subs F).map (f :: ·)).length = _
    rw [List.length_append, List.length_map, ih, List.length_cons, Nat.pow_succ]
    omega
theorem subs_mem : ∀ {F s : List Str}, s.Sublist F → s ∈ subs F
  | [], s, h => by rw [List.sublist_nil.mp h]; exact List.mem_cons_self
  | f :: F, s, h => by
    cases h with
    | cons _ h => exact List.mem_append_left _ (subs_mem h)
    | cons_cons _ h => exact List.mem_append_right _ (List.mem_map.mpr ⟨_, subs_mem h, rfl⟩)
theorem few_states {F : List Str} (hF : Rise F) (hl : F.length ≤ 6) {L : List (List Str)} (hn : L.Nodup) (hL : ∀ s ∈ L, SubP F s) : L.length ≤ 64 := by
  have h := pigeon hn fun s hs => subs_mem (rise_sub (hL s hs).1 hF (hL s hs).2)
  rw [subs_len] at h
  have : 2 ^ F.length ≤ 2 ^ 6 := Nat.pow_le_pow_right (by decide) hl
  have e : 2 ^ 6 = 64 := rfl
  omega
structure Nd where
  s : List Str
  lev : Nat
  back : Option (List Str × Str)
  deriving DecidableEq
abbrev nexts (E : List Er) (s : List Str) : List (Er × List Str) := (E.filter fun e => goodB s e.needs e.bars).map fun e => (e, behindL e s)
def exp1 (x : Nd) (acc : List Nd) (p : Er × List Str) : List Nd := if acc.any (fun y => decide (y.s = p.2)) then acc else acc ++ [⟨p.2, x.lev + 1, some (x.s, p.1.name)⟩]
def expand (E : List Er) (acc : List Nd) (k : Nat) : List Nd := match acc[k]? with
  | some x => (nexts E x.s).foldl (exp1 x) acc
  | none => acc
def bfs (E : List Er) : Nat → Nat → List Nd → List Nd
  | 0, _, acc => acc
  | f + 1, k, acc => if k < acc.length then bfs E f (k + 1) (expand E acc k) else acc
def met (E : List Er) (st : List Str) : List Nd := bfs E 64 0 [⟨st, 0, none⟩]
end Pu
end
section
set_option maxRecDepth 100000
set_option maxHeartbeats 1000000
namespace Pu
open PySem PySem.Spec L2
end Pu
end
section
set_option maxRecDepth 100000
set_option maxHeartbeats 1000000
namespace Pu
open PySem PySem.Spec L2
end Pu
end
section
set_option maxRecDepth 100000
set_option maxHeartbeats 1000000
namespace Pu
open PySem PySem.Spec L2
structure Go (F : List Str) (k : Nat) (x : Nd) (acc : List Nd) : Prop where
  at_ : acc[k]? = some x
  nd : (acc.map (·.s)).Nodup
  sub : ∀ y ∈ acc, SubP F y.s
theorem Go.le {F : List Str} {k : Nat} {x : Nd} {acc : List Nd} (hF : FactsP F) (hl : F.length ≤ 6) (h : Go F k x acc) : acc.length ≤ 64 := by
  have := few_states hF.1 hl h.nd (fun s hs => by obtain ⟨x, hx, rfl⟩ := List.mem_map.mp hs; exact h.sub x hx)
  rwa [List.length_map] at this
end Pu
end
section
set_option maxRecDepth 100000
set_option maxHeartbeats 1000000
namespace Pu
open PySem PySem.Spec L2
end Pu
end
section
set_option maxRecDepth 100000
set_option maxHeartbeats 1000000
namespace Pu
open PySem PySem.Spec L2
end Pu
end
section
set_option maxRecDepth 100000
set_option maxHeartbeats 1000000
namespace Pu
open PySem PySem.Spec L2
end Pu
end
section
set_option maxRecDepth 100000
set_option maxHeartbeats 1000000
namespace Pu
open PySem PySem.Spec L2
end Pu
end
section
set_option maxRecDepth 100000
set_option maxHeartbeats 1000000
namespace Pu
open PySem PySem.Spec L2
end Pu
end
section
set_option maxRecDepth 100000
set_option maxHeartbeats 1000000
namespace Pu
open PySem PySem.Spec L2
end Pu
end
section
set_option maxRecDepth 100000
set_option maxHeartbeats 1000000
namespace Pu
open PySem PySem.Spec L2
end Pu
end
section
set_option maxRecDepth 100000
set_option maxHeartbeats 1000000
namespace Pu
open PySem PySem.Spec L2
abbrev nx (E : List Er) (s : List Str) : List (List Str) := (nexts E s).map (·.2)
end Pu
end
section
set_option maxRecDepth 100000
set_option maxHeartbeats 1000000
namespace Pu
open PySem PySem.Spec L2
structure Fine (F : List Str) (L : List (List Str)) : Prop where
  nd : L.Nodup
  sub : ∀ s ∈ L, SubP F s
theorem Fine.le {F : List Str} {L : List (List Str)} (hF : FactsP F) (hl : F.length ≤ 6) (h : Fine F L) : L.length ≤ 64 := few_states hF.1 hl h.nd h.sub
end Pu
end
section
set_option maxRecDepth 100000
set_option maxHeartbeats 1000000
namespace Pu
open PySem PySem.Spec L2
section
end
end Pu
end
section
set_option maxRecDepth 100000
set_option maxHeartbeats 1000000
namespace Pu
open PySem PySem.Spec L2
def top : List Nat → Nat
  | [] => 0
  | x :: xs => max x (top xs)
theorem top_ge : ∀ {xs : List Nat} {x : Nat}, x ∈ xs → x ≤ top xs
  | y :: xs, x, h => by
    show x ≤ max y (top xs)
    (rcases List.mem_cons.mp h with z | z)
    · subst z; exact Nat.le_max_left _ _
    · exact Nat.le_trans (top_ge z) (Nat.le_max_right _ _)
end Pu
end
section
set_option maxRecDepth 100000
set_option maxHeartbeats 1000000
namespace Pu
open PySem PySem.Spec L2
end Pu
end
section
set_option maxRecDepth 100000
set_option maxHeartbeats 1000000
namespace Pu
open PySem PySem.Spec L2
end Pu
end
section
set_option maxRecDepth 100000
set_option maxHeartbeats 1000000
namespace Pu
open PySem PySem.Spec L2
abbrev PP := Str × Str
end Pu
end
section
set_option maxRecDepth 100000
set_option maxHeartbeats 1000000
namespace Pu
open PySem PySem.Spec L2
end Pu
end
section
set_option maxRecDepth 100000
set_option maxHeartbeats 1000000
namespace Pu
open PySem PySem.Spec L2
end Pu
end
section
set_option maxRecDepth 100000
set_option maxHeartbeats 1000000
namespace Pu
open PySem PySem.Spec L2
end Pu
end
section
set_option maxRecDepth 100000
set_option maxHeartbeats 1000000
namespace Pu
open PySem PySem.Spec L2
end Pu
end
section
set_option maxRecDepth 100000
set_option maxHeartbeats 1000000
namespace Pu
open PySem PySem.Spec L2
end Pu
end
section
set_option maxRecDepth 100000
set_option maxHeartbeats 1000000
namespace Pu
open PySem PySem.Spec L2
end Pu
end
section
set_option maxRecDepth 100000
set_option maxHeartbeats 1000000
namespace Pu
open PySem PySem.Spec L2
section
variable {α : Type}
abbrev keysV (L : List (List Str × α)) : List (List Str) := L.map (·.1)
def getV (L : List (List Str × α)) (f : List Str) : Option α := (L.find? fun p => decide (p.1 = f)).map (·.2)
end
abbrev PM := List (List Str × Int)
structure Ed where
  u : List Str
  w : Int
  v : List Str
def LeV (M M' : PM) : Prop := ∀ s x, getV M s = some x → ∃ y, y ≤ x ∧ getV M' s = some y
theorem LeV.refl (M : PM) : LeV M M := fun _ x h => ⟨x, Int.le_refl _, h⟩
theorem LeV.trans {A B C : PM} (h1 : LeV A B) (h2 : LeV B C) : LeV A C := fun s x h => by
  obtain ⟨y, a1, a2⟩ := h1 s x h
  obtain ⟨z, b1, b2⟩ := h2 s y a2
  exact ⟨z, by omega, b2⟩
structure Gr (N : List Str → Prop) (IsE : Ed → Prop) (Src : List Str → Prop) : Prop where
  few : ∀ L : List (List Str), L.Nodup → (∀ s ∈ L, N s) → L.length ≤ 64
  w : ∀ e, IsE e → 0 ≤ e.w ∧ e.w ≤ 9
  to : ∀ e, IsE e → N e.u → N e.v
  src : ∀ s, Src s → N s
inductive PtL (IsE : Ed → Prop) (Src : List Str → Prop) : List (List Str) → Int → List Str → Prop
  | base (s : List Str) : Src s → PtL IsE Src [s] 0 s
  | step {tr : List (List Str)} {c : Int} (e : Ed) : PtL IsE Src tr c e.u → IsE e → PtL IsE Src (e.v :: tr) (c + e.w) e.v
structure OkV (N : List Str → Prop) (IsE : Ed → Prop) (Src : List Str → Prop) (M : PM) : Prop where
  nd : (keysV M).Nodup
  n : ∀ s ∈ keysV M, N s
  way : ∀ s x, getV M s = some x → ∃ tr, PtL IsE Src tr x s
  bd : ∀ s x, getV M s = some x → 0 ≤ x ∧ x ≤ 9 * (M.length : Int)
section
variable {N : List Str → Prop} {IsE : Ed → Prop} {Src : List Str → Prop}
theorem OkV.len (G : Gr N IsE Src) {M : PM} (h : OkV N IsE Src M) : M.length ≤ 64 := by
  have := G.few _ h.nd h.n
  rwa [List.length_map] at this
theorem OkV.lt (G : Gr N IsE Src) {M : PM} (h : OkV N IsE Src M) {s : List Str} {x : Int} (hx : getV M s = some x) : x + 9 < 1000000 := by
  have h1 := h.len G
  have h2 := (h.bd s x hx).2
  omega
end
end Pu
end
section
set_option maxRecDepth 100000
set_option maxHeartbeats 1000000
namespace Pu
open PySem PySem.Spec L2
def costL (rs : List Er) : Int := (rs.map (·.price)).sum
end Pu
end
section
set_option maxRecDepth 100000
set_option maxHeartbeats 1000000
namespace Pu
open PySem PySem.Spec L2
end Pu
end
section
set_option maxRecDepth 100000
set_option maxHeartbeats 1000000
namespace Pu
open PySem PySem.Spec L2
end Pu
end
section
set_option maxRecDepth 100000
set_option maxHeartbeats 1000000
namespace Pu
open PySem PySem.Spec L2
end Pu
end
section
set_option maxRecDepth 100000
set_option maxHeartbeats 1000000
namespace Pu
open PySem PySem.Spec L2
end Pu
end
section
set_option maxRecDepth 100000
set_option maxHeartbeats 1000000
namespace Pu
open PySem PySem.Spec L2
abbrev DV := Int × Option (List Str × Str)
abbrev DM := List (List Str × DV)
inductive Tr (E : List Er) (st : List Str) (M : DM) (Dn : List (List Str)) : List Str → List Er → Prop
  | nil : st ∈ Dn → getV M st = some (0, none) → Tr E st M Dn st []
  | snoc {d : List Str} {rs : List Er} (e : Er) (c : Int) : Tr E st M Dn d rs → e ∈ E → goodB d e.needs e.bars = true → behindL e d ∈ Dn → getV M (behindL e d) = some (c, some (d, e.name)) → Tr E st M Dn (behindL e d) (rs ++ [e])
theorem Tr.row {E : List Er} {st : List Str} {M : DM} {Dn : List (List Str)} {s : List Str} {rs : List Er} (h : Tr E st M Dn s rs) : (∀ e ∈ rs, e ∈ E) ∧ endS st rs = some s := by
  induction h with
  | nil h1 h2 => exact ⟨fun _ z => (nomatch z), rfl⟩
  | snoc e c _ h2 h3 h4 h5 ih => exact ⟨fun y hy => (List.mem_append.mp hy).elim (ih.1 y) fun z => by rw [List.mem_singleton.mp z]; exact h2, endS_snoc _ st _ e ih.2 h3⟩
structure Dj (F : List Str) (E : List Er) (st : List Str) (M : DM) (O Dn Dc : List (List Str)) : Prop where
  kn : (keysV M).Nodup
  sub : ∀ s ∈ keysV M, SubP F s
  on : O.Nodup
  dn : Dn.Nodup
  part : ∀ s, s ∈ keysV M ↔ s ∈ O ∨ s ∈ Dn
  disj : ∀ s ∈ O, s ∉ Dn
  le : ∀ d ∈ Dn, ∀ o ∈ O, ∀ x y, getV M d = some x → getV M o = some y → x.1 ≤ y.1
  cl : ∀ d ∈ Dc, ∀ e ∈ E, goodB d e.needs e.bars = true → ∀ x, getV M d = some x → ∃ y, getV M (behindL e d) = some y ∧ y.1 ≤ x.1 + e.price
  tr : ∀ d ∈ Dn, ∃ rs x, getV M d = some x ∧ Tr E st M Dn d rs ∧ rs.length < Dn.length ∧ costL rs = x.1
  op : ∀ o ∈ O, (Dn = [] ∧ o = st ∧ O = [st] ∧ getV M o = some (0, none)) ∨ ∃ d ∈ Dn, ∃ e ∈ E, ∃ x, goodB d e.needs e.bars = true ∧ o = behindL e d ∧ getV M d = some x ∧ getV M o = some (x.1 + e.price, some (d, e.name))
  st0 : ∃ x, getV M st = some x ∧ x.1 = 0
  dc : ∀ d ∈ Dc, d ∈ Dn
theorem Dj.few {F : List Str} {E : List Er} (hB : BookP F E) {st : List Str} {M : DM} {O Dn Dc : List (List Str)} (h : Dj F E st M O Dn Dc) : M.length ≤ 64 ∧ O.length ≤ 64 ∧ Dn.length ≤ 64 := by
  refine ⟨?_, few_states hB.facts.1 hB.len h.on fun s hs => h.sub s ((h.part s).mpr (.inl hs)), few_states hB.facts.1 hB.len h.dn fun s hs => h.sub s ((h.part s).mpr (.inr hs))⟩
  have := few_states hB.facts.1 hB.len h.kn h.sub
  rwa [List.length_map] at this
end Pu
end
section
set_option maxRecDepth 100000
set_option maxHeartbeats 1000000
namespace Pu
open PySem PySem.Spec L2
end Pu
end
section
set_option maxRecDepth 100000
set_option maxHeartbeats 1000000
namespace Pu
open PySem PySem.Spec L2
end Pu
end
section
set_option maxRecDepth 100000
set_option maxHeartbeats 1000000
namespace Pu
open PySem PySem.Spec L2
end Pu
end
section
set_option maxRecDepth 100000
set_option maxHeartbeats 1000000
namespace Pu
open PySem PySem.Spec L2
end Pu
end
section
set_option maxRecDepth 100000
set_option maxHeartbeats 1000000
namespace Pu
open PySem PySem.Spec L2
end Pu
end
section
set_option maxRecDepth 100000
set_option maxHeartbeats 1000000
namespace Pu
open PySem PySem.Spec L2
end Pu
end
section
set_option maxRecDepth 100000
set_option maxHeartbeats 1000000
namespace Pu
open PySem PySem.Spec L2
end Pu
end
section
set_option maxRecDepth 100000
set_option maxHeartbeats 1000000
namespace Pu
open PySem PySem.Spec L2
abbrev EN := Er × Nat
def lateE (e : Er) (acc : List EN) : Nat := top ((acc.filter fun p => !besB e p.1).map fun p => p.2 + 1)
def numsF (acc : List EN) (e : Er) : List EN := acc ++ [(e, lateE e acc)]
def numsL (rs : List Er) : List EN := rs.foldl numsF []
theorem nums_snoc (rs : List Er) (e : Er) : numsL (rs ++ [e]) = numsL rs ++ [(e, lateE e (numsL rs))] := by
  unfold numsL
  (rw [List.foldl_append] <;> rfl)
theorem nums_fst (rs : List Er) : (numsL rs).map (·.1) = rs := by
  have go : ∀ (n : Nat) (rs : List Er), rs.length = n → (numsL rs).map (·.1) = rs := fun n => by
    induction n with
    | zero => intro rs h; rw [List.length_eq_zero_iff.mp h] <;> rfl
    | succ n ih =>
      intro rs h
      obtain ⟨qs, e, rfl⟩ : ∃ qs e, rs = qs ++ [e] := ⟨rs.dropLast, rs.getLast (by intro z; rw [z] at h; cases h), (List.dropLast_concat_getLast _).symm⟩
      rw [nums_snoc, List.map_append, ih qs (by rw [List.length_append] at h; simp at h; omega)] <;> rfl
  exact go _ rs rfl
theorem nums_len (rs : List Er) : (numsL rs).length = rs.length := by
  have := congrArg List.length (nums_fst rs)
  rwa [List.length_map] at this
theorem bes_comm (a b : Er) : besB a b = besB b a := by
  unfold besB
  cases apartB a.makes b.needs <;> cases apartB a.ends b.bars <;> cases apartB b.makes a.needs <;> cases apartB b.ends a.bars <;> cases distB a b <;> cases distB b a <;> rfl
def turnL (rs : List Er) (t : Nat) : List Er := ((numsL rs).filter fun p => decide (p.2 = t)).map (·.1)
end Pu
end
section
set_option maxRecDepth 100000
set_option maxHeartbeats 1000000
namespace Pu
open PySem PySem.Spec L2
end Pu
end
section
set_option maxRecDepth 100000
set_option maxHeartbeats 1000000
namespace Pu
open PySem PySem.Spec L2
end Pu
end
section
set_option maxRecDepth 100000
set_option maxHeartbeats 1000000
namespace Pu
open PySem PySem.Spec L2
end Pu
end
section
set_option maxRecDepth 100000
set_option maxHeartbeats 1000000
namespace Pu
open PySem PySem.Spec L2
end Pu
end
section
set_option maxRecDepth 100000
set_option maxHeartbeats 1000000
namespace Pu
open PySem PySem.Spec L2
abbrev Gn := List (Str × Int)
structure GnP (F : List Str) (g : Gn) : Prop where
  mem : ∀ p ∈ g, p.1 ∈ F
  nd : (g.map (·.1)).Nodup
  bd : ∀ p ∈ g, -99 ≤ p.2 ∧ p.2 ≤ 99
theorem GnP.len {F : List Str} {g : Gn} (h : GnP F g) (hF : F.length ≤ 6) : g.length ≤ 6 := by
  have := nodup_len h.nd fun x hx => by
    obtain ⟨p, hp, rfl⟩ := List.mem_map.mp hx
    exact h.mem p hp
  rw [List.length_map] at this
  omega
end Pu
end
section
set_option maxRecDepth 100000
set_option maxHeartbeats 1000000
namespace Pu
open PySem PySem.Spec L2
end Pu
end
section
set_option maxRecDepth 100000
set_option maxHeartbeats 1000000
namespace Pu
open PySem PySem.Spec L2
end Pu
end
section
set_option maxRecDepth 100000
set_option maxHeartbeats 1000000
namespace Pu
open PySem PySem.Spec L2
structure Sm (rs qs : List Er) : Prop where
  perm : rs.Perm qs
  ends : ∀ st, endS st rs = endS st qs
theorem endS_bind : ∀ (rs qs : List Er) (st : List Str), endS st (rs ++ qs) = (endS st rs).bind fun s => endS s qs
  | [], qs, st => rfl
  | e :: rs, qs, st => by
    have ih := endS_bind rs qs (behindL e st)
    show (if goodB st e.needs e.bars then endS (behindL e st) (rs ++ qs) else none) = (if goodB st e.needs e.bars then endS (behindL e st) rs else none).bind _
    cases goodB st e.needs e.bars with
    | true => exact ih
    | false => rfl
theorem Sm.refl (rs : List Er) : Sm rs rs := ⟨.refl _, fun _ => rfl⟩
theorem Sm.trans {a b c : List Er} (h : Sm a b) (k : Sm b c) : Sm a c := ⟨h.perm.trans k.perm, fun st => (h.ends st).trans (k.ends st)⟩
theorem Sm.symm {a b : List Er} (h : Sm a b) : Sm b a := ⟨h.perm.symm, fun st => (h.ends st).symm⟩
theorem Sm.app {a b c d : List Er} (h : Sm a b) (k : Sm c d) : Sm (a ++ c) (b ++ d) := ⟨h.perm.append k.perm, fun st => by
  rw [endS_bind, endS_bind, h.ends st]
  cases endS st b with
  | none => rfl
  | some s => exact k.ends s⟩
theorem two_step (a b : Er) (st : List Str) : endS st [a, b] = (stepS a st).bind fun f => stepS b f := by
  rw [stepS_eq]
  show (if goodB st a.needs a.bars then (if goodB (behindL a st) b.needs b.bars then some (behindL b (behindL a st)) else none) else none) = _
  cases goodB st a.needs a.bars with
  | false => rfl
  | true => exact (stepS_eq b (behindL a st)).symm
theorem Sm.swap {a b : Er} (h : besB a b = true) : Sm [a, b] [b, a] := by
  refine ⟨List.Perm.swap b a [], fun st => ?_⟩
  rw [two_step, two_step]
  have h' : besB b a = true := by rw [bes_comm]; exact h
  cases ha : stepS a st with
  | none =>
    cases hb : stepS b st with
    | none => rfl
    | some s => exact (swap_none h' hb ha).symm
  | some f =>
    cases hb : stepS b st with
    | none => exact swap_none h ha hb
    | some s =>
      obtain ⟨r, r1, r2⟩ := swap_ok h ha hb
      exact r1.trans r2.symm
theorem Sm.of_perm {xs ys : List Er} (p : xs.Perm ys) : xs.Pairwise (fun a b => besB a b = true) → Sm xs ys := by
  induction p with
  | nil => exact fun _ => Sm.refl _
  | @cons x l₁ l₂ _ ih => exact fun h => (Sm.refl [x]).app (ih (List.pairwise_cons.mp h).2)
  | swap x y l => exact fun h => (Sm.swap ((List.pairwise_cons.mp h).1 x List.mem_cons_self)).app (Sm.refl l)
  | @trans l₁ l₂ l₃ p1 _ ih1 ih2 => exact fun h => (ih1 h).trans (ih2 ((List.Perm.pairwise_iff (fun {a b} (q : besB a b = true) => by rw [bes_comm]; exact q) p1).mp h))
def flatK (rs : List Er) : Nat → List Er
  | 0 => []
  | k + 1 => flatK rs k ++ turnL rs k
theorem turn_snoc (rs : List Er) (e : Er) (t : Nat) : turnL (rs ++ [e]) t = turnL rs t ++ if lateE e (numsL rs) = t then [e] else [] := by
  unfold turnL
  rw [nums_snoc, List.filter_append, List.map_append]
  congr 1
  by_cases h : lateE e (numsL rs) = t
  · rw [if_pos h, List.filter_cons_of_pos (by simp [h])]; rfl
  · rw [if_neg h, List.filter_cons_of_neg (by simp [h])]; rfl
theorem late_ge {e : Er} {acc : List EN} {p : EN} (hp : p ∈ acc) (hb : besB e p.1 = false) : p.2 + 1 ≤ lateE e acc :=
  top_ge (List.mem_map.mpr ⟨p, List.mem_filter.mpr ⟨hp, by rw [hb] <;> rfl⟩, rfl⟩)
theorem mem_turn {rs : List Er} {t : Nat} {x : Er} (h : x ∈ turnL rs t) : ∃ p ∈ numsL rs, p.1 = x ∧ p.2 = t := by
  (obtain ⟨p, hp, e⟩ := List.mem_map.mp h)
  obtain ⟨h1, h2⟩ := List.mem_filter.mp hp
  exact ⟨p, h1, e, of_decide_eq_true h2⟩
theorem snoc_rec {P : List Er → Prop} (h0 : P []) (h1 : ∀ rs e, P rs → P (rs ++ [e])) : ∀ rs, P rs := fun rs => by
  have go : ∀ (n : Nat) (rs : List Er), rs.length = n → P rs := fun n => by
    induction n with
    | zero => intro rs h; rw [List.length_eq_zero_iff.mp h]; exact h0
    | succ n ih =>
      intro rs h
      obtain ⟨qs, e, rfl⟩ : ∃ qs e, rs = qs ++ [e] := ⟨rs.dropLast, rs.getLast (by intro z; rw [z] at h; cases h), (List.dropLast_concat_getLast _).symm⟩
      exact h1 qs e (ih qs (by rw [List.length_append] at h; simp at h; omega))
  exact go _ rs rfl
theorem turn_pair (rs : List Er) (t : Nat) : (turnL rs t).Pairwise fun a b => besB a b = true := by
  refine snoc_rec (P := fun rs => (turnL rs t).Pairwise fun a b => besB a b = true) .nil (fun rs e ih => ?_) rs
  rw [turn_snoc]
  by_cases h : lateE e (numsL rs) = t
  · rw [if_pos h, List.pairwise_append]
    refine ⟨ih, List.pairwise_singleton _ _, fun x hx y hy => ?_⟩
    rw [List.mem_singleton.mp hy]
    obtain ⟨p, p1, p2, p3⟩ := mem_turn hx
    rw [bes_comm]
    cases hb : besB e x with
    | true => rfl
    | false =>
      have := late_ge (e := e) p1 (by rw [p2]; exact hb)
      omega
  · rw [if_neg h, List.append_nil]
    exact ih
inductive Built (rs : List Er) : Nat → List Er → Prop
  | zero : Built rs 0 []
  | succ {k : Nat} {A M : List Er} : Built rs k A → M.Perm (turnL rs k) → Built rs (k + 1) (A ++ M)
theorem Built.sm {rs : List Er} {k : Nat} {A : List Er} (h : Built rs k A) : Sm A (flatK rs k) := by
  induction h with
  | zero => exact Sm.refl _
  | succ _ p ih => exact ih.app (Sm.of_perm p.symm (turn_pair _ _)).symm
theorem turn_len (rs : List Er) (t : Nat) : (turnL rs t).length ≤ rs.length := by
  unfold turnL
  rw [List.length_map]
  have := List.length_filter_le (fun p : EN => decide (p.2 = t)) (numsL rs)
  rw [nums_len] at this
  exact this
theorem Built.len {rs : List Er} {k : Nat} {A : List Er} (h : Built rs k A) : A.length ≤ k * rs.length := by
  induction h with
  | zero => exact Nat.zero_le _
  | @succ k A M _ p ih =>
    have := p.length_eq
    have := turn_len rs k
    rw [List.length_append, Nat.succ_mul]
    omega
end Pu
end
section
set_option maxRecDepth 100000
set_option maxHeartbeats 1000000
namespace Pu
open PySem PySem.Spec L2
inductive Rf (E : List Er) (f : Str) (st : List Str) : List Str → Prop
  | base : Rf E f st st
  | step {s : List Str} (e : Er) : Rf E f st s → e ∈ E → goodB s e.needs e.bars = true → f ∉ behindL e s → Rf E f st (behindL e s)
def nxf (E : List Er) (f : Str) (s : List Str) : List (List Str) := ((nexts E s).map (·.2)).filter fun t => !decide (f ∈ t)
theorem mem_nxf {E : List Er} {f : Str} {s t : List Str} : t ∈ nxf E f s ↔ ∃ e ∈ E, goodB s e.needs e.bars = true ∧ t = behindL e s ∧ f ∉ t := by
  unfold nxf nexts
  rw [List.mem_filter, List.map_map, List.mem_map]
  constructor
  · rintro ⟨⟨e, he, rfl⟩, hf⟩
    obtain ⟨h1, h2⟩ := List.mem_filter.mp he
    exact ⟨e, h1, by simpa using h2, rfl, by simpa using hf⟩
  · rintro ⟨e, h1, h2, rfl, h3⟩
    exact ⟨⟨e, List.mem_filter.mpr ⟨h1, by simpa using h2⟩, rfl⟩, by simpa using h3⟩
def Past (E : List Er) (st m b : List Str) (f : Str) : Prop := f ∉ st ∧ ∃ s, Rf E f st s ∧ goodB s m b = true
noncomputable def pastB (E : List Er) (st m b : List Str) (f : Str) : Bool := @decide (Past E st m b f) (Classical.propDecidable _)
theorem pastB_iff {E : List Er} {st m b : List Str} {f : Str} : pastB E st m b f = true ↔ Past E st m b f := by
  unfold pastB
  exact @decide_eq_true_iff _ (Classical.propDecidable _)
structure Pf (F : List Str) (E : List Er) (f : Str) (st : List Str) (M : List (List Str)) : Prop where
  nd : M.Nodup
  sub : ∀ s ∈ M, SubP F s
  rf : ∀ s ∈ M, Rf E f st s
  st : st ∈ M
  no : ∀ s ∈ M, f ∉ s
theorem Pf.few {F : List Str} {E : List Er} (hB : BookP F E) {f : Str} {st : List Str} {M : List (List Str)} (h : Pf F E f st M) : M.length ≤ 64 := few_states hB.facts.1 hB.len h.nd h.sub
theorem Pf.all {F : List Str} {E : List Er} {f : Str} {st : List Str} {M : List (List Str)} (h : Pf F E f st M) (cl : ∀ s ∈ M, ∀ t ∈ nxf E f s, t ∈ M) {s : List Str} (r : Rf E f st s) : s ∈ M := by
  induction r with
  | base => exact h.st
  | step e _ h1 h2 h3 ih => exact cl _ ih _ (mem_nxf.mpr ⟨e, h1, h2, rfl, h3⟩)
theorem Pf.any {F : List Str} {E : List Er} {f : Str} {st m b : List Str} {M : List (List Str)} (h : Pf F E f st M) (cl : ∀ s ∈ M, ∀ t ∈ nxf E f s, t ∈ M) (hf : f ∉ st) : M.any (fun s => goodB s m b) = pastB E st m b f := by
  apply Bool.eq_iff_iff.mpr
  rw [pastB_iff, List.any_eq_true]
  exact ⟨fun ⟨s, h1, h2⟩ => ⟨hf, s, h.rf s h1, h2⟩, fun ⟨_, s, h1, h2⟩ => ⟨s, h.all cl h1, h2⟩⟩
theorem Pf.more {F : List Str} {E : List Er} {f : Str} {st : List Str} {M N : List (List Str)} (h : Pf F E f st M) (nd : N.Nodup) (new : ∀ t ∈ N, t ∉ M ∧ SubP F t ∧ Rf E f st t ∧ f ∉ t) : Pf F E f st (M ++ N) where
  nd := List.nodup_append.mpr ⟨h.nd, nd, fun a ha b hb e => (new b hb).1 (e ▸ ha)⟩
  sub := fun s hs => (List.mem_append.mp hs).elim (h.sub s) fun z => (new s z).2.1
  rf := fun s hs => (List.mem_append.mp hs).elim (h.rf s) fun z => (new s z).2.2.1
  st := List.mem_append_left _ h.st
  no := fun s hs => (List.mem_append.mp hs).elim (h.no s) fun z => (new s z).2.2.2
end Pu
end
section
set_option maxRecDepth 100000
set_option maxHeartbeats 1000000
namespace Pu
open PySem PySem.Spec L2
end Pu
end
section
set_option maxRecDepth 100000
set_option maxHeartbeats 1000000
namespace Pu
open PySem PySem.Spec L2
end Pu
end
section
set_option maxRecDepth 100000
set_option maxHeartbeats 1000000
namespace Pu
open PySem PySem.Spec L2
end Pu
end
section
set_option maxRecDepth 100000
set_option maxHeartbeats 1000000
namespace Pu
open PySem PySem.Spec L2
section
end
section
end
end Pu
end
section
set_option maxRecDepth 100000
set_option maxHeartbeats 1000000
namespace Pu
open PySem PySem.Spec L2
section
end
def Hdp (e : Er) (a b x : Str) : Prop := x ∈ e.needs ∨ (x = a ∧ a ∉ e.makes) ∨ (x = b ∧ b ∉ e.makes)
structure Brg (e : Er) (a b : Str) (L : List PP) : Prop where
  mad : a ∈ e.makes ∨ b ∈ e.makes
  ea : a ∉ e.ends
  eb : b ∉ e.ends
  ba : a ∉ e.makes → a ∉ e.bars
  bb : b ∉ e.makes → b ∉ e.bars
  no : ∀ q ∈ L, ¬ (Hdp e a b q.1 ∧ Hdp e a b q.2)
theorem Brg.swap {e : Er} {a b : Str} {L : List PP} (h : Brg e a b L) : Brg e b a L :=
  ⟨h.mad.symm, h.eb, h.ea, h.bb, h.ba, fun q hq z => h.no q hq ⟨z.1.imp id Or.symm, z.2.imp id Or.symm⟩⟩
section
end
end Pu
end
section
set_option maxRecDepth 100000
set_option maxHeartbeats 1000000
namespace Pu
open PySem PySem.Spec L2
section
end
section
end
end Pu
end
section
set_option maxRecDepth 100000
set_option maxHeartbeats 1000000
namespace Pu
open PySem PySem.Spec L2
section
end
end Pu
end
section
set_option maxRecDepth 100000
set_option maxHeartbeats 1000000
namespace Pu
open PySem PySem.Spec L2
open TL (tl)
structure BookQ (F : List Str) (E : List Er) : Prop where
  rise : Rise F
  word : ∀ x ∈ F, WordP x
  len : F.length ≤ 6
  few : E.length ≤ 6
  ers : ∀ e ∈ E, ErP F e
  nd : (E.map (·.name)).Nodup
theorem BookP.q {F : List Str} {E : List Er} (h : BookP F E) : BookQ F E := ⟨h.facts.1, fun x hx => (h.facts.2 x hx).1, h.len, h.few, h.ers, h.nd⟩
end Pu
end
section
set_option maxRecDepth 100000
set_option maxHeartbeats 1000000
namespace Pu
open PySem PySem.Spec L2
open TL (tl)
section
end
end Pu
end
section
set_option maxRecDepth 100000
set_option maxHeartbeats 1000000
namespace Pu
open PySem PySem.Spec L2
open TL (tl)
end Pu
end
section
set_option maxRecDepth 100000
set_option maxHeartbeats 1000000
namespace Pu
open PySem PySem.Spec L2
end Pu
end
section
set_option maxRecDepth 100000
set_option maxHeartbeats 1000000
namespace Pu
open PySem PySem.Spec L2
open TL (tl)
noncomputable def wB (z : Str) : Bool := @decide (WordP z) (Classical.propDecidable _)
end Pu
end
section
set_option maxRecDepth 100000
set_option maxHeartbeats 1000000
namespace Pu
open PySem PySem.Spec L2
open TL (tl)
end Pu
end
section
set_option maxRecDepth 100000
set_option maxHeartbeats 1000000
namespace Pu
open PySem PySem.Spec L2
open TL (tl)
end Pu
end
section
set_option maxRecDepth 100000
set_option maxHeartbeats 2000000
namespace Pu
open PySem PySem.Spec L2
def BadB (d : D) : Prop := ∀ n, C (n + 5) 5 [d] = .ok (.bl false)
theorem ex_exc {P : Pr} {env : Env} {k c : Nat} {es : EL} {ds : List D} {p : D} {t : SL} (h1 : evL P env es = .ok ds) (h2 : P.call k ds = .exc c p) : Fl.out (evSL P env (.cons (.ex (.call k es)) t)) = .exc c p := by
  rw [sl_cons, s_ex, q_call, h1, R.bind_ok, h2, Fl.of_exc, seq_exc, Fl.out_exc]
theorem ex_skip {P : Pr} {env : Env} {k : Nat} {es : EL} {ds : List D} {p : D} {t : SL} (h1 : evL P env es = .ok ds) (h2 : P.call k ds = .ok p) : evSL P env (.cons (.ex (.call k es)) t) = evSL P env t := by
  rw [sl_cons, s_ex, q_call, h1, R.bind_ok, h2, Fl.of_ok, seq_nx]
theorem nb_bad {d : D} (h : BadB d) (n : Nat) : C (n + 6) 6 [d] = .exc 0 .non := by
  rw [e6]
  simp [b6, h n]
theorem r20 {n c : Nat} {p x0 x1 : D} (h : C n 6 [x0] = .exc c p) : C (n + 1) 20 [x0, x1] = .exc c p := by
  rw [e20]
  exact ex_exc rfl h
theorem r39 {n c : Nat} {p x0 x1 x2 : D} (h : C n 20 [x0, x1] = .exc c p) : C (n + 1) 39 [x0, x1, x2] = .exc c p := by
  rw [e39]
  exact ex_exc rfl h
theorem r113 {n c : Nat} {p x0 x1 x2 : D} (h : C n 39 [x0, x1, x2] = .exc c p) : C (n + 1) 113 [x0, x1, x2] = .exc c p := by
  rw [e113]
  exact ex_exc rfl h
theorem r143 {n c : Nat} {p x0 x1 x2 x3 : D} (h : C n 20 [x0, x1] = .exc c p) : C (n + 1) 143 [x0, x1, x2, x3] = .exc c p := by
  rw [e143]
  exact ex_exc rfl h
theorem r7 {n c : Nat} {p x0 : D} (h : C n 6 [x0] = .exc c p) : C (n + 1) 7 [x0] = .exc c p := by
  rw [e7]
  exact ex_exc rfl h
theorem r25 {n c : Nat} {p x0 x1 : D} (h : C n 20 [x0, x1] = .exc c p) : C (n + 1) 25 [x0, x1] = .exc c p := by
  rw [e25]
  exact ex_exc rfl h
theorem r26 {n c : Nat} {p x0 x1 x2 : D} (h : C n 20 [x0, x1] = .exc c p) : C (n + 1) 26 [x0, x1, x2] = .exc c p := by
  rw [e26]
  exact ex_exc rfl h
theorem r40 {n c : Nat} {p x0 x1 x2 : D} (h : C n 39 [x0, x1, x2] = .exc c p) : C (n + 1) 40 [x0, x1, x2] = .exc c p := by
  rw [e40]
  exact ex_exc rfl h
theorem r46 {n c : Nat} {p x0 x1 x2 : D} (h : C n 20 [x0, x1] = .exc c p) : C (n + 1) 46 [x0, x1, x2] = .exc c p := by
  rw [e46]
  exact ex_exc rfl h
theorem r48 {n c : Nat} {p x0 x1 : D} (h : C n 6 [x0] = .exc c p) : C (n + 1) 48 [x0, x1] = .exc c p := by
  rw [e48]
  exact ex_exc rfl h
theorem r55 {n c : Nat} {p x0 x1 x2 x3 : D} (h : C n 39 [x0, x1, x2] = .exc c p) : C (n + 1) 55 [x0, x1, x2, x3] = .exc c p := by
  rw [e55]
  exact ex_exc rfl h
theorem r61 {n c : Nat} {p x0 x1 x2 : D} (h : C n 6 [x0] = .exc c p) : C (n + 1) 61 [x0, x1, x2] = .exc c p := by
  rw [e61]
  exact ex_exc rfl h
theorem r67 {n c : Nat} {p x0 x1 : D} (h : C n 20 [x0, x1] = .exc c p) : C (n + 1) 67 [x0, x1] = .exc c p := by
  rw [e67]
  exact ex_exc rfl h
theorem r68 {n c : Nat} {p x0 x1 x2 : D} (h : C n 20 [x0, x1] = .exc c p) : C (n + 1) 68 [x0, x1, x2] = .exc c p := by
  rw [e68]
  exact ex_exc rfl h
theorem r72 {n c : Nat} {p x0 x1 x2 : D} (h : C n 39 [x0, x1, x2] = .exc c p) : C (n + 1) 72 [x0, x1, x2] = .exc c p := by
  rw [e72]
  exact ex_exc rfl h
theorem r73 {n c : Nat} {p x0 x1 x2 : D} (h : C n 39 [x0, x1, x2] = .exc c p) : C (n + 1) 73 [x0, x1, x2] = .exc c p := by
  rw [e73]
  exact ex_exc rfl h
theorem r76 {n c : Nat} {p x0 x1 x2 : D} (h : C n 39 [x0, x1, x2] = .exc c p) : C (n + 1) 76 [x0, x1, x2] = .exc c p := by
  rw [e76]
  exact ex_exc rfl h
theorem r81 {n c : Nat} {p x0 x1 x2 : D} (h : C n 39 [x0, x1, x2] = .exc c p) : C (n + 1) 81 [x0, x1, x2] = .exc c p := by
  rw [e81]
  exact ex_exc rfl h
theorem r83 {n c : Nat} {p x0 x1 x2 : D} (h : C n 39 [x0, x1, x2] = .exc c p) : C (n + 1) 83 [x0, x1, x2] = .exc c p := by
  rw [e83]
  exact ex_exc rfl h
theorem r88 {n c : Nat} {p x0 x1 x2 : D} (h : C n 39 [x0, x1, x2] = .exc c p) : C (n + 1) 88 [x0, x1, x2] = .exc c p := by
  rw [e88]
  exact ex_exc rfl h
theorem r90 {n c : Nat} {p x0 x1 x2 x3 : D} (h : C n 39 [x0, x1, x2] = .exc c p) : C (n + 1) 90 [x0, x1, x2, x3] = .exc c p := by
  rw [e90]
  exact ex_exc rfl h
theorem r99 {n c : Nat} {p x0 x1 : D} (h : C n 20 [x0, x1] = .exc c p) : C (n + 1) 99 [x0, x1] = .exc c p := by
  rw [e99]
  exact ex_exc rfl h
theorem r101 {n c : Nat} {p x0 x1 x2 : D} (h : C n 20 [x0, x1] = .exc c p) : C (n + 1) 101 [x0, x1, x2] = .exc c p := by
  rw [e101]
  exact ex_exc rfl h
theorem r108 {n c : Nat} {p x0 x1 : D} (h : C n 20 [x0, x1] = .exc c p) : C (n + 1) 108 [x0, x1] = .exc c p := by
  rw [e108]
  exact ex_exc rfl h
theorem r110 {n c : Nat} {p x0 x1 x2 : D} (h : C n 39 [x0, x1, x2] = .exc c p) : C (n + 1) 110 [x0, x1, x2] = .exc c p := by
  rw [e110]
  exact ex_exc rfl h
theorem r114 {n c : Nat} {p x0 x1 x2 : D} (h : C n 113 [x0, x1, x2] = .exc c p) : C (n + 1) 114 [x0, x1, x2] = .exc c p := by
  rw [e114]
  exact ex_exc rfl h
theorem r117 {n c : Nat} {p x0 x1 x2 : D} (h : C n 113 [x0, x1, x2] = .exc c p) : C (n + 1) 117 [x0, x1, x2] = .exc c p := by
  rw [e117]
  exact ex_exc rfl h
theorem r120 {n c : Nat} {p x0 x1 : D} (h : C n 39 [x0, x1, .tup [.tup [], .tup []]] = .exc c p) : C (n + 1) 120 [x0, x1] = .exc c p := by
  rw [e120]
  exact ex_exc rfl h
theorem r124 {n c : Nat} {p x0 x1 x2 : D} (h : C n 6 [x0] = .exc c p) : C (n + 1) 124 [x0, x1, x2] = .exc c p := by
  rw [e124]
  exact ex_exc rfl h
theorem r131 {n c : Nat} {p x0 x1 : D} (h : C n 6 [x0] = .exc c p) : C (n + 1) 131 [x0, x1] = .exc c p := by
  rw [e131]
  exact ex_exc rfl h
theorem r135 {n c : Nat} {p x0 x1 x2 x3 : D} (h : C n 39 [x0, x1, x2] = .exc c p) : C (n + 1) 135 [x0, x1, x2, x3] = .exc c p := by
  rw [e135]
  exact ex_exc rfl h
theorem r139 {n c : Nat} {p x0 x1 x2 x3 : D} (h : C n 39 [x0, x1, x2] = .exc c p) : C (n + 1) 139 [x0, x1, x2, x3] = .exc c p := by
  rw [e139]
  exact ex_exc rfl h
theorem r144 {n c : Nat} {p x0 x1 x2 x3 : D} (h : C n 143 [x0, x1, x2, x3] = .exc c p) : C (n + 1) 144 [x0, x1, x2, x3] = .exc c p := by
  rw [e144]
  exact ex_exc rfl h
theorem r145 {n c : Nat} {p x0 x1 x2 x3 : D} (h : C n 143 [x0, x1, x2, x3] = .exc c p) : C (n + 1) 145 [x0, x1, x2, x3] = .exc c p := by
  rw [e145]
  exact ex_exc rfl h
theorem r151 {n c : Nat} {p x0 x1 : D} (h : C n 6 [x0] = .exc c p) : C (n + 1) 151 [x0, x1] = .exc c p := by
  rw [e151]
  exact ex_exc rfl h
theorem r152 {n c : Nat} {p x0 x1 : D} (h : C n 6 [x0] = .exc c p) : C (n + 1) 152 [x0, x1] = .exc c p := by
  rw [e152]
  exact ex_exc rfl h
theorem r153 {n c : Nat} {p x0 x1 : D} (h : C n 6 [x0] = .exc c p) : C (n + 1) 153 [x0, x1] = .exc c p := by
  rw [e153]
  exact ex_exc rfl h
theorem r186 {n c : Nat} {p x0 : D} (h : C n 6 [x0] = .exc c p) : C (n + 1) 186 [x0] = .exc c p := by
  rw [e186]
  exact ex_exc rfl h
theorem r197 {n c : Nat} {p x0 : D} (h : C n 6 [x0] = .exc c p) : C (n + 1) 197 [x0] = .exc c p := by
  rw [e197]
  exact ex_exc rfl h
end Pu
end
section
set_option maxRecDepth 100000
set_option maxHeartbeats 4000000
namespace Pu
open PySem PySem.Spec L2
theorem bad198 (n : Nat) {d : D} (h : BadB d) {w : Int} (w0 : 0 ≤ w) (w1 : w < 36) : C (n + 11) 198 [.int w, d] = .exc 0 .non := by
  have h7 : C (n + 10) 7 [d] = .exc 0 .non := r7 (nb_bad h (n + 3))
  have h186 : C (n + 10) 186 [d] = .exc 0 .non := r186 (nb_bad h (n + 3))
  have h197 : C (n + 10) 197 [d] = .exc 0 .non := r197 (nb_bad h (n + 3))
  have h25 : C (n + 10) 25 [d, .non] = .exc 0 .non := r25 (r20 (nb_bad h (n + 2)))
  have h67 : C (n + 10) 67 [d, .non] = .exc 0 .non := r67 (r20 (nb_bad h (n + 2)))
  have h99 : C (n + 10) 99 [d, .non] = .exc 0 .non := r99 (r20 (nb_bad h (n + 2)))
  have h108 : C (n + 10) 108 [d, .non] = .exc 0 .non := r108 (r20 (nb_bad h (n + 2)))
  have h120 : C (n + 10) 120 [d, .non] = .exc 0 .non := r120 (r39 (r20 (nb_bad h (n + 1))))
  have h48 : C (n + 10) 48 [d, .non] = .exc 0 .non := r48 (nb_bad h (n + 3))
  have h131 : C (n + 10) 131 [d, .non] = .exc 0 .non := r131 (nb_bad h (n + 3))
  have h151 : C (n + 10) 151 [d, .non] = .exc 0 .non := r151 (nb_bad h (n + 3))
  have h152 : C (n + 10) 152 [d, .non] = .exc 0 .non := r152 (nb_bad h (n + 3))
  have h153 : C (n + 10) 153 [d, .non] = .exc 0 .non := r153 (nb_bad h (n + 3))
  have h26 : C (n + 10) 26 [d, .non, .non] = .exc 0 .non := r26 (r20 (nb_bad h (n + 2)))
  have h40 : C (n + 10) 40 [d, .non, .non] = .exc 0 .non := r40 (r39 (r20 (nb_bad h (n + 1))))
  have h46 : C (n + 10) 46 [d, .non, .non] = .exc 0 .non := r46 (r20 (nb_bad h (n + 2)))
  have h61 : C (n + 10) 61 [d, .non, .non] = .exc 0 .non := r61 (nb_bad h (n + 3))
  have h68 : C (n + 10) 68 [d, .non, .non] = .exc 0 .non := r68 (r20 (nb_bad h (n + 2)))
  have h72 : C (n + 10) 72 [d, .non, .non] = .exc 0 .non := r72 (r39 (r20 (nb_bad h (n + 1))))
  have h73 : C (n + 10) 73 [d, .non, .non] = .exc 0 .non := r73 (r39 (r20 (nb_bad h (n + 1))))
  have h76 : C (n + 10) 76 [d, .non, .non] = .exc 0 .non := r76 (r39 (r20 (nb_bad h (n + 1))))
  have h81 : C (n + 10) 81 [d, .non, .non] = .exc 0 .non := r81 (r39 (r20 (nb_bad h (n + 1))))
  have h83 : C (n + 10) 83 [d, .non, .non] = .exc 0 .non := r83 (r39 (r20 (nb_bad h (n + 1))))
  have h88 : C (n + 10) 88 [d, .non, .non] = .exc 0 .non := r88 (r39 (r20 (nb_bad h (n + 1))))
  have h110 : C (n + 10) 110 [d, .non, .non] = .exc 0 .non := r110 (r39 (r20 (nb_bad h (n + 1))))
  have h114 : C (n + 10) 114 [d, .non, .non] = .exc 0 .non := r114 (r113 (r39 (r20 (nb_bad h n))))
  have h117 : C (n + 10) 117 [d, .non, .non] = .exc 0 .non := r117 (r113 (r39 (r20 (nb_bad h n))))
  have h101 : C (n + 10) 101 [d, .non, .non] = .exc 0 .non := r101 (r20 (nb_bad h (n + 2)))
  have h124 : C (n + 10) 124 [d, .non, .non] = .exc 0 .non := r124 (nb_bad h (n + 3))
  have h55 : C (n + 10) 55 [d, .non, .non, .non] = .exc 0 .non := r55 (r39 (r20 (nb_bad h (n + 1))))
  have h90 : C (n + 10) 90 [d, .non, .non, .non] = .exc 0 .non := r90 (r39 (r20 (nb_bad h (n + 1))))
  have h135 : C (n + 10) 135 [d, .non, .non, .non] = .exc 0 .non := r135 (r39 (r20 (nb_bad h (n + 1))))
  have h139 : C (n + 10) 139 [d, .non, .non, .non] = .exc 0 .non := r139 (r39 (r20 (nb_bad h (n + 1))))
  have h144 : C (n + 10) 144 [d, .non, .non, .non] = .exc 0 .non := r144 (r143 (r20 (nb_bad h (n + 1))))
  have h145 : C (n + 10) 145 [d, .non, .non, .non] = .exc 0 .non := r145 (r143 (r20 (nb_bad h (n + 1))))
  obtain rfl | rfl | rfl | rfl | rfl | rfl | rfl | rfl | rfl | rfl | rfl | rfl | rfl | rfl | rfl | rfl | rfl | rfl | rfl | rfl | rfl | rfl | rfl | rfl | rfl | rfl | rfl | rfl | rfl | rfl | rfl | rfl | rfl | rfl | rfl | rfl : w = 0 ∨ w = 1 ∨ w = 2 ∨ w = 3 ∨ w = 4 ∨ w = 5 ∨ w = 6 ∨ w = 7 ∨ w = 8 ∨ w = 9 ∨ w = 10 ∨ w = 11 ∨ w = 12 ∨ w = 13 ∨ w = 14 ∨ w = 15 ∨ w = 16 ∨ w = 17 ∨ w = 18 ∨ w = 19 ∨ w = 20 ∨ w = 21 ∨ w = 22 ∨ w = 23 ∨ w = 24 ∨ w = 25 ∨ w = 26 ∨ w = 27 ∨ w = 28 ∨ w = 29 ∨ w = 30 ∨ w = 31 ∨ w = 32 ∨ w = 33 ∨ w = 34 ∨ w = 35 := by omega
  · rw [e198]
    simp [b198, h7, atI, ixN, ownOf, setE, freeze, Sl.un, sizeLine]
  · rw [e198]
    simp [b198, h186, atI, ixN, ownOf, setE, freeze, Sl.un, sizeLine]
  · rw [e198]
    simp [b198, h197, atI, ixN, ownOf, setE, freeze, Sl.un, sizeLine]
  · rw [e198]
    simp [b198, h25, atI, ixN, ownOf, setE, freeze, Sl.un, sizeLine]
  · rw [e198]
    simp [b198, h67, atI, ixN, ownOf, setE, freeze, Sl.un, sizeLine]
  · rw [e198]
    simp [b198, h99, atI, ixN, ownOf, setE, freeze, Sl.un, sizeLine]
  · rw [e198]
    simp [b198, h108, atI, ixN, ownOf, setE, freeze, Sl.un, sizeLine]
  · rw [e198]
    simp [b198, h120, atI, ixN, ownOf, setE, freeze, Sl.un, sizeLine]
  · rw [e198]
    simp [b198, h48, atI, ixN, ownOf, setE, freeze, Sl.un, sizeLine]
  · rw [e198]
    simp [b198, h131, atI, ixN, ownOf, setE, freeze, Sl.un, sizeLine]
  · rw [e198]
    simp [b198, h151, atI, ixN, ownOf, setE, freeze, Sl.un, sizeLine]
  · rw [e198]
    simp [b198, h152, atI, ixN, ownOf, setE, freeze, Sl.un, sizeLine]
  · rw [e198]
    simp [b198, h153, atI, ixN, ownOf, setE, freeze, Sl.un, sizeLine]
  · rw [e198]
    simp [b198, h25, atI, ixN, ownOf, setE, freeze, Sl.un, sizeLine]
  · rw [e198]
    simp [b198, h26, atI, ixN, ownOf, setE, freeze, Sl.un, sizeLine]
  · rw [e198]
    simp [b198, h40, atI, ixN, ownOf, setE, freeze, Sl.un, sizeLine]
  · rw [e198]
    simp [b198, h46, atI, ixN, ownOf, setE, freeze, Sl.un, sizeLine]
  · rw [e198]
    simp [b198, h61, atI, ixN, ownOf, setE, freeze, Sl.un, sizeLine]
  · rw [e198]
    simp [b198, h68, atI, ixN, ownOf, setE, freeze, Sl.un, sizeLine]
  · rw [e198]
    simp [b198, h72, atI, ixN, ownOf, setE, freeze, Sl.un, sizeLine]
  · rw [e198]
    simp [b198, h73, atI, ixN, ownOf, setE, freeze, Sl.un, sizeLine]
  · rw [e198]
    simp [b198, h76, atI, ixN, ownOf, setE, freeze, Sl.un, sizeLine]
  · rw [e198]
    simp [b198, h81, atI, ixN, ownOf, setE, freeze, Sl.un, sizeLine]
  · rw [e198]
    simp [b198, h83, atI, ixN, ownOf, setE, freeze, Sl.un, sizeLine]
  · rw [e198]
    simp [b198, h88, atI, ixN, ownOf, setE, freeze, Sl.un, sizeLine]
  · rw [e198]
    simp [b198, h110, atI, ixN, ownOf, setE, freeze, Sl.un, sizeLine]
  · rw [e198]
    simp [b198, h114, atI, ixN, ownOf, setE, freeze, Sl.un, sizeLine]
  · rw [e198]
    simp [b198, h117, atI, ixN, ownOf, setE, freeze, Sl.un, sizeLine]
  · rw [e198]
    simp [b198, h101, atI, ixN, ownOf, setE, freeze, Sl.un, sizeLine]
  · rw [e198]
    simp [b198, h124, atI, ixN, ownOf, setE, freeze, Sl.un, sizeLine]
  · rw [e198]
    simp [b198, h55, atI, ixN, ownOf, setE, freeze, Sl.un, sizeLine]
  · rw [e198]
    simp [b198, h90, atI, ixN, ownOf, setE, freeze, Sl.un, sizeLine]
  · rw [e198]
    simp [b198, h135, atI, ixN, ownOf, setE, freeze, Sl.un, sizeLine]
  · rw [e198]
    simp [b198, h139, atI, ixN, ownOf, setE, freeze, Sl.un, sizeLine]
  · rw [e198]
    simp [b198, h144, atI, ixN, ownOf, setE, freeze, Sl.un, sizeLine]
  · rw [e198]
    simp [b198, h145, atI, ixN, ownOf, setE, freeze, Sl.un, sizeLine]
theorem bad199 (n : Nat) {F : List Str} {E : List Er} (hB : BookP F E) {d : D} (hs : BadSt F d) {w : Int} (w0 : 0 ≤ w) (w1 : w < 25) : C (n + 11) 199 [.int w, .tup [.tup (F.map .str), .tup (E.map eD)], d] = .exc 1 .non := by
  have h25 : C (n + 10) 25 [.tup [.tup (F.map .str), .tup (E.map eD)], d] = .exc 1 .non := r25 (need_state_bad (n + 4) hB hs)
  have h67 : C (n + 10) 67 [.tup [.tup (F.map .str), .tup (E.map eD)], d] = .exc 1 .non := r67 (need_state_bad (n + 4) hB hs)
  have h99 : C (n + 10) 99 [.tup [.tup (F.map .str), .tup (E.map eD)], d] = .exc 1 .non := r99 (need_state_bad (n + 4) hB hs)
  have h108 : C (n + 10) 108 [.tup [.tup (F.map .str), .tup (E.map eD)], d] = .exc 1 .non := r108 (need_state_bad (n + 4) hB hs)
  have h120 : C (n + 10) 120 [.tup [.tup (F.map .str), .tup (E.map eD)], d] = .exc 1 .non := r120 (need_all_bad1 (n + 3) hB hs)
  have h26 : C (n + 10) 26 [.tup [.tup (F.map .str), .tup (E.map eD)], d, .non] = .exc 1 .non := r26 (need_state_bad (n + 4) hB hs)
  have h40 : C (n + 10) 40 [.tup [.tup (F.map .str), .tup (E.map eD)], d, .non] = .exc 1 .non := r40 (need_all_bad1 (n + 3) hB hs)
  have h46 : C (n + 10) 46 [.tup [.tup (F.map .str), .tup (E.map eD)], d, .non] = .exc 1 .non := r46 (need_state_bad (n + 4) hB hs)
  have h68 : C (n + 10) 68 [.tup [.tup (F.map .str), .tup (E.map eD)], d, .non] = .exc 1 .non := r68 (need_state_bad (n + 4) hB hs)
  have h72 : C (n + 10) 72 [.tup [.tup (F.map .str), .tup (E.map eD)], d, .non] = .exc 1 .non := r72 (need_all_bad1 (n + 3) hB hs)
  have h73 : C (n + 10) 73 [.tup [.tup (F.map .str), .tup (E.map eD)], d, .non] = .exc 1 .non := r73 (need_all_bad1 (n + 3) hB hs)
  have h76 : C (n + 10) 76 [.tup [.tup (F.map .str), .tup (E.map eD)], d, .non] = .exc 1 .non := r76 (need_all_bad1 (n + 3) hB hs)
  have h81 : C (n + 10) 81 [.tup [.tup (F.map .str), .tup (E.map eD)], d, .non] = .exc 1 .non := r81 (need_all_bad1 (n + 3) hB hs)
  have h83 : C (n + 10) 83 [.tup [.tup (F.map .str), .tup (E.map eD)], d, .non] = .exc 1 .non := r83 (need_all_bad1 (n + 3) hB hs)
  have h88 : C (n + 10) 88 [.tup [.tup (F.map .str), .tup (E.map eD)], d, .non] = .exc 1 .non := r88 (need_all_bad1 (n + 3) hB hs)
  have h110 : C (n + 10) 110 [.tup [.tup (F.map .str), .tup (E.map eD)], d, .non] = .exc 1 .non := r110 (need_all_bad1 (n + 3) hB hs)
  have h114 : C (n + 10) 114 [.tup [.tup (F.map .str), .tup (E.map eD)], d, .non] = .exc 1 .non := r114 (r113 (need_all_bad1 (n + 2) hB hs))
  have h117 : C (n + 10) 117 [.tup [.tup (F.map .str), .tup (E.map eD)], d, .non] = .exc 1 .non := r117 (r113 (need_all_bad1 (n + 2) hB hs))
  have h101 : C (n + 10) 101 [.tup [.tup (F.map .str), .tup (E.map eD)], d, .non] = .exc 1 .non := r101 (need_state_bad (n + 4) hB hs)
  have h55 : C (n + 10) 55 [.tup [.tup (F.map .str), .tup (E.map eD)], d, .non, .non] = .exc 1 .non := r55 (need_all_bad1 (n + 3) hB hs)
  have h90 : C (n + 10) 90 [.tup [.tup (F.map .str), .tup (E.map eD)], d, .non, .non] = .exc 1 .non := r90 (need_all_bad1 (n + 3) hB hs)
  have h135 : C (n + 10) 135 [.tup [.tup (F.map .str), .tup (E.map eD)], d, .non, .non] = .exc 1 .non := r135 (need_all_bad1 (n + 3) hB hs)
  have h139 : C (n + 10) 139 [.tup [.tup (F.map .str), .tup (E.map eD)], d, .non, .non] = .exc 1 .non := r139 (need_all_bad1 (n + 3) hB hs)
  have h144 : C (n + 10) 144 [.tup [.tup (F.map .str), .tup (E.map eD)], d, .non, .non] = .exc 1 .non := r144 (r143 (need_state_bad (n + 3) hB hs))
  have h145 : C (n + 10) 145 [.tup [.tup (F.map .str), .tup (E.map eD)], d, .non, .non] = .exc 1 .non := r145 (r143 (need_state_bad (n + 3) hB hs))
  obtain rfl | rfl | rfl | rfl | rfl | rfl | rfl | rfl | rfl | rfl | rfl | rfl | rfl | rfl | rfl | rfl | rfl | rfl | rfl | rfl | rfl | rfl | rfl | rfl | rfl : w = 0 ∨ w = 1 ∨ w = 2 ∨ w = 3 ∨ w = 4 ∨ w = 5 ∨ w = 6 ∨ w = 7 ∨ w = 8 ∨ w = 9 ∨ w = 10 ∨ w = 11 ∨ w = 12 ∨ w = 13 ∨ w = 14 ∨ w = 15 ∨ w = 16 ∨ w = 17 ∨ w = 18 ∨ w = 19 ∨ w = 20 ∨ w = 21 ∨ w = 22 ∨ w = 23 ∨ w = 24 := by omega
  · rw [e199]
    simp [b199, h25, atI, ixN, ownOf, setE, freeze, Sl.un, sizeLine]
  · rw [e199]
    simp [b199, h67, atI, ixN, ownOf, setE, freeze, Sl.un, sizeLine]
  · rw [e199]
    simp [b199, h99, atI, ixN, ownOf, setE, freeze, Sl.un, sizeLine]
  · rw [e199]
    simp [b199, h108, atI, ixN, ownOf, setE, freeze, Sl.un, sizeLine]
  · rw [e199]
    simp [b199, h120, atI, ixN, ownOf, setE, freeze, Sl.un, sizeLine]
  · rw [e199]
    simp [b199, h26, atI, ixN, ownOf, setE, freeze, Sl.un, sizeLine]
  · rw [e199]
    simp [b199, h40, atI, ixN, ownOf, setE, freeze, Sl.un, sizeLine]
  · rw [e199]
    simp [b199, h46, atI, ixN, ownOf, setE, freeze, Sl.un, sizeLine]
  · rw [e199]
    simp [b199, h68, atI, ixN, ownOf, setE, freeze, Sl.un, sizeLine]
  · rw [e199]
    simp [b199, h72, atI, ixN, ownOf, setE, freeze, Sl.un, sizeLine]
  · rw [e199]
    simp [b199, h73, atI, ixN, ownOf, setE, freeze, Sl.un, sizeLine]
  · rw [e199]
    simp [b199, h76, atI, ixN, ownOf, setE, freeze, Sl.un, sizeLine]
  · rw [e199]
    simp [b199, h81, atI, ixN, ownOf, setE, freeze, Sl.un, sizeLine]
  · rw [e199]
    simp [b199, h83, atI, ixN, ownOf, setE, freeze, Sl.un, sizeLine]
  · rw [e199]
    simp [b199, h88, atI, ixN, ownOf, setE, freeze, Sl.un, sizeLine]
  · rw [e199]
    simp [b199, h110, atI, ixN, ownOf, setE, freeze, Sl.un, sizeLine]
  · rw [e199]
    simp [b199, h114, atI, ixN, ownOf, setE, freeze, Sl.un, sizeLine]
  · rw [e199]
    simp [b199, h117, atI, ixN, ownOf, setE, freeze, Sl.un, sizeLine]
  · rw [e199]
    simp [b199, h101, atI, ixN, ownOf, setE, freeze, Sl.un, sizeLine]
  · rw [e199]
    simp [b199, h55, atI, ixN, ownOf, setE, freeze, Sl.un, sizeLine]
  · rw [e199]
    simp [b199, h90, atI, ixN, ownOf, setE, freeze, Sl.un, sizeLine]
  · rw [e199]
    simp [b199, h135, atI, ixN, ownOf, setE, freeze, Sl.un, sizeLine]
  · rw [e199]
    simp [b199, h139, atI, ixN, ownOf, setE, freeze, Sl.un, sizeLine]
  · rw [e199]
    simp [b199, h144, atI, ixN, ownOf, setE, freeze, Sl.un, sizeLine]
  · rw [e199]
    simp [b199, h145, atI, ixN, ownOf, setE, freeze, Sl.un, sizeLine]
theorem bad61 (n : Nat) {F : List Str} {E : List Er} (hB : BookP F E) {d x : D} (hw : BadW F d) : C (n + 10) 61 [.tup [.tup (F.map .str), .tup (E.map eD)], d, x] = .exc 2 .non := by
  have h1 : C (n + 9) 6 [.tup [.tup (F.map .str), .tup (E.map eD)]] = .ok .non := need_book_ok (n + 5) hB
  have h2 : C (n + 9) 38 [.tup [.tup (F.map .str), .tup (E.map eD)], d] = .ok (.bl false) := hw (n + 7) E
  rw [e61]
  refine (congrArg Fl.out (ex_skip (p := .non) rfl h1)).trans ?_
  rw [sl_cons, s_iff]
  simp [h2]
theorem bad200 (n : Nat) {F : List Str} {E : List Er} (hB : BookP F E) {st : List Str} (hs : SubP F st) {d : D} (hw : BadW F d) {w : Int} (w0 : 0 ≤ w) (w1 : w < 15) : C (n + 11) 200 [.int w, .tup [.tup (F.map .str), .tup (E.map eD)], .tup (st.map .str), d] = .exc 2 .non := by
  have h40 : C (n + 10) 40 [.tup [.tup (F.map .str), .tup (E.map eD)], .tup (st.map .str), d] = .exc 2 .non := r40 (need_all_bad2 (n + 3) hB hs hw)
  have h72 : C (n + 10) 72 [.tup [.tup (F.map .str), .tup (E.map eD)], .tup (st.map .str), d] = .exc 2 .non := r72 (need_all_bad2 (n + 3) hB hs hw)
  have h73 : C (n + 10) 73 [.tup [.tup (F.map .str), .tup (E.map eD)], .tup (st.map .str), d] = .exc 2 .non := r73 (need_all_bad2 (n + 3) hB hs hw)
  have h76 : C (n + 10) 76 [.tup [.tup (F.map .str), .tup (E.map eD)], .tup (st.map .str), d] = .exc 2 .non := r76 (need_all_bad2 (n + 3) hB hs hw)
  have h81 : C (n + 10) 81 [.tup [.tup (F.map .str), .tup (E.map eD)], .tup (st.map .str), d] = .exc 2 .non := r81 (need_all_bad2 (n + 3) hB hs hw)
  have h83 : C (n + 10) 83 [.tup [.tup (F.map .str), .tup (E.map eD)], .tup (st.map .str), d] = .exc 2 .non := r83 (need_all_bad2 (n + 3) hB hs hw)
  have h88 : C (n + 10) 88 [.tup [.tup (F.map .str), .tup (E.map eD)], .tup (st.map .str), d] = .exc 2 .non := r88 (need_all_bad2 (n + 3) hB hs hw)
  have h110 : C (n + 10) 110 [.tup [.tup (F.map .str), .tup (E.map eD)], .tup (st.map .str), d] = .exc 2 .non := r110 (need_all_bad2 (n + 3) hB hs hw)
  have h114 : C (n + 10) 114 [.tup [.tup (F.map .str), .tup (E.map eD)], .tup (st.map .str), d] = .exc 2 .non := r114 (r113 (need_all_bad2 (n + 2) hB hs hw))
  have h117 : C (n + 10) 117 [.tup [.tup (F.map .str), .tup (E.map eD)], .tup (st.map .str), d] = .exc 2 .non := r117 (r113 (need_all_bad2 (n + 2) hB hs hw))
  have h61 : C (n + 10) 61 [.tup [.tup (F.map .str), .tup (E.map eD)], d, .non] = .exc 2 .non := bad61 n hB hw
  have h55 : C (n + 10) 55 [.tup [.tup (F.map .str), .tup (E.map eD)], .tup (st.map .str), d, .non] = .exc 2 .non := r55 (need_all_bad2 (n + 3) hB hs hw)
  have h90 : C (n + 10) 90 [.tup [.tup (F.map .str), .tup (E.map eD)], .tup (st.map .str), d, .non] = .exc 2 .non := r90 (need_all_bad2 (n + 3) hB hs hw)
  have h135 : C (n + 10) 135 [.tup [.tup (F.map .str), .tup (E.map eD)], .tup (st.map .str), d, .non] = .exc 2 .non := r135 (need_all_bad2 (n + 3) hB hs hw)
  have h139 : C (n + 10) 139 [.tup [.tup (F.map .str), .tup (E.map eD)], .tup (st.map .str), d, .non] = .exc 2 .non := r139 (need_all_bad2 (n + 3) hB hs hw)
  obtain rfl | rfl | rfl | rfl | rfl | rfl | rfl | rfl | rfl | rfl | rfl | rfl | rfl | rfl | rfl : w = 0 ∨ w = 1 ∨ w = 2 ∨ w = 3 ∨ w = 4 ∨ w = 5 ∨ w = 6 ∨ w = 7 ∨ w = 8 ∨ w = 9 ∨ w = 10 ∨ w = 11 ∨ w = 12 ∨ w = 13 ∨ w = 14 := by omega
  · rw [e200]
    simp [b200, h40, atI, ixN, ownOf, setE, freeze, Sl.un, sizeLine]
  · rw [e200]
    simp [b200, h72, atI, ixN, ownOf, setE, freeze, Sl.un, sizeLine]
  · rw [e200]
    simp [b200, h73, atI, ixN, ownOf, setE, freeze, Sl.un, sizeLine]
  · rw [e200]
    simp [b200, h76, atI, ixN, ownOf, setE, freeze, Sl.un, sizeLine]
  · rw [e200]
    simp [b200, h81, atI, ixN, ownOf, setE, freeze, Sl.un, sizeLine]
  · rw [e200]
    simp [b200, h83, atI, ixN, ownOf, setE, freeze, Sl.un, sizeLine]
  · rw [e200]
    simp [b200, h88, atI, ixN, ownOf, setE, freeze, Sl.un, sizeLine]
  · rw [e200]
    simp [b200, h110, atI, ixN, ownOf, setE, freeze, Sl.un, sizeLine]
  · rw [e200]
    simp [b200, h114, atI, ixN, ownOf, setE, freeze, Sl.un, sizeLine]
  · rw [e200]
    simp [b200, h117, atI, ixN, ownOf, setE, freeze, Sl.un, sizeLine]
  · rw [e200]
    simp [b200, h61, atI, ixN, ownOf, setE, freeze, Sl.un, sizeLine]
  · rw [e200]
    simp [b200, h55, atI, ixN, ownOf, setE, freeze, Sl.un, sizeLine]
  · rw [e200]
    simp [b200, h90, atI, ixN, ownOf, setE, freeze, Sl.un, sizeLine]
  · rw [e200]
    simp [b200, h135, atI, ixN, ownOf, setE, freeze, Sl.un, sizeLine]
  · rw [e200]
    simp [b200, h139, atI, ixN, ownOf, setE, freeze, Sl.un, sizeLine]
theorem badr48 (n : Nat) {F : List Str} {E : List Er} (hB : BookP F E) {d : D} (hd : BadR F E d) : C (n + 10) 48 [.tup [.tup (F.map .str), .tup (E.map eD)], d] = .exc 4 .non := by
  rw [e48]
  exact (congrArg Fl.out (ex_skip (p := .non) rfl (need_book_ok (n + 5) hB))).trans (ex_exc rfl (need_row_bad (n + 6) hd))
theorem badr131 (n : Nat) {F : List Str} {E : List Er} (hB : BookP F E) {d : D} (hd : BadR F E d) : C (n + 10) 131 [.tup [.tup (F.map .str), .tup (E.map eD)], d] = .exc 4 .non := by
  rw [e131]
  exact (congrArg Fl.out (ex_skip (p := .non) rfl (need_book_ok (n + 5) hB))).trans (ex_exc rfl (need_row_bad (n + 6) hd))
theorem badr46 (n : Nat) {F : List Str} {E : List Er} (hB : BookP F E) {st : List Str} (hs : SubP F st) {d : D} (hd : BadR F E d) : C (n + 10) 46 [.tup [.tup (F.map .str), .tup (E.map eD)], .tup (st.map .str), d] = .exc 4 .non := by
  rw [e46]
  exact (congrArg Fl.out (ex_skip (p := .non) rfl (need_state_ok (n + 4) hB hs))).trans (ex_exc rfl (need_row_bad (n + 6) hd))
theorem badr61 (n : Nat) {F : List Str} {E : List Er} (hB : BookP F E) {m b : List Str} (hw : WantP F m b) {d : D} (hd : BadR F E d) : C (n + 10) 61 [.tup [.tup (F.map .str), .tup (E.map eD)], .tup [.tup (m.map .str), .tup (b.map .str)], d] = .exc 4 .non := by
  have h2 : C (n + 9) 38 [.tup [.tup (F.map .str), .tup (E.map eD)], .tup [.tup (m.map .str), .tup (b.map .str)]] = .ok (.bl true) := is_want_ok (n + 7) E hw hB.len
  have h3 : C (n + 9) 44 [.tup [.tup (F.map .str), .tup (E.map eD)], d] = .exc 4 .non := need_row_bad (n + 6) hd
  rw [e61]
  refine (congrArg Fl.out (ex_skip (p := .non) rfl (need_book_ok (n + 5) hB))).trans ?_
  rw [sl_cons, s_iff]
  simp [h2, h3]
theorem badr55 (n : Nat) {F : List Str} {E : List Er} (hB : BookP F E) {st : List Str} (hs : SubP F st) {m b : List Str} (hw : WantP F m b) {d : D} (hd : BadR F E d) : C (n + 10) 55 [.tup [.tup (F.map .str), .tup (E.map eD)], .tup (st.map .str), .tup [.tup (m.map .str), .tup (b.map .str)], d] = .exc 4 .non := by
  rw [e55]
  exact (congrArg Fl.out (ex_skip (p := .non) rfl (need_all_ok (n + 3) hB hs hw))).trans (ex_exc rfl (need_row_bad (n + 6) hd))
theorem badr135 (n : Nat) {F : List Str} {E : List Er} (hB : BookP F E) {st : List Str} (hs : SubP F st) {m b : List Str} (hw : WantP F m b) {d : D} (hd : BadR F E d) : C (n + 10) 135 [.tup [.tup (F.map .str), .tup (E.map eD)], .tup (st.map .str), .tup [.tup (m.map .str), .tup (b.map .str)], d] = .exc 4 .non := by
  rw [e135]
  exact (congrArg Fl.out (ex_skip (p := .non) rfl (need_all_ok (n + 3) hB hs hw))).trans (ex_exc rfl (need_row_bad (n + 6) hd))
theorem badr139 (n : Nat) {F : List Str} {E : List Er} (hB : BookP F E) {st : List Str} (hs : SubP F st) {m b : List Str} (hw : WantP F m b) {d : D} (hd : BadR F E d) : C (n + 10) 139 [.tup [.tup (F.map .str), .tup (E.map eD)], .tup (st.map .str), .tup [.tup (m.map .str), .tup (b.map .str)], d] = .exc 4 .non := by
  rw [e139]
  exact (congrArg Fl.out (ex_skip (p := .non) rfl (need_all_ok (n + 3) hB hs hw))).trans (ex_exc rfl (need_row_bad (n + 6) hd))
theorem bad201 (n : Nat) {F : List Str} {E : List Er} (hB : BookP F E) {st : List Str} (hs : SubP F st) {m b : List Str} (hw : WantP F m b) {d : D} (hd : BadR F E d) {w : Int} (w0 : 0 ≤ w) (w1 : w < 7) : C (n + 11) 201 [.int w, .tup [.tup (F.map .str), .tup (E.map eD)], .tup (st.map .str), .tup [.tup (m.map .str), .tup (b.map .str)], d] = .exc 4 .non := by
  have h48 : C (n + 10) 48 [.tup [.tup (F.map .str), .tup (E.map eD)], d] = .exc 4 .non := badr48 n hB hd
  have h131 : C (n + 10) 131 [.tup [.tup (F.map .str), .tup (E.map eD)], d] = .exc 4 .non := badr131 n hB hd
  have h46 : C (n + 10) 46 [.tup [.tup (F.map .str), .tup (E.map eD)], .tup (st.map .str), d] = .exc 4 .non := badr46 n hB hs hd
  have h61 : C (n + 10) 61 [.tup [.tup (F.map .str), .tup (E.map eD)], .tup [.tup (m.map .str), .tup (b.map .str)], d] = .exc 4 .non := badr61 n hB hw hd
  have h55 : C (n + 10) 55 [.tup [.tup (F.map .str), .tup (E.map eD)], .tup (st.map .str), .tup [.tup (m.map .str), .tup (b.map .str)], d] = .exc 4 .non := badr55 n hB hs hw hd
  have h135 : C (n + 10) 135 [.tup [.tup (F.map .str), .tup (E.map eD)], .tup (st.map .str), .tup [.tup (m.map .str), .tup (b.map .str)], d] = .exc 4 .non := badr135 n hB hs hw hd
  have h139 : C (n + 10) 139 [.tup [.tup (F.map .str), .tup (E.map eD)], .tup (st.map .str), .tup [.tup (m.map .str), .tup (b.map .str)], d] = .exc 4 .non := badr139 n hB hs hw hd
  obtain rfl | rfl | rfl | rfl | rfl | rfl | rfl : w = 0 ∨ w = 1 ∨ w = 2 ∨ w = 3 ∨ w = 4 ∨ w = 5 ∨ w = 6 := by omega
  · rw [e201]
    simp [b201, h48, atI, ixN, ownOf, setE, freeze, Sl.un, sizeLine]
  · rw [e201]
    simp [b201, h131, atI, ixN, ownOf, setE, freeze, Sl.un, sizeLine]
  · rw [e201]
    simp [b201, h46, atI, ixN, ownOf, setE, freeze, Sl.un, sizeLine]
  · rw [e201]
    simp [b201, h61, atI, ixN, ownOf, setE, freeze, Sl.un, sizeLine]
  · rw [e201]
    simp [b201, h55, atI, ixN, ownOf, setE, freeze, Sl.un, sizeLine]
  · rw [e201]
    simp [b201, h135, atI, ixN, ownOf, setE, freeze, Sl.un, sizeLine]
  · rw [e201]
    simp [b201, h139, atI, ixN, ownOf, setE, freeze, Sl.un, sizeLine]
end Pu
end
section
set_option maxRecDepth 100000
set_option maxHeartbeats 2000000
namespace Pu
open PySem PySem.Spec L2
theorem c178 (n : Nat) (ds : List D) : C (n + 1) 178 ds = C (n + 1) 15 ds := rfl
theorem b179_eq : b179 = (.cons (.set 2 (.tup (.cons (.str "a") (.cons (.str "b") .nil)))) (.cons (.set 3 (.tup (.cons (.str "x") (.cons (.tup .nil) (.cons (.tup .nil) (.cons (.tup .nil) (.cons (.tup .nil) (.cons (.int 0) .nil)))))))) (.cons (.set 4 (.call 178 (.cons (.var 0) (.cons (.bin .add (.var 1) (.int 1)) .nil)))) b16_t1))) := rfl
theorem bade_n : ∀ e ∈ badE, BadB (.tup [.tup [.str "a", .str "b"], .tup [e]]) ∧ BadB (.tup [.tup [.str "a", .str "b"], .tup [goodE, e]]) := fun e he => by
  simp only [badE, List.mem_cons, List.not_mem_nil, or_false] at he
  rcases he with rfl | rfl | rfl | rfl | rfl | rfl | rfl | rfl | rfl | rfl | rfl | rfl | rfl | rfl | rfl | rfl <;> exact ⟨fun n => rfl, fun n => rfl⟩
theorem badb_n {b : D} (hb : b ∈ badE) : ∀ d ∈ badBk b, BadB d := fun d hd => by
  obtain ⟨h1, h2⟩ := bade_n b hb
  simp only [badBk, List.mem_cons, List.not_mem_nil, or_false] at hd
  rcases hd with rfl | rfl | rfl | rfl | rfl | rfl | rfl | rfl | rfl | rfl | rfl | rfl | rfl | rfl | rfl | rfl
  · exact h1
  · exact h2
  all_goals exact fun n => rfl
theorem bad_book_n (n : Nat) (ns : List Int) (at_ : Int) (h0 : 0 ≤ at_) : ∃ d, C (n + 4) 179 [.scr ns, .int at_] = .ok d ∧ BadB d := by
  obtain ⟨k, b, hk, hb, mb⟩ := pick_ok n ns (at_ + 1) (by omega) badE (by simp [badE])
  have h15 : C (n + 3) 178 [.scr ns, .int (at_ + 1)] = .ok b := by
    rw [c178, e15, pre15]
    have hk' : C (n + 2) 9 [.scr ns, .int (at_ + 1), .int 16] = .ok (.int k) := hk
    simp only [b15_t1, sl_cons, s_ret, q_ix, q_call, l_cons, l_nil, q_var, q_int, get_0, get_s, R.bind_ok, hk', ix_l, hb, R.ofO_some, Fl.of_ok, seq_ret, Fl.out_ret]
  obtain ⟨m, x, hm, hx, mx⟩ := pick_ok (n + 1) ns at_ h0 [D.int 0, D.int 0, D.int 0, D.int 1, D.int 1, D.int 3, D.int 4, D.int 5, D.int 6, D.int 7, D.int 8, D.int 9, D.int 10, D.int 11, D.int 12, D.int 13, D.int 14, D.int 15] (by simp)
  obtain ⟨j, ej, j0, j1⟩ : ∃ j : Int, x = .int j ∧ 0 ≤ j ∧ j < 16 := by
    simp only [List.mem_cons, List.not_mem_nil, or_false] at mx
    rcases mx with rfl | rfl | rfl | rfl | rfl | rfl | rfl | rfl | rfl | rfl | rfl | rfl | rfl | rfl | rfl | rfl | rfl | rfl <;> exact ⟨_, rfl, by decide, by decide⟩
  subst ej
  obtain ⟨d, hd, md⟩ := atI_lt (xs := badBk b) j0 (by simp [badBk]; omega)
  refine ⟨d, ?_, badb_n mb d md⟩
  have hm' : C (n + 3) 9 [.scr ns, .int at_, .int 18] = .ok (.int m) := hm
  rw [e179, b179_eq]
  simp only [sl_cons, s_set, q_tup, l_cons, l_nil, q_str, q_int, R.bind_ok, Fl.of_ok, setE, List.length_cons, List.length_nil, List.set_cons_succ, List.set_cons_zero, Nat.reduceAdd, Nat.reduceLT, if_true, seq_nx, q_call, q_var, get_0, get_s, q_bin, add_i, h15]
  rw [pre16]
  simp only [b16_t2, sl_cons, s_ret, q_ix, q_lst, q_call, l_cons, l_nil, q_var, q_int, get_0, get_s, R.bind_ok, hm', ix_l, hx, hd, R.ofO_some, Fl.of_ok, seq_ret, Fl.out_ret]
theorem refus (n : Nat) {F : List Str} {E : List Er} (hB : BookP F E) {st m b : List Str} (hs : SubP F st) (hw : WantP F m b) {d0 d1 d2 d3 : D} (h0 : BadB d0) (h1 : BadSt F d1) (h2 : BadW F d2) (h3 : BadR F E d3) (w : Int) :
    C (n + 12) 202 [.int 0, .int w, .tup [bD F E, tW st, wD m b], d0] = .ok (.tup [.str sRefused, .int 0]) ∧
    C (n + 12) 202 [.int 1, .int w, .tup [bD F E, tW st, wD m b], d1] = .ok (.tup [.str sRefused, .int 1]) ∧
    C (n + 12) 202 [.int 2, .int w, .tup [bD F E, tW st, wD m b], d2] = .ok (.tup [.str sRefused, .int 2]) ∧
    C (n + 12) 202 [.int 3, .int w, .tup [bD F E, tW st, wD m b], d3] = .ok (.tup [.str sRefused, .int 4]) := by
  have g0 := bad198 n h0 (Int.emod_nonneg w (show (36 : Int) ≠ 0 by decide)) (Int.emod_lt_of_pos w (show (0 : Int) < 36 by decide))
  have g1 := bad199 n hB h1 (Int.emod_nonneg w (show (25 : Int) ≠ 0 by decide)) (Int.emod_lt_of_pos w (show (0 : Int) < 25 by decide))
  have g2 := bad200 n hB hs h2 (Int.emod_nonneg w (show (15 : Int) ≠ 0 by decide)) (Int.emod_lt_of_pos w (show (0 : Int) < 15 by decide))
  have g3 := bad201 n hB hs hw h3 (Int.emod_nonneg w (show (7 : Int) ≠ 0 by decide)) (Int.emod_lt_of_pos w (show (0 : Int) < 7 by decide))
  have hb : ∀ k x : D, bindT [.sh k, .sh (.int w), .sh (.tup [bD F E, tW st, wD m b]), .sh x, .em, .em, .em, .em] (.many [4, 5, 6]) (.tup [bD F E, tW st, wD m b]) = .ok [.sh k, .sh (.int w), .sh (.tup [bD F E, tW st, wD m b]), .sh x, .sh (bD F E), .sh (tW st), .sh (wD m b), .em] := fun k x => by
    simp [bindT, bindMany, bindOne, isOwn]
  refine ⟨?_, ?_, ?_, ?_⟩
  · rw [e202]
    simp only [b202, sl_cons, s_unp, q_var, get_s, get_0, R.bind_ok, Fl.of_ok, hb, seq_nx]
    simp [g0, Fl.tri, List.find?, subC, hdl, refD]
  · rw [e202]
    simp only [b202, sl_cons, s_unp, q_var, get_s, get_0, R.bind_ok, Fl.of_ok, hb, seq_nx]
    simp [g1, Fl.tri, List.find?, subC, hdl, refD]
  · rw [e202]
    simp only [b202, sl_cons, s_unp, q_var, get_s, get_0, R.bind_ok, Fl.of_ok, hb, seq_nx]
    simp [g2, Fl.tri, List.find?, subC, hdl, refD]
  · rw [e202]
    simp only [b202, sl_cons, s_unp, q_var, get_s, get_0, R.bind_ok, Fl.of_ok, hb, seq_nx]
    simp [g3, Fl.tri, List.find?, subC, hdl, refD]
end Pu
end
section
set_option maxRecDepth 100000
set_option maxHeartbeats 2000000
namespace Pu
open PySem PySem.Spec L2
abbrev X203 (ns : List Int) (cD fD : D) (k : Int) (s4 s5 s6 : Sl) : Env := [.sh (.scr ns), .sh cD, .sh fD, .sh (.int k), s4, s5, s6]
theorem turn203 {ns : List Int} {cD fD L d : D} {ds : List D} {k c : Int} {s4 s6 : Sl} (hL : L = .lst ds) (h4 : s4 = .ow L ∨ s4 = .sh L) (h6 : isOwn (some s6) = false) (hd : atI ds k = some d) (hc : atI [D.int 0, D.int 1, D.int 2, D.int 4] k = some (.int c))
    (hr : ∀ w : Int, C 12 202 [.int k, .int w, cD, d] = .ok (.tup [.str sRefused, .int c])) {i : Int} (h0 : 0 ≤ i) :
    ∃ t6, evSL ⟨C 12, libG⟩ (X203 ns cD fD k s4 (.sh (.int i)) s6) b203_1 = .nx (X203 ns cD fD k (.sh L) (.sh (.int i)) t6) ∧ isOwn (some t6) = false := by
  obtain ⟨w, hw, _⟩ := mixed_ok 10 ns (900 + i) 1000000 (by omega) (by decide)
  have hw' : C 12 9 [.scr ns, .int (900 + i), .int 1000000] = .ok (.int w) := hw
  have sm : binD .pow (.int 10) (.int 6) = .ok (.int 1000000) := by rfl
  refine ⟨.sh (.int w), ?_, rfl⟩
  subst hL
  rcases h4 with rfl | rfl
  · simp [b203_1, X203, sm, hw', setE, h6, freeze, Sl.un, hd, hc, hr, s_ref, er_ref]
  · simp [b203_1, X203, sm, hw', setE, h6, freeze, Sl.un, hd, hc, hr, s_ref, er_ref]
theorem law_k39 (ns : List Int) (hl : ns.length ≤ 63) : C 13 203 [.scr ns] = .ok (.bl true) := by
  obtain ⟨F, E, st, m, b, c1, hB, hs, hw, hD⟩ := case_okL 6 ns 5 4 (by decide) (by decide)
  have c1' : C 12 31 [.scr ns, .int 5, .int 4] = .ok (.tup [bD F E, tW st, wD m b]) := c1
  obtain ⟨k, k1, k2, k3⟩ := mixed_ok 10 ns 0 4 (by decide) (by decide)
  have k1' : C 12 9 [.scr ns, .int 0, .int 4] = .ok (.int k) := k1
  obtain ⟨d0, a0, b0⟩ := bad_book_n 8 ns 1 (by decide)
  have a0' : C 12 179 [.scr ns, .int 1] = .ok d0 := a0
  obtain ⟨d1, a1, b1⟩ := bad_state_ok 9 ns 5 F (by decide) hB.facts hB.len
  have a1' : C 12 34 [.scr ns, .int 5, .tup (F.map .str)] = .ok d1 := a1
  obtain ⟨d2, a2, b2⟩ := bad_want_ok 8 ns 7 F (by decide) hB.facts hB.len
  have a2' : C 12 41 [.scr ns, .int 7, .tup (F.map .str)] = .ok d2 := a2
  obtain ⟨d3, a3, b3⟩ := bad_row_ok 9 ns 10 (by decide) hB hD.n5
  have a3' : C 12 51 [.scr ns, .int 10, .tup [.tup (F.map .str), .tup (E.map eD)]] = .ok d3 := a3
  have rr := fun w => refus 0 hB hs hw b0 b1 b2 b3 w
  obtain ⟨d, c, hd, hc, hr⟩ : ∃ d c, atI [d0, d1, d2, d3] k = some d ∧ atI [D.int 0, D.int 1, D.int 2, D.int 4] k = some (.int c) ∧ ∀ w : Int, C 12 202 [.int k, .int w, .tup [bD F E, tW st, wD m b], d] = .ok (.tup [.str sRefused, .int c]) := by
    obtain rfl | rfl | rfl | rfl : k = 0 ∨ k = 1 ∨ k = 2 ∨ k = 3 := by omega
    · exact ⟨d0, 0, rfl, rfl, fun w => (rr w).1⟩
    · exact ⟨d1, 1, rfl, rfl, fun w => (rr w).2.1⟩
    · exact ⟨d2, 2, rfl, rfl, fun w => (rr w).2.2.1⟩
    · exact ⟨d3, 4, rfl, rfl, fun w => (rr w).2.2.2⟩
  obtain ⟨env', f1, t4, t5, t6, f2⟩ := forL_st (bind := fun env d => bindT env (.one 5) d) (b := fun env => evSL ⟨C 12, libG⟩ env b203_1) (ds := rng 0 6)
    (env := X203 ns (.tup [bD F E, tW st, wD m b]) (tW F) k (.ow (.lst [d0, d1, d2, d3])) .em .em) (fun env => ∃ t4 t5 t6, env = X203 ns (.tup [bD F E, tW st, wD m b]) (tW F) k t4 t5 t6 ∧ (t4 = .ow (.lst [d0, d1, d2, d3]) ∨ t4 = .sh (.lst [d0, d1, d2, d3])) ∧ isOwn (some t5) = false ∧ isOwn (some t6) = false) ⟨_, .em, .em, rfl, .inl rfl, rfl, rfl⟩ (fun x env hx ⟨t4, t5, t6, he, j4, j5, j6⟩ => by
      obtain ⟨i, hi⟩ := List.getElem?_of_mem hx
      obtain ⟨rfl, hi4⟩ := rng_get hi
      subst he
      obtain ⟨u6, g1, g2⟩ := turn203 (ns := ns) (fD := tW F) (s6 := t6) rfl j4 j6 hd hc hr (i := (i : Int)) (by omega)
      exact ⟨X203 ns (.tup [bD F E, tW st, wD m b]) (tW F) k t4 (.sh (.int i)) t6, _, by simp [bindT, bindOne, X203, j5], g1, _, _, u6, rfl, .inr rfl, rfl, g2⟩)
  obtain ⟨f2, _⟩ := f2
  subst f2
  have hok : okR 6 0 = true := by decide
  unfold X203 at f1
  have q0 : atI [D.tup [.tup (F.map .str), .tup (E.map eD)], .tup (st.map .str), .tup [.tup (m.map .str), .tup (b.map .str)]] 0 = some (.tup [.tup (F.map .str), .tup (E.map eD)]) := rfl
  have q1 : atI [D.tup (F.map .str), .tup (E.map eD)] 0 = some (.tup (F.map .str)) := rfl
  rw [e203]
  simp [b203, c1', k1', a0', a1', a2', a3', setE, ownOf, hok, f1, sizeLine, q0, q1]
end Pu
end
section
set_option maxHeartbeats 0
set_option maxRecDepth 100000
open PySem PySem.W PySem.Calls PyProof.Rows
theorem PySem.Challenge.cw_errands_k39_refused_holds : PySem.Challenge.rw_errands_k39_refused.Holds := by
  w_on; o_law
  refine HandSHeadRun.head_any (r := OpenLaw.row PySem.Challenge.rw_errands_k39_refused) (q := view (OpenLaw.row PySem.Challenge.rw_errands_k39_refused).prog [144]) (H := Hd.hk) (ob := Hd.ob) (M := 30000) (loose := Hd.loose) (d := HandSHeadRun.topDef (OpenLaw.row PySem.Challenge.rw_errands_k39_refused).prog 144) (kwd := []) Hd.ob_eq
    (by kernel_rfl) (fun s => by kernel_rfl) Hd.run (by kernel_rfl) (by kernel_rfl) (by kernel_rfl) (by rfl) (by first | assumption | decide +kernel) (by decide +kernel) ⟨rfl, rfl, rfl, rfl, rfl, by decide +kernel⟩ ?hw ?hc
  case hw => w_witness2
  case hc =>
    refine L2.walk_ofE (l := PySem.Challenge.rw_errands_k39_refused) (n := 63) (k := 15) (x := "_law_script") (CX := Pu.CXw PySem.Challenge.rw_errands_k39_refused.prog) rfl (by decide) (by kernel_rfl) ⟨rfl, by decide, by decide⟩ ?F Pu.CXw.no
    intro w mg fa h Y G hmg0
    obtain ⟨K, KX, c⟩ := Y
    have hmg : mg ("law" : PySem.Str) = some (.ref fa) := by
      have e : (HandSHeadRun.topDef (OpenLaw.row PySem.Challenge.rw_errands_k39_refused).prog 144).name = ("law" : PySem.Str) := by kernel_rfl
      rw [← e]
      exact hmg0
    obtain ⟨fd, sp, h1, h2, h3⟩ := Pu.law_end (Ds := Hd.Ds) (bis := Hd.bis) (glv := Hd.glv) (cls := Hd.cls) (whs := Hd.whs) (inis := Hd.inis) (T := Pu.libT) (gl := Pu.libG) (Pg := PySem.Challenge.rw_errands_k39_refused.prog) (w := w) (n := 13) (li := 203) (sc := "_law_script") KX G c.d c.e Hd.chw Hd.bindw Hd.chi Hd.bindi Hd.chk Hd.binds (by decide +kernel) (by decide +kernel) Hd.hT Hd.hG (d := Hd.d203) rfl rfl hmg (Pu.law_k39)
    exact ⟨K, fd, sp, KX, h1, fun H a ns hl ho hS => h2 H a ns hl ho hS, h3⟩
end
