import PyProof.Rows.All
import Wide.All
import OpenK.AllK
import Wide.FinOn
import HandS.ForMost
import HandS.Deep
import KE.SortData
import KE.KDictKeyed
import HandS.Lambda
import HandS.ExcInit
import HandS.TupAny
import HandS.TupMul
import HandS.Wide
import HandS.TupLe
import HandS.RaiseMore
import HandS.IsInst
import HandS.More
import HandS.ForExc
import HandS.Star
import KE.KDflt
import HandS.ExcIs
import HandS.ExcField
import HandS.HeadHook3
import KE.KExcSuper
import KE.KExcLine
import HandS.ExcSuper
import HandS.ExcValue
import KE.GoesMore
import HandS.Iter
import HandS.Zip
import HandS.ExcOwn
import KE.KRevSl
import HandS.SetFor
import HandS.Strs
import HandS.TupSets
import HandS.Keys
import KE.KDictZip
import PyProof.ListNew
import HandS.FStr
import PyProof.ListStr
import HandS.Style
import KE.DataFind
import KE.KTryMore
import HandS.EndTab
import HandS.HeadHook4
import HandS.Head2
import HandS.Defaults
import HandS.Words
import HandS.Head0
import HandS.Head1
import PySem.Challenge.RW_fallcuts_k01_errors_made
set_option Elab.async false
section
set_option Elab.async false
set_option linter.all false
namespace FC
open PySem
inductive PV where
  | d (x : PyData)
  | o (n : Nat)
  | s (ns : List Int)
  | x (cl : Nat) (ds : List PyData)
  | xs (es : List (Nat × List PyData))
inductive PObj where
  | dct (kvs : List (PyData × PyData))
  | tab (kvs : List (NestedKey × PyData))
  | ins (c : Nat) (fs : List (Str × PV))
abbrev Objs := List PObj
inductive Sl where
  | un
  | v (x : PV)
  | m (x : PyData)
  | b (x : PyData)
abbrev PEnv := List Sl
structure PExc where
  cls : Nat
  args : List PyData
inductive R (α : Type) where
  | ok (a : α) (os : Objs)
  | er (e : PExc) (os : Objs)
  | st
inductive SR where
  | nx (env : PEnv) (os : Objs)
  | rt (v : PV) (os : Objs)
  | er (e : PExc) (os : Objs)
  | st
inductive P1 where
  | neg | len | repr | sorted | list | tuple | all | any | sum | minl | maxl | int | str | rev | srtset | dict | isi (t : String)
  deriving DecidableEq
inductive P2 where
  | add | sub | mul | fdiv | mod | pow | band | bxor
  | eq | ne | lt | le | gt | ge | isin | nin
  | idx | min2 | max2 | index
  deriving DecidableEq
inductive Mth where
  | split | part | join | idxT | idxL
  deriving DecidableEq
inductive Tgt where
  | one (i : Nat)
  | tup (ts : List Tgt)
mutual
inductive Ex where
  | var (i : Nat)
  | bor (i : Nat)
  | cst (d : PyData)
  | op1 (p : P1) (a : Ex)
  | op2 (p : P2) (a b : Ex)
  | slc (a : Ex) (lo hi : Option Ex)
  | chain (p q : P2) (a b c : Ex)
  | nt (a : Ex) | an (a b : Ex) | orr (a b : Ex) | ite (c a b : Ex)
  | isN (a : Ex) | nN (a : Ex)
  | tup (as : List Ex) | lst (as : List Ex) | star (a : Ex)
  | dic0 | dic1 (k v : Ex)
  | comp (t : Tgt) (it : It) (c : Option Ex) (e : Ex)
  | call (f : Nat) (as : List Ex)
  | said (f : Nat) (e : Ex)
  | isx (a : Ex) (cs : List Nat)
  | xget (a : Ex) (k : Str)
  | oget (a : Ex) (k : Str)
  | begin (a : Ex)
  | tnew
  | tin (ng : Bool) (i j : Nat)
  | tget (j i : Nat)
  | comp2 (t : Tgt) (it : It) (t1 : Tgt) (it1 : It) (c : Option Ex) (e : Ex)
  | dic2 (k v k2 v2 : Ex)
  | get1 (a k : Ex)
  | getd (a k d : Ex)
  | mth (m : Mth) (a b : Ex)
  | repl (a b c : Ex)
  | fst (as : List Ex)
  | tint (a : Ex)
  | chrs (a : Ex)
  | compz (i : Nat) (a b : Ex) (c : Option Ex) (e : Ex)
  | stuck
  | kget (x : Str) (kvs : List (Str × Int)) (k : Ex)
  | kcpy (x : Str) (kvs : List (Str × Int))
  | zlst (a b : Ex)
  | zdic (a b : Ex)
  | isB (b : Bool) (a : Ex)
  | mkx (cl kw : Nat) (as : List Ex)
  | isy (w : Nat) (a : Ex)
  | isf
  | lstx (as : List Ex)
  | catx (a b : Ex)
inductive It where
  | seq (e : Ex)
  | rng1 (a : Ex) | rng2 (a b : Ex)
  | enum (e : Ex) | zip (a b : Ex)
  | rng3 (a b c : Ex)
  | chars (e : Ex)
end
inductive S where
  | skip | seq (a b : S)
  | set (t : Tgt) (e : Ex)
  | own (i : Nat) (e : Ex)
  | par (ts : List (Bool × Nat)) (es : List Ex)
  | nx2 (i : Nat) (o : Ex) (k : Str) (a b : Ex)
  | frz (i : Nat)
  | app (i : Nat) (e : Ex) | ext (i : Nat) (e : Ex) | pop (i j : Nat) | rem (i : Nat) (e : Ex)
  | dput (i : Nat) (k v : Ex) | dupd (i : Nat) (e : Ex)
  | oput (o : Ex) (k : Str) (e : Ex)
  | tput (j i : Nat) (e : Ex)
  | ife (c : Ex) (a b : S)
  | fr (t : Tgt) (it : It) (b : S)
  | wh (c : Ex) (b : S)
  | ret (e : Ex)
  | ex (e : Ex)
  | rais (c : Nat) (es : List Ex)
  | stuck
  | frx (i j : Nat) (e : Ex) (b : S)
  | hand (g : (Nat → List PV → Objs → R PV) → PEnv → Objs → SR)
def isEP : PyData → Bool
  | .tuple [.int _, .int _] => true
  | _ => false
def isEs (ds : List PyData) : Bool := !ds.isEmpty && ds.all isEP
def noEE (xs ys : List PyData) : Bool := xs.all (fun x => !isEP x) || ys.all (fun y => !isEP y)
def fit (n : Nat) : Bool := decide (n ≤ sizeLine)
def boolsD : List PyData → Option (List Bool)
  | [] => some []
  | .bool b :: r => (boolsD r).map (b :: ·)
  | _ :: _ => none
def intsD : List PyData → Option (List Int)
  | [] => some []
  | .int b :: r => (intsD r).map (b :: ·)
  | _ :: _ => none
def seqD : PyData → Option (List PyData)
  | .list xs => some xs
  | .tuple xs => some xs
  | _ => none
def allAl (xs : List PyData) : Bool := xs.all fun x => xs.all fun y => PySem.W.alike x y
def neTup : PyData → Bool
  | .tuple (_ :: _) => true
  | _ => false
def plainD : PyData → Bool
  | .int _ => true
  | .str _ => true
  | _ => false
def leD (x y : PyData) : Bool := PySem.W.dataLe false id x y
def insD (x : PyData) : List PyData → List PyData
  | [] => [x]
  | y :: r => if leD x y then x :: y :: r else y :: insD x r
def srt : List PyData → List PyData
  | [] => []
  | x :: r => insD x (srt r)
def insU (x : Int) : List Int → List Int
  | [] => [x]
  | y :: r => if x < y then x :: y :: r else if x = y then y :: r else y :: insU x r
def srtU : List Int → List Int
  | [] => []
  | x :: r => insU x (srtU r)
def sameA : PyData → PyData → Bool
  | .int a, .int b => decide (a = b)
  | .str a, .str b => decide (a = b)
  | _, _ => false
def sameAs : List PyData → List PyData → Bool
  | [], [] => true
  | x :: xs, y :: ys => sameA x y && sameAs xs ys
  | _, _ => false
def sameF : PyData → PyData → Bool
  | .tuple xs, .tuple ys => sameAs xs ys
  | x, y => sameA x y
def antiOk (xs : List PyData) : Bool := xs.all fun x => xs.all fun y => !(leD x y && leD y x) || sameF x y
def srtOk (xs : List PyData) : Bool := allAl xs && (xs.all neTup || xs.all plainD) && (xs.all fun x => decide (x.depth ≤ 60)) && fit xs.length && antiOk xs
def minI : Int → List Int → Int
  | a, [] => a
  | a, b :: r => minI (if b < a then b else a) r
def maxI : Int → List Int → Int
  | a, [] => a
  | a, b :: r => maxI (if a < b then b else a) r
def eqOk (a b : PyData) : Bool := SeqAt.shaped a && SeqAt.shaped b
def strS : PyData → PyData → Bool
  | .str _, .str _ => true
  | _, _ => false
def nilT : PyData → PyData → Bool
  | .tuple _, .tuple [] => true
  | .list _, .int _ => true
  | .tuple _, .int _ => true
  | .dict _, .int _ => true
  | _, _ => false
def cutD (xs : List PyData) (lo hi : Option Int) : List PyData := (xs.drop (HT.sIx xs.length 0 lo)).take (HT.sIx xs.length xs.length hi - HT.sIx xs.length 0 lo)
def ownD : PyData → Bool
  | .list _ => true
  | .dict _ => true
  | _ => false
def isNoneD : PyData → Bool
  | .none => true
  | _ => false
def isInt : PyData → Bool
  | .int _ => true
  | .bool _ => true
  | _ => false
def isBool : PyData → Bool
  | .bool _ => true
  | _ => false
def isTup : PyData → Bool
  | .tuple _ => true
  | _ => false
def isStr : PyData → Bool
  | .str _ => true
  | _ => false
def isList : PyData → Bool
  | .list _ => true
  | _ => false
def isiD (t : String) (d : PyData) : Option Bool :=
  if t = "int" then some (isInt d) else if t = "bool" then some (isBool d) else if t = "tuple" then some (isTup d) else if t = "str" then some (isStr d) else if t = "list" then some (isList d) else none
def isKey : PyData → Bool
  | .int _ => true
  | .str _ => true
  | _ => false
def keyEq : PyData → PyData → Bool
  | .int a, .int b => decide (a = b)
  | .str a, .str b => decide (a = b)
  | _, _ => false
def putD (k v : PyData) (kvs : List (PyData × PyData)) : List (PyData × PyData) :=
  if (kvs.any fun p => keyEq p.1 k) = true then kvs.map (fun p => if keyEq p.1 k = true then (p.1, v) else p) else kvs ++ [(k, v)]
def mergeD (kvs more : List (PyData × PyData)) : List (PyData × PyData) := more.foldl (fun acc p => putD p.1 p.2 acc) kvs
def pairsD : List PyData → Option (List (PyData × PyData))
  | [] => some []
  | .tuple [k, v] :: r => if isKey k then (pairsD r).map ((k, v) :: ·) else none
  | _ :: _ => none
def pairsI : List PyData → Option (List (Int × Int))
  | [] => some []
  | .tuple [.int a, .int b] :: r => (pairsI r).map ((a, b) :: ·)
  | _ :: _ => none
def ltP (x y : Int × Int) : Bool := decide (x.1 < y.1) || (decide (x.1 = y.1) && decide (x.2 < y.2))
def insP (x : Int × Int) : List (Int × Int) → List (Int × Int)
  | [] => [x]
  | y :: r => if ltP x y then x :: y :: r else if x = y then y :: r else y :: insP x r
def srtP : List (Int × Int) → List (Int × Int)
  | [] => []
  | x :: r => insP x (srtP r)
def d1 : P1 → PyData → Option PyData
  | .neg, .int i => some (.int (-i))
  | .len, .list xs => some (.int xs.length)
  | .len, .tuple xs => some (.int xs.length)
  | .len, .str x => if fit x.length then some (.int x.length) else none
  | .len, .dict kvs => some (.int kvs.length)
  | .repr, d => if d.showable && decide (d.depth ≤ 60) && fit d.shown.length then some (.str d.shown) else none
  | .sorted, .list xs => if srtOk xs then some (.list (srt xs)) else none
  | .sorted, .tuple xs => if srtOk xs then some (.list (srt xs)) else none
  | .list, .list xs => some (.list xs)
  | .list, .tuple xs => some (.list xs)
  | .list, .dict kvs => some (.list (kvs.map (·.1)))
  | .tuple, .list xs => some (.tuple xs)
  | .tuple, .tuple xs => some (.tuple xs)
  | .all, .list xs => (boolsD xs).map fun bs => .bool (bs.all id)
  | .any, .list xs => (boolsD xs).map fun bs => .bool (bs.any id)
  | .sum, .list xs => (intsD xs).map fun ns => .int ns.sum
  | .sum, .tuple xs => (intsD xs).map fun ns => .int ns.sum
  | .minl, .list xs => match intsD xs with
    | some (a :: r) => some (.int (minI a r))
    | _ => none
  | .maxl, .list xs => match intsD xs with
    | some (a :: r) => some (.int (maxI a r))
    | _ => none
  | .minl, .tuple xs => match intsD xs with
    | some (a :: r) => some (.int (minI a r))
    | _ => none
  | .maxl, .tuple xs => match intsD xs with
    | some (a :: r) => some (.int (maxI a r))
    | _ => none
  | .int, .int i => some (.int i)
  | .str, .int i => if decide (i.natAbs.log2 < 1920) then some (.str (toString i)) else none
  | .rev, .tuple xs => some (.tuple xs.reverse)
  | .srtset, .list xs => match intsD xs with
    | some ns => if ns.length < 64 then some (.list ((srtU ns).map .int)) else none
    | none => (match pairsI xs with
      | some ps => if ps.length < 64 && ps.all (fun p => decide (0 ≤ p.1) && decide (0 ≤ p.2)) then some (.list ((srtP ps).map fun p => .tuple [.int p.1, .int p.2])) else none
      | none => none)
  | .dict, .list xs => if fit xs.length then (pairsD xs).map fun kvs => .dict (mergeD [] kvs) else none
  | .isi t, d => (isiD t d).map .bool
  | _, _ => none
def inD (x : PyData) (ys : List PyData) : Option Bool := if SeqAt.shaped x && ys.all SeqAt.shaped then some (ys.any fun y => PyData.eqv y x) else none
def keyIn (k : PyData) (kvs : List (PyData × PyData)) : Bool := kvs.any fun p => keyEq p.1 k
def memD (x : PyData) : PyData → Option Bool
  | .list ys => inD x ys
  | .tuple ys => inD x ys
  | .dict kvs => if isKey x then some (keyIn x kvs) else none
  | .str z => match x with
    | .str ⟨cs⟩ => (match cs.toList with
      | [c] => some (decide (c ∈ z.cps.toList))
      | _ => none)
    | _ => none
  | _ => none
def ltD : PyData → PyData → Option Bool
  | .int a, .int b => some (decide (a < b))
  | .tuple xs, .tuple ys => (match intsD xs, intsD ys with
    | some ns, some ms => some (HT.lexLt ns ms)
    | _, _ => none)
  | _, _ => none
def valD (k : PyData) (kvs : List (PyData × PyData)) : Option PyData := (kvs.find? fun p => keyEq p.1 k).map (·.2)
def idxD : PyData → PyData → Option PyData
  | .list xs, .int i => L2.atI xs i
  | .tuple xs, .int i => L2.atI xs i
  | .dict kvs, k => if isKey k then valD k kvs else none
  | .str z, .int i => if fit z.length then (L2.atI z.cps.toList i).map fun c => .str ⟨#[c]⟩ else none
  | _, _ => none
def idxOfD (y : PyData) (xs : List PyData) : Option PyData := if SeqAt.shaped y then (xs.findIdx? fun x => PyData.eqv x y).map fun n => .int (n : Nat) else none
def charsL (z : Str) : List PyData := z.cps.toList.map fun c => .str ⟨#[c]⟩
def strsD : List PyData → Option (List Str)
  | [] => some []
  | .str z :: r => (strsD r).map (z :: ·)
  | _ :: _ => none
def mRcv : Mth → PyData → Bool
  | .split, .str _ => true
  | .part, .str _ => true
  | .join, .str _ => true
  | .idxT, .tuple xs => isEs xs
  | .idxL, .list _ => true
  | _, _ => false
def mD : Mth → PyData → PyData → Option PyData
  | .split, .str a, .str b => if !(b.length == 0) && fit (a.length + 2) then some (.list ((Txt.split a b).map .str)) else none
  | .part, .str a, .str b => if !(b.length == 0) && fit a.length then some (.tuple [.str (Txt.partition a b).1, .str (Txt.partition a b).2.1, .str (Txt.partition a b).2.2]) else none
  | .join, .str a, .list xs => (match strsD xs with
    | some ys => if decide ((ys.map (·.length)).sum + ys.length * a.length ≤ 16777216) then some (.str (Txt.join a ys)) else none
    | none => none)
  | .idxT, .tuple xs, y => if SeqAt.shaped (.tuple xs) then idxOfD y xs else none
  | .idxL, .list xs, y => if SeqAt.shaped (.list xs) then idxOfD y xs else none
  | _, _, _ => none
def fmtD : PyData → Option Str
  | .str z => some z
  | .int i => if decide (i.natAbs.log2 < 1920) then some (toString i) else none
  | _ => none
def fstD : List PyData → Str → Option Str
  | [], acc => some acc
  | x :: xs, acc => (match fmtD x with
    | some z => if fit (acc ++ z).length then fstD xs (acc ++ z) else none
    | none => none)
def tintD : PyData → Option PyData
  | .str z => if decide (z.length ≤ 640) then (PySem.intText? z).map .int else none
  | _ => none
def mulOk (i j : Int) : Bool := (decide (-(2 ^ 64) < i) && decide (i < 2 ^ 64)) || (decide (-(2 ^ 64) < j) && decide (j < 2 ^ 64))
def d2 : P2 → PyData → PyData → Option PyData
  | .add, .int a, .int b => some (.int (a + b))
  | .add, .str a, .str b => if fit (a.length + b.length) then some (.str (a ++ b)) else none
  | .add, .list a, .list b => if fit (a.length + b.length) then some (.list (a ++ b)) else none
  | .add, .tuple a, .tuple b => if fit (a.length + b.length) then some (.tuple (a ++ b)) else none
  | .sub, .int a, .int b => some (.int (a - b))
  | .mul, .int a, .int b => if mulOk a b then some (.int (a * b)) else none
  | .mul, .list a, .int k => if decide (0 ≤ k) && decide (k ≤ 1000) && decide (a.length ≤ 1000) then some (.list (List.replicate k.toNat a).flatten) else none
  | .mul, .tuple a, .int k => if decide (2 ≤ k) && decide (k ≤ 1000) && decide (a.length ≤ 1000) then some (.tuple (List.replicate k.toNat a).flatten) else none
  | .fdiv, .int a, .int b => if decide (0 < b) && (decide (b < 1073741824) || decide (b.natAbs.log2 < 9000)) then some (.int (a / b)) else none
  | .mod, .int a, .int b => if decide (0 < b) then some (.int (a % b)) else none
  | .pow, .int a, .int b => if decide (0 ≤ b) && decide (b ≤ 1000000) && decide (a.natAbs < 2 ^ 64) then some (.int (a ^ b.toNat)) else none
  | .band, .int a, .int b => some (.int (Builtin.bitAnd a b))
  | .bxor, .int a, .int b => some (.int (Builtin.bitXor a b))
  | .eq, a, b => if eqOk a b || nilT a b || strS a b then some (.bool (PyData.eqv a b)) else none
  | .ne, a, b => if eqOk a b || strS a b then some (.bool (!PyData.eqv a b)) else none
  | .lt, a, b => (ltD a b).map .bool
  | .gt, .int a, .int b => some (.bool (decide (b < a)))
  | .gt, .tuple [.int a, .int b], .tuple [.int c, .int e] => some (.bool (if a = c then decide (e < b) else decide (c < a)))
  | .le, .int a, .int b => some (.bool (decide (a ≤ b)))
  | .ge, .int a, .int b => some (.bool (decide (b ≤ a)))
  | .isin, a, b => (memD a b).map .bool
  | .nin, a, b => (memD a b).map fun k => .bool (!k)
  | .idx, a, b => idxD a b
  | .min2, .int a, .int b => some (.int (if b < a then b else a))
  | .max2, .int a, .int b => some (.int (if b > a then b else a))
  | _, _, _ => none
def rngL (lo hi : Int) : List PyData := (List.range (hi - lo).toNat).map fun (k : Nat) => .int (lo + (k : Nat))
def rngL3 (lo hi m : Int) : List PyData := (List.range ((hi - lo + m - 1) / m).toNat).map fun (k : Nat) => .int (lo + m * (k : Nat))
def rngOk (i : Int) : Bool := decide (-(2 ^ 62) ≤ i) && decide (i < 2 ^ 62)
def enumL (xs : List PyData) : List PyData := (xs.zipIdx).map fun p => .tuple [.int (p.2 : Nat), p.1]
def zipL (xs ys : List PyData) : List PyData := (xs.zip ys).map fun p => .tuple [p.1, p.2]
mutual
def bindT : Tgt → PyData → PEnv → Option PEnv
  | .one i, d, env => if decide (i < env.length) then some (env.set i (.v (.d d))) else none
  | .tup ts, .tuple ds, env => bindTs ts ds env
  | .tup _, _, _ => none
def bindTs : List Tgt → List PyData → PEnv → Option PEnv
  | [], [], env => some env
  | t :: ts, d :: ds, env => (match bindT t d env with
    | some env' => bindTs ts ds env'
    | none => none)
  | _, _, _ => none
end
mutual
def tgtIx : Tgt → List Nat
  | .one i => [i]
  | .tup ts => tgtsIx ts
def tgtsIx : List Tgt → List Nat
  | [] => []
  | t :: ts => tgtIx t ++ tgtsIx ts
end
def clrL (env : PEnv) : List Nat → PEnv
  | [] => env
  | v :: vs => (clrL env vs).set v .un
def dataAll : List PV → Option (List PyData)
  | [] => some []
  | .d x :: r => (dataAll r).map (x :: ·)
  | _ :: _ => none
def fldN : Nat → List Str
  | 1 => ["place"]
  | 2 => ["number"]
  | 3 => ["given"]
  | 4 => ["given"]
  | 5 => ["given"]
  | 6 => ["given"]
  | 7 => ["part"]
  | 8 => ["number"]
  | 9 => ["line", "word"]
  | 10 => ["most"]
  | 11 => ["many"]
  | _ => []
def clsOk (cl : Nat) : Bool := decide (1 ≤ cl) && decide (cl ≤ 11)
def xsAll : List PV → Option (List (Nat × List PyData))
  | [] => some []
  | .x c ds :: r => if clsOk c then (xsAll r).map ((c, ds) :: ·) else none
  | _ :: _ => none
def famD (w cl : Nat) : Bool :=
  match w with
  | 0 => decide (cl ≤ 9)
  | 1 => decide (cl ≤ 9)
  | 2 => decide (cl = 10)
  | _ => decide (cl = 11)
def R.bind {α β : Type} (x : R α) (f : α → Objs → R β) : R β :=
  match x with
  | .ok a os => f a os
  | .er e os => .er e os
  | .st => .st
def R.dat {β : Type} (x : R PV) (f : PyData → Objs → R β) : R β :=
  match x with
  | .ok (.d a) os => f a os
  | .ok _ _ => .st
  | .er e os => .er e os
  | .st => .st
def R.nul (x : R PV) (f : Bool → Objs → R PV) : R PV :=
  match x with
  | .ok (.d a) os => f (isNoneD a) os
  | .ok (.o _) os => f false os
  | .ok _ _ => .st
  | .er e os => .er e os
  | .st => .st
def R.opt {α : Type} (x : Option α) (os : Objs) : R α :=
  match x with
  | some a => .ok a os
  | none => .st
def R.bool {β : Type} (x : R PV) (f : Bool → Objs → R β) : R β :=
  match x with
  | .ok (.d (.bool b)) os => f b os
  | .er e os => .er e os
  | _ => .st
def R.noer {α : Type} (x : R α) : R α :=
  match x with
  | .er _ _ => .st
  | y => y
def compL (f : PyData → Objs → R (Option PyData)) : List PyData → Objs → R (List PyData)
  | [], os => .ok [] os
  | x :: xs, os => (f x os).noer.bind fun y os1 => (compL f xs os1).bind fun ys os2 => .ok (match y with | some z => z :: ys | none => ys) os2
def compL2 (f : PyData → Objs → R (List PyData)) : List PyData → Objs → R (List PyData)
  | [], os => .ok [] os
  | x :: xs, os => (f x os).noer.bind fun ys os1 => (compL2 f xs os1).bind fun zs os2 => .ok (ys ++ zs) os2
def ogetO (os : Objs) (n : Nat) (k : Str) : Option PyData :=
  match os[n]? with
  | some (.dct kvs) => valD (.str k) kvs
  | _ => none
def oputO (os : Objs) (n : Nat) (k : Str) (v : PyData) : Option Objs :=
  match os[n]? with
  | some (.dct kvs) => if decide (kvs.length < sizeLine) then some (os.set n (.dct (putD (.str k) v kvs))) else none
  | _ => none
mutual
/-- whole numbers and tuples of such, as a key -/
def nkD : PyData → Option NestedKey
  | .int i => some (.num i)
  | .tuple xs => (nkDs xs).map .tup
  | _ => none
def nkDs : List PyData → Option (List NestedKey)
  | [] => some []
  | x :: xs => (match nkD x, nkDs xs with
    | some k, some ks => some (k :: ks)
    | _, _ => none)
end
def nkT : PyData → Option NestedKey
  | .tuple xs => (match nkD (.tuple xs) with
    | some k => if k.depth ≤ 8 then some k else none
    | none => none)
  | _ => none
def tabO (os : Objs) (n : Nat) : Option (List (NestedKey × PyData)) :=
  match os[n]? with
  | some (.tab kvs) => some kvs
  | _ => none
def valN (k : NestedKey) (kvs : List (NestedKey × PyData)) : Option PyData := (kvs.find? fun p => decide (p.1 = k)).map (·.2)
def putTb (k : NestedKey) (v : PyData) (kvs : List (NestedKey × PyData)) : List (NestedKey × PyData) :=
  if (valN k kvs).isSome = true then kvs.map (fun p => if p.1 = k then (p.1, v) else p) else kvs ++ [(k, v)]
def tabPut (os : Objs) (n : Nat) (k : NestedKey) (v : PyData) : Option Objs :=
  match os[n]? with
  | some (.tab kvs) => if decide (kvs.length < sizeLine) then some (os.set n (.tab (putTb k v kvs))) else none
  | _ => none
def drawO (ns : List Int) : PObj := .dct [(.str "cells", .list ((ns ++ [0]).map .int)), (.str "at", .int 0), (.str "left", .int 0), (.str "used", .int 0)]
abbrev CallT := Nat → List PV → Objs → R PV
section
variable (call : CallT)
mutual
def ev : Ex → PEnv → Objs → R PV
  | .var i, env, os => (match env[i]? with
    | some (.v x) => .ok x os
    | _ => .st)
  | .bor i, env, os => (match env[i]? with
    | some (.m x) => .ok (.d x) os
    | some (.b x) => .ok (.d x) os
    | _ => .st)
  | .cst d, _, os => .ok (.d d) os
  | .op1 p a, env, os => (ev a env os).dat fun x os1 => (R.opt (d1 p x) os1).bind fun y os2 => .ok (.d y) os2
  | .op2 p a b, env, os => (ev a env os).dat fun x os1 => (ev b env os1).dat fun y os2 => (R.opt (d2 p x y) os2).bind fun z os3 => .ok (.d z) os3
  | .slc a lo hi, env, os => (ev a env os).dat fun x os1 => (evO lo env os1).bind fun l os2 => (evO hi env os2).bind fun h os3 => (match x with
    | .list xs => .ok (.d (.list (cutD xs l h))) os3
    | .tuple xs => .ok (.d (.tuple (cutD xs l h))) os3
    | _ => .st)
  | .chain p q a b c, env, os => (ev a env os).dat fun x os1 => (ev b env os1).dat fun y os2 => (match d2 p x y with
    | some (.bool true) => (ev c env os2).dat fun z os3 => (R.opt (d2 q y z) os3).bind fun w os4 => .ok (.d w) os4
    | some (.bool false) => .ok (.d (.bool false)) os2
    | _ => .st)
  | .nt a, env, os => (ev a env os).bool fun b os1 => .ok (.d (.bool (!b))) os1
  | .an a b, env, os => (ev a env os).bool fun x os1 => if x then (ev b env os1).bool fun y os2 => .ok (.d (.bool y)) os2 else .ok (.d (.bool false)) os1
  | .orr a b, env, os => (ev a env os).bool fun x os1 => if x then .ok (.d (.bool true)) os1 else (ev b env os1).bool fun y os2 => .ok (.d (.bool y)) os2
  | .ite c a b, env, os => (ev c env os).bool fun x os1 => if x then ev a env os1 else ev b env os1
  | .isN a, env, os => (ev a env os).nul fun x os1 => .ok (.d (.bool x)) os1
  | .nN a, env, os => (ev a env os).nul fun x os1 => .ok (.d (.bool (!x))) os1
  | .tup as, env, os => (evs as env os).bind fun vs os1 => (match dataAll vs with
    | some ds => if fit ds.length then .ok (.d (.tuple ds)) os1 else .st
    | none => .st)
  | .lst as, env, os => (evs as env os).bind fun vs os1 => (match dataAll vs with
    | some ds => if fit ds.length then .ok (.d (.list ds)) os1 else .st
    | none => .st)
  | .star _, _, _ => .st
  | .dic0, _, os => .ok (.d (.dict [])) os
  | .dic1 k v, env, os => (ev k env os).dat fun x os1 => (ev v env os1).dat fun y os2 => if isKey x then .ok (.d (.dict [(x, y)])) os2 else .st
  | .comp t it c e, env, os => (evI it env os).bind fun xs os1 =>
      (compL (fun x os2 => match bindT t x (clrL env (tgtIx t)) with
        | some env' => (evC c env' os2).bind fun b os3 => if b then (ev e env' os3).dat fun y os4 => .ok (some y) os4 else .ok none os3
        | none => .st) xs os1).bind fun ys os5 => if fit ys.length then .ok (.d (.list ys)) os5 else .st
  | .call f as, env, os => (evs as env os).bind fun vs os1 => call f vs os1
  | .said f e, env, os => (match ev e env os with
    | .ok (.d x) os1 => .ok (.d (.list [x])) os1
    | .ok _ _ => .st
    | .er x os1 => if clsOk x.cls then (call f [.x x.cls x.args] os1).noer else .st
    | .st => .st)
  | .isx a cs, env, os => (match ev a env os with
    | .ok (.x cl _) os1 => if clsOk cl then .ok (.d (.bool (cs.contains cl))) os1 else .st
    | .er e os1 => .er e os1
    | _ => .st)
  | .xget a k, env, os => (match ev a env os with
    | .ok (.x cl ds) os1 => if clsOk cl then (R.opt (((fldN cl).zip ds).lookup k) os1).bind fun y os2 => .ok (.d y) os2 else .st
    | .er e os1 => .er e os1
    | _ => .st)
  | .oget a k, env, os => (match ev a env os with
    | .ok (.o n) os1 => (R.opt (ogetO os1 n k) os1).bind fun y os2 => .ok (.d y) os2
    | .er e os1 => .er e os1
    | _ => .st)
  | .begin a, env, os => (match ev a env os with
    | .ok (.s ns) os1 => if decide (ns.length ≤ 63) then .ok (.o os1.length) (os1 ++ [drawO ns]) else .st
    | .er e os1 => .er e os1
    | _ => .st)
  | .tnew, _, os => .ok (.o os.length) (os ++ [.tab []])
  | .tin ng i j, env, os => (match env[i]?, env[j]? with
    | some (.v (.d x)), some (.v (.o n)) => (match tabO os n, nkT x with
      | some kvs, some k => .ok (.d (.bool (ng != (valN k kvs).isSome))) os
      | _, _ => .st)
    | _, _ => .st)
  | .tget j i, env, os => (match env[j]?, env[i]? with
    | some (.v (.o n)), some (.v (.d x)) => (match tabO os n, nkT x with
      | some kvs, some k => (R.opt (valN k kvs) os).bind fun y os2 => .ok (.d y) os2
      | _, _ => .st)
    | _, _ => .st)
  | .comp2 t it t1 it1 c e, env, os => (evI it env os).bind fun xs os1 =>
      (compL2 (fun x os2 => match bindT t x (clrL env (tgtIx t ++ tgtIx t1)) with
        | some env1 => (evI it1 env1 os2).bind fun ys os3 => compL (fun y os4 => match bindT t1 y (clrL env1 (tgtIx t1)) with
          | some env2 => (evC c env2 os4).bind fun b os5 => if b then (ev e env2 os5).dat fun z os6 => .ok (some z) os6 else .ok none os5
          | none => .st) ys os3
        | none => .st) xs os1).bind fun ys os5 => if fit ys.length then .ok (.d (.list ys)) os5 else .st
  | .dic2 k v k2 v2, env, os => (ev k env os).dat fun x os1 => (ev v env os1).dat fun y os2 => (ev k2 env os2).dat fun x2 os3 => (ev v2 env os3).dat fun y2 os4 => if isKey x && isKey x2 then .ok (.d (.dict (putD x2 y2 [(x, y)]))) os4 else .st
  | .get1 a k, env, os => (ev a env os).dat fun x os1 => (match x with
    | .dict kvs => (ev k env os1).dat fun y os2 => if isKey y then .ok (.d ((valD y kvs).getD .none)) os2 else .st
    | _ => .st)
  | .getd a k d, env, os => (ev a env os).dat fun x os1 => (match x with
    | .dict kvs => (ev k env os1).dat fun y os2 => (ev d env os2).dat fun z os3 => if isKey y then .ok (.d ((valD y kvs).getD z)) os3 else .st
    | _ => .st)
  | .mth m a b, env, os => (ev a env os).dat fun x os1 => if mRcv m x then (ev b env os1).dat fun y os2 => (R.opt (mD m x y) os2).bind fun z os3 => .ok (.d z) os3 else .st
  | .repl _ _ _, _, _ => .st
  | .fst as, env, os => (evs as env os).noer.bind fun vs os1 => (match dataAll vs with
    | some ds => (R.opt (fstD ds Str.empty) os1).bind fun z os2 => .ok (.d (.str z)) os2
    | none => .st)
  | .tint a, env, os => (ev a env os).dat fun x os1 => (R.opt (tintD x) os1).bind fun z os2 => .ok (.d z) os2
  | .chrs a, env, os => (ev a env os).dat fun x os1 => (match x with
    | .str z => if fit z.length then .ok (.d (.list (charsL z))) os1 else .st
    | _ => .st)
  | .compz i a b c e, env, os => ((ev a env os).dat fun x os1 => (ev b env os1).dat fun y os2 => (match x, y with
      | .list xs, .list ys => if noEE xs ys then .ok (zipL xs ys) os2 else .st
      | _, _ => .st)).bind fun xs os1 =>
      (compL (fun x os2 => match bindT (.one i) x (clrL env [i]) with
        | some env' => (evC c env' os2).bind fun b os3 => if b then (ev e env' os3).dat fun y os4 => .ok (some y) os4 else .ok none os3
        | none => .st) xs os1).bind fun ys os5 => if fit ys.length then .ok (.d (.list ys)) os5 else .st
  | .stuck, _, _ => .st
  | .kget _ kvs k, env, os => (ev k env os).dat fun x os1 => (match x with
    | .str z => .ok (.d (match kvs.lookup z with | some i => .int i | none => .none)) os1
    | _ => .st)
  | .kcpy _ kvs, _, os => .ok (.d (.dict (kvs.map fun p => (.str p.1, .int p.2)))) os
  | .zlst a b, env, os => (ev a env os).dat fun x os1 => (ev b env os1).dat fun y os2 => (match x, y with
    | .list xs, .list ys => if noEE xs ys then .ok (.d (.list (zipL xs ys))) os2 else .st
    | _, _ => .st)
  | .zdic a b, env, os => (ev a env os).dat fun x os1 => (ev b env os1).dat fun y os2 => (match x, y with
    | .list xs, .list ys => (R.opt (pairsD (zipL xs ys)) os2).bind fun kvs os3 => .ok (.d (.dict (mergeD [] kvs))) os3
    | _, _ => .st)
  | .isB b a, env, os => (ev a env os).bool fun x os1 => .ok (.d (.bool (x == b))) os1
  | .mkx cl kw as, env, os => (evs as env os).bind fun vs os1 => (match dataAll vs with
    | some ds => if clsOk cl && decide (ds.length = (fldN cl).length) then .ok (.x cl (if kw = 2 then ds.reverse else ds)) os1 else .st
    | none => .st)
  | .isy w a, env, os => (match ev a env os with
    | .ok (.x cl _) os1 => if clsOk cl then .ok (.d (.bool (famD w cl))) os1 else .st
    | .er e os1 => .er e os1
    | _ => .st)
  | .isf, _, os => .ok (.d (.bool true)) os
  | .lstx as, env, os => (evs as env os).bind fun vs os1 => (match xsAll vs with
    | some es => if fit es.length then .ok (.xs es) os1 else .st
    | none => .st)
  | .catx a b, env, os => (match ev a env os with
    | .ok (.xs x) os1 => (match ev b env os1 with
      | .ok (.xs y) os2 => if fit (x.length + y.length) then .ok (.xs (x ++ y)) os2 else .st
      | .er e os2 => .er e os2
      | _ => .st)
    | .er e os1 => .er e os1
    | _ => .st)
def evs : List Ex → PEnv → Objs → R (List PV)
  | [], _, os => .ok [] os
  | .star a :: as, env, os => (ev a env os).dat fun x os1 => (match seqD x with
    | some xs => (evs as env os1).bind fun ys os2 => .ok (xs.map PV.d ++ ys) os2
    | none => .st)
  | a :: as, env, os => (ev a env os).bind fun x os1 => (evs as env os1).bind fun xs os2 => .ok (x :: xs) os2
def evO : Option Ex → PEnv → Objs → R (Option Int)
  | none, _, os => .ok none os
  | some a, env, os => (ev a env os).dat fun x os1 => (match x with
    | .int i => .ok (some i) os1
    | _ => .st)
def evC : Option Ex → PEnv → Objs → R Bool
  | none, _, os => .ok true os
  | some a, env, os => (ev a env os).bool fun b os1 => .ok b os1
def evI : It → PEnv → Objs → R (List PyData)
  | .seq e, env, os => (ev e env os).dat fun x os1 => R.opt (seqD x) os1
  | .rng1 a, env, os => (ev a env os).dat fun x os1 => (match x with
    | .int i => if rngOk i then .ok (rngL 0 i) os1 else .st
    | _ => .st)
  | .rng2 a b, env, os => (ev a env os).dat fun x os1 => (ev b env os1).dat fun y os2 => (match x, y with
    | .int i, .int j => if rngOk i && rngOk j then .ok (rngL i j) os2 else .st
    | _, _ => .st)
  | .enum e, env, os => (ev e env os).dat fun x os1 => (R.opt (seqD x) os1).bind fun xs os2 => .ok (enumL xs) os2
  | .zip a b, env, os => (ev a env os).dat fun x os1 => (ev b env os1).dat fun y os2 => (match x, y with
    | .list xs, .list ys => if noEE xs ys then .ok (zipL xs ys) os2 else .st
    | .tuple xs, .tuple ys => if noEE xs ys then .ok (zipL xs ys) os2 else .st
    | .tuple xs, .list ys => if noEE xs ys then .ok (zipL xs ys) os2 else .st
    | _, _ => .st)
  | .rng3 a b c, env, os => (ev a env os).dat fun x os1 => (ev b env os1).dat fun y os2 => (ev c env os2).dat fun z os3 => (match x, y, z with
    | .int i, .int j, .int m => if rngOk i && rngOk j && decide (0 < m) && decide (m < 1000) then .ok (rngL3 i j m) os3 else .st
    | _, _, _ => .st)
  | .chars e, env, os => (ev e env os).dat fun x os1 => (match x with
    | .str z => .ok (charsL z) os1
    | _ => .st)
end
def R.sd (x : R PV) (f : PyData → Objs → SR) : SR :=
  match x with
  | .ok (.d a) os => f a os
  | .ok _ _ => .st
  | .er e os => .er e os
  | .st => .st
def R.sp (x : R PV) (f : PV → Objs → SR) : SR :=
  match x with
  | .ok a os => f a os
  | .er e os => .er e os
  | .st => .st
def R.sps (x : R (List PV)) (f : List PV → Objs → SR) : SR :=
  match x with
  | .ok a os => f a os
  | .er e os => .er e os
  | .st => .st
def SR.then (x : SR) (f : PEnv → Objs → SR) : SR :=
  match x with
  | .nx env os => f env os
  | .rt v os => .rt v os
  | .er e os => .er e os
  | .st => .st
def forL (t : Tgt) (body : PEnv → Objs → SR) : List PyData → PEnv → Objs → SR
  | [], env, os => .nx env os
  | x :: xs, env, os => match bindT t x env with
    | some env' => (body env' os).then fun env2 os2 => forL t body xs env2 os2
    | none => .st
def forX (i j : Nat) (body : PEnv → Objs → SR) : Nat → List (Nat × List PyData) → PEnv → Objs → SR
  | _, [], env, os => .nx env os
  | n, x :: xs, env, os => if decide (i < env.length) && decide (j < env.length) && decide (i ≠ j) then (body ((env.set i (.v (.d (.int (n : Nat))))).set j (.v (.x x.1 x.2))) os).then fun env2 os2 => forX i j body (n + 1) xs env2 os2 else .st
def whL (c : PEnv → Objs → R PV) (body : PEnv → Objs → SR) : Nat → PEnv → Objs → SR
  | 0, _, _ => .st
  | n + 1, env, os => match c env os with
    | .ok (.d (.bool true)) os1 => (body env os1).then fun env2 os2 => whL c body n env2 os2
    | .ok (.d (.bool false)) os1 => .nx env os1
    | .er e os1 => .er e os1
    | _ => .st
def setP : List (Bool × Nat) → List PV → PEnv → Option PEnv
  | [], [], env => some env
  | (true, i) :: ts, .d x :: vs, env => if decide (i < env.length) && ownD x then setP ts vs (env.set i (.m x)) else none
  | (false, i) :: ts, x :: vs, env => if decide (i < env.length) then setP ts vs (env.set i (.v x)) else none
  | _, _, _ => none
def whFuel : Nat := 1000
def remD (x : PyData) : List PyData → Option (List PyData)
  | [] => none
  | y :: r => if PyData.eqv y x then some r else (remD x r).map (y :: ·)
def ex : S → PEnv → Objs → SR
  | .skip, env, os => .nx env os
  | .seq a b, env, os => (ex a env os).then fun env1 os1 => ex b env1 os1
  | .set t e, env, os => (match t with
    | .one i => (ev call e env os).sp fun x os1 => if decide (i < env.length) then .nx (env.set i (.v x)) os1 else .st
    | .tup ts => (ev call e env os).sd fun x os1 => (match bindT (.tup ts) x env with
      | some env' => .nx env' os1
      | none => .st))
  | .own i e, env, os => (ev call e env os).sd fun x os1 => if decide (i < env.length) && ownD x then .nx (env.set i (.m x)) os1 else .st
  | .par ts es, env, os => (evs call es env os).sps fun vs os1 => (match setP ts vs env with
    | some env' => .nx env' os1
    | none => .st)
  | .nx2 i o k a b, env, os => (ev call a env os).sd fun x os1 => (ev call b env os1).sd fun y os2 =>
      if decide (i < env.length) then (match ev call o (env.set i (.v (.d x))) os2 with
        | .ok (.o n) os3 => (match oputO os3 n k y with
          | some os4 => .nx (env.set i (.v (.d x))) os4
          | none => .st)
        | _ => .st) else .st
  | .frz i, env, os => (match env[i]? with
    | some (.m x) => .nx (env.set i (.v (.d x))) os
    | some (.v _) => .nx env os
    | _ => .st)
  | .app i e, env, os => (match env[i]? with
    | some (.m (.list xs)) => (ev call e env os).sd fun y os1 => if decide (xs.length < sizeLine) then .nx (env.set i (.m (.list (xs ++ [y])))) os1 else .st
    | _ => .st)
  | .ext i e, env, os => (match env[i]? with
    | some (.m (.list xs)) => (ev call e env os).sd fun y os1 => (match y with
      | .list ys => if fit (xs.length + ys.length) then .nx (env.set i (.m (.list (xs ++ ys)))) os1 else .st
      | _ => .st)
    | _ => .st)
  | .pop i j, env, os => (match env[j]? with
    | some (.m (.list xs)) => (match xs.getLast? with
      | some y => if decide (i < env.length) && decide (i ≠ j) then .nx ((env.set j (.m (.list xs.dropLast))).set i (.v (.d y))) os else .st
      | none => .st)
    | _ => .st)
  | .rem i e, env, os => (match env[i]? with
    | some (.m (.list xs)) => (ev call e env os).sd fun y os1 => if SeqAt.shaped y && SeqAt.shaped (.list xs) then (match remD y xs with
      | some ys => .nx (env.set i (.m (.list ys))) os1
      | none => .st) else .st
    | _ => .st)
  | .dput i k v, env, os => (ev call v env os).sd fun y os1 => (match env[i]? with
    | some (.m (.dict kvs)) => (ev call k env os1).sd fun x os2 => if isKey x && decide (kvs.length < sizeLine) then .nx (env.set i (.m (.dict (putD x y kvs)))) os2 else .st
    | _ => .st)
  | .dupd i e, env, os => (match env[i]? with
    | some (.m (.dict kvs)) => (ev call e env os).sd fun y os1 => (match y with
      | .dict es => if fit (kvs.length + es.length) then .nx (env.set i (.m (.dict (mergeD kvs es)))) os1 else .st
      | _ => .st)
    | _ => .st)
  | .oput o k e, env, os => (ev call e env os).sd fun y os1 => (match ev call o env os1 with
    | .ok (.o n) os2 => (match oputO os2 n k y with
      | some os3 => .nx env os3
      | none => .st)
    | _ => .st)
  | .tput j i e, env, os => (ev call e env os).sd fun y os1 => (match env[j]?, env[i]? with
    | some (.v (.o n)), some (.v (.d x)) => (match nkT x with
      | some k => (match tabPut os1 n k y with
        | some os2 => .nx env os2
        | none => .st)
      | none => .st)
    | _, _ => .st)
  | .ife c a b, env, os => (match ev call c env os with
    | .ok (.d (.bool true)) os1 => ex a env os1
    | .ok (.d (.bool false)) os1 => ex b env os1
    | .er e os1 => .er e os1
    | _ => .st)
  | .fr t it b, env, os => (match evI call it env os with
    | .ok xs os1 => forL t (fun env2 os2 => ex b env2 os2) xs env os1
    | .er e os1 => .er e os1
    | .st => .st)
  | .wh c b, env, os => whL (fun env2 os2 => ev call c env2 os2) (fun env2 os2 => ex b env2 os2) whFuel env os
  | .ret e, env, os => (ev call e env os).sp fun x os1 => .rt x os1
  | .ex e, env, os => (ev call e env os).sp fun _ os1 => .nx env os1
  | .rais c es, env, os => (evs call es env os).sps fun vs os1 => (match dataAll vs with
    | some ds => if decide (ds.length = (fldN c).length) then .er ⟨c, ds⟩ os1 else .st
    | none => .st)
  | .stuck, _, _ => .st
  | .frx i j e b, env, os => (match ev call e env os with
    | .ok (.xs xs) os1 => forX i j (fun env2 os2 => ex b env2 os2) 0 xs env os1
    | .er e os1 => .er e os1
    | _ => .st)
  | .hand g, env, os => g call env os
end
structure FnD where
  np : Nat
  nl : Nat
  bs : List Bool
  lam : Bool := false
  body : S
def argSl : List Bool → List PV → Option (List Sl)
  | [], vs => some (vs.map Sl.v)
  | _, [] => some []
  | true :: bs, .d x :: vs => (argSl bs vs).map (Sl.b x :: ·)
  | true :: _, _ :: _ => none
  | false :: bs, x :: vs => (argSl bs vs).map (Sl.v x :: ·)
def runF (call : CallT) (f : FnD) (vs : List PV) (os : Objs) : R PV :=
  if vs.length = f.np then
    match argSl f.bs vs with
    | some sl => (match ex call f.body (sl ++ List.replicate (f.nl - f.np) Sl.un) os with
      | .nx _ os1 => .ok (.d .none) os1
      | .rt v os1 => .ok v os1
      | .er e os1 => .er e os1
      | .st => .st)
    | none => .st
  else .st
def callN (F : Nat → Option FnD) : Nat → CallT
  | 0, _, _, _ => .st
  | n + 1, f, vs, os => match F f with
    | some d => runF (callN F n) d vs os
    | none => .st
end FC
end
section
set_option Elab.async false
set_option linter.all false
set_option maxRecDepth 100000
set_option maxHeartbeats 4000000
namespace FC
open PySem L2 PyProof.Rows
section
variable {prog : Program} {w : World} {A : Around} {E : Value → Shared → Prop} {s : Shared} {l : Addr} {xs : Array (Int × Tok)}
theorem iter_intTup {Q : Value → Shared → Prop} (hl : s.heap.IsTuple l (intItems xs))
    (h : ∀ s₂ : Shared, s₂ = { s with heap := s.heap.push { cls := .type "tuple_iterator", data := .fields #[.ref l, .int 0 0] } } →
      (s₂.heap.IsTupleIter s.heap.objs.size l 0 ∧ s₂.heap.IsTuple l (intItems xs)) → (∀ b ∈ [s.heap.objs.size, l], b < s₂.heap.objs.size) → l ≠ s.heap.objs.size → Q (.ref s.heap.objs.size) s₂) :
    wpAny (model prog w) A (pyIter (.ref l)) Q E s := by
  have hlt : l < s.heap.objs.size := by obtain ⟨_, e, _⟩ := hl; exact Heap.lt_size e
  refine wpAny_pyIter_tuple hl (h _ rfl ⟨⟨_, Heap.get?_push_size _ rfl, rfl, rfl⟩, hl.push _⟩ (fun b hb => ?_) (Nat.ne_of_lt hlt))
  show b < (s.heap.push _).objs.size
  rw [Heap.size_push]
  rcases List.mem_cons.mp hb with rfl | hb
  · exact Nat.lt_succ_self _
  · rcases List.mem_cons.mp hb with rfl | hb
    · exact Nat.lt_succ_of_lt hlt
    · cases hb
theorem old_keptT {o1 : Obj} {h' : Heap} (hk : ∀ b o, b ∉ [s.heap.objs.size] → (s.heap.push o1).get? b = some o → h'.get? b = some o) :
    ∀ b o, s.heap.get? b = some o → h'.get? b = some o := fun b o e => by
  refine hk b o (fun hm => ?_) (Heap.get?_push_of_some _ e)
  rcases List.mem_cons.mp hm with e1 | hm
  · exact absurd (e1 ▸ Heap.lt_size e) (Nat.lt_irrefl _)
  · cases hm
theorem max_intTup {Q : Value → Shared → Prop} (hh : A.handled = none) (hl : s.heap.IsTuple l (intItems xs)) (hne : 0 < xs.size)
    (h : ∀ v h' tk, (intItems xs)[argBest (fun i j => decide (numAt xs i > numAt xs j)) (xs.size - 1)]? = some v → (∀ b o, s.heap.get? b = some o → h'.get? b = some o) → Q v { s with heap := h', toks := tk }) :
    wpAny (model prog w) A (call (.builtin "max") [.ref l]) Q E s := by
  refine call_max_walk (iter_intTup hl fun s₂ e st hfp hlI => ?_)
  subst e
  refine ⟨_, _, _, _, _, _, _, rfl, Walks.tuple (A := A.in1) hh _ l hlI (intItems xs), st, hfp, by simpa [intItems] using hne, CmpOf.ints_gt (numAt xs) (fun _ _ => intItems_at), fun v h' tk hP hk => ?_⟩
  exact h v h' tk (by simpa [intItems] using hP) (old_keptT hk)
theorem min_intTup {Q : Value → Shared → Prop} (hh : A.handled = none) (hl : s.heap.IsTuple l (intItems xs)) (hne : 0 < xs.size)
    (h : ∀ v h' tk, (intItems xs)[argBest (fun i j => decide (numAt xs i < numAt xs j)) (xs.size - 1)]? = some v → (∀ b o, s.heap.get? b = some o → h'.get? b = some o) → Q v { s with heap := h', toks := tk }) :
    wpAny (model prog w) A (call (.builtin "min") [.ref l]) Q E s := by
  refine call_min_walk (iter_intTup hl fun s₂ e st hfp hlI => ?_)
  subst e
  refine ⟨_, _, _, _, _, _, _, rfl, Walks.tuple (A := A.in1) hh _ l hlI (intItems xs), st, hfp, by simpa [intItems] using hne, CmpOf.ints_lt (numAt xs) (fun _ _ => intItems_at), fun v h' tk hP hk => ?_⟩
  exact h v h' tk (by simpa [intItems] using hP) (old_keptT hk)
end
section
variable {prog : Program} {w : World} {A : Around} {E : Value → Shared → Prop} {s : Shared} {l : Addr} {xs : Array (Int × Tok)}
theorem sum_intTup {Q : Value → Shared → Prop} (hh : A.handled = none) (hl : s.heap.IsTuple l (intItems xs))
    (hq : ∀ g tk t', (∀ b o, s.heap.get? b = some o → g.get? b = some o) → Q (.int (preSum (numAt xs) xs.size) t') { s with heap := g, toks := tk }) :
    wpAny (model prog w) A (call (.builtin "sum") [.ref l]) Q E s := by
  refine call_sum_walkG (iter_intTup hl fun s₂ e st hfp hlI => ?_)
  subst e
  refine ⟨_, _, _, _, _, _, numAt xs, rfl, Walks.tuple (A := A.in1) hh _ l hlI (intItems xs), st, hfp, (fun _ _ => intItems_at), fun g tk t' hk => ?_⟩
  have := hq g tk t' (old_keptT hk)
  simpa [intItems] using this
end
section
variable {prog : Program} {w : World} {A : Around} {E : Value → Shared → Prop} {s : Shared} {l : Addr} {its : List Value} {ns : List Int} {Q : Value → Shared → Prop}
theorem max_rawT (hh : A.handled = none) (hl : s.heap.IsTuple l its.toArray) (hi : IntsAre its ns) (hne : 0 < ns.length)
    (h : ∀ h' tk M t', (∀ b o, s.heap.get? b = some o → h'.get? b = some o) → M ∈ ns → (∀ a, a ∈ ns → a ≤ M) → Q (.int M t') { s with heap := h', toks := tk }) : wpAny (model prog w) A (call (.builtin "max") [.ref l]) Q E s := by
  obtain ⟨xs, e⟩ := hi.allInts.items
  have hn : numsOf (intItems xs).toList = ns := by rw [← e]; exact hi.numsOf
  rw [nums_intItems] at hn
  subst hn
  rw [e] at hl
  have hsz : 0 < xs.size := by simpa using hne
  refine max_intTup hh hl hsz fun v h' tk hv hk => ?_
  obtain ⟨t, rfl⟩ := intItems_at hv
  obtain ⟨h1, h2⟩ := argBest_gt (numAt xs) (xs.size - 1)
  refine h h' tk _ t hk ?_ fun a ha => ?_
  · rw [numAt_eq]; exact PySem.getD_mem (by rw [List.length_map, Array.length_toList]; omega)
  · obtain ⟨j, hj, rfl⟩ := mem_getD ha
    rw [List.length_map, Array.length_toList] at hj
    rw [← numAt_eq]; exact h2 j (by omega)
theorem min_rawT (hh : A.handled = none) (hl : s.heap.IsTuple l its.toArray) (hi : IntsAre its ns) (hne : 0 < ns.length)
    (h : ∀ h' tk M t', (∀ b o, s.heap.get? b = some o → h'.get? b = some o) → M ∈ ns → (∀ a, a ∈ ns → M ≤ a) → Q (.int M t') { s with heap := h', toks := tk }) : wpAny (model prog w) A (call (.builtin "min") [.ref l]) Q E s := by
  obtain ⟨xs, e⟩ := hi.allInts.items
  have hn : numsOf (intItems xs).toList = ns := by rw [← e]; exact hi.numsOf
  rw [nums_intItems] at hn
  subst hn
  rw [e] at hl
  have hsz : 0 < xs.size := by simpa using hne
  refine min_intTup hh hl hsz fun v h' tk hv hk => ?_
  obtain ⟨t, rfl⟩ := intItems_at hv
  obtain ⟨h1, h2⟩ := argBest_lt (numAt xs) (xs.size - 1)
  refine h h' tk _ t hk ?_ fun a ha => ?_
  · rw [numAt_eq]; exact PySem.getD_mem (by rw [List.length_map, Array.length_toList]; omega)
  · obtain ⟨j, hj, rfl⟩ := mem_getD ha
    rw [List.length_map, Array.length_toList] at hj
    rw [← numAt_eq]; exact h2 j (by omega)
end
section
variable {prog : Program} {w : World} {A : Around} {E : Value → Shared → Prop} {s : Shared} {l : Addr} {its : List Value} {ns : List Int} {Q : Value → Shared → Prop}
theorem sum_rawT (hh : A.handled = none) (hl : s.heap.IsTuple l its.toArray) (hi : IntsAre its ns)
    (hq : ∀ g tk t', (∀ b o, s.heap.get? b = some o → g.get? b = some o) → Q (.int ns.sum t') { s with heap := g, toks := tk }) : wpAny (model prog w) A (call (.builtin "sum") [.ref l]) Q E s := by
  obtain ⟨xs, e⟩ := hi.allInts.items
  have hn : numsOf (intItems xs).toList = ns := by rw [← e]; exact hi.numsOf
  rw [nums_intItems] at hn
  subst hn
  rw [e] at hl
  refine sum_intTup hh hl fun g tk t' hk => ?_
  have := hq g tk t' hk
  rw [preSum_eq, List.take_of_length_le (by simp)]
  exact this
end
section
variable {X : Cx}
def rSumT (K : PySem.W.Frag) : List V → Hp → VK → Prop := fun vs G Q => ∃ (a : Addr) (ns : List Int), vs = [V.ref a] ∧ SqT K G a (ns.map V.int) ∧ Q (.int ns.sum) G
theorem cr_sumT (hc : X.calm = true) : CallR X (.builtin "sum") (rSumT X.K) := by
  rintro pn sh sl G vs us Q J r ⟨a, ns, rfl, hs, q⟩
  obtain ⟨its, rv, hl, _⟩ := J.tuple hs
  rw [Vals.ref1 r]
  exact sum_rawT (J.ok.hd hc) hl rv.ints fun g tk t' hk => ⟨.int _, G, J.kept hk, ⟨_, rfl⟩, q⟩
def rMaxT (K : PySem.W.Frag) : List V → Hp → VK → Prop := fun vs H Q => ∃ (a : Addr) (ns : List Int), vs = [V.ref a] ∧ SqT K H a (ns.map V.int) ∧ 0 < ns.length ∧ ∀ m, m ∈ ns → (∀ y, y ∈ ns → y ≤ m) → Q (.int m) H
def rMinT (K : PySem.W.Frag) : List V → Hp → VK → Prop := fun vs H Q => ∃ (a : Addr) (ns : List Int), vs = [V.ref a] ∧ SqT K H a (ns.map V.int) ∧ 0 < ns.length ∧ ∀ m, m ∈ ns → (∀ y, y ∈ ns → m ≤ y) → Q (.int m) H
theorem cr_maxT (hc : X.calm = true) : CallR X (.builtin "max") (rMaxT X.K) := by
  intro pins s σ H vs us Q I r h
  obtain ⟨a, ns, rfl, hs, hne, q⟩ := h
  obtain ⟨its, rv, hl, _⟩ := I.tuple hs
  rw [Vals.ref1 r]
  exact max_rawT (I.ok.hd hc) hl rv.ints hne fun h' tk m t' hk h1 h2 => ⟨.int _, H, I.kept hk, ⟨_, rfl⟩, q m h1 h2⟩
theorem cr_minT (hc : X.calm = true) : CallR X (.builtin "min") (rMinT X.K) := by
  intro pins s σ H vs us Q I r h
  obtain ⟨a, ns, rfl, hs, hne, q⟩ := h
  obtain ⟨its, rv, hl, _⟩ := I.tuple hs
  rw [Vals.ref1 r]
  exact min_rawT (I.ok.hd hc) hl rv.ints hne fun h' tk m t' hk h1 h2 => ⟨.int _, H, I.kept hk, ⟨_, rfl⟩, q m h1 h2⟩
end
end FC
end
section
set_option Elab.async false
set_option linter.all false
set_option maxRecDepth 100000
set_option maxHeartbeats 2000000
namespace FC
open PySem L2
class EA where
  ea : Nat → Addr
  tb : List (Addr × Str)
variable [EA]
def ExX (cls : Value) (d : Option Addr) (a : Addr) : HO := .ext fun h => ∃ (oe : Obj) (vs : Array Value), h.get? a = some oe ∧ Zc cls d oe ∧ oe.data = .fields vs
def keyD : Key → PyData
  | .inl i => .int i
  | .inr x => .str x
def TupQ (H : Hp) (a : Addr) (p : List V × Bool) : Prop := (∃ o : Obj, H a = some (.frz o (.tup p.1)) ∧ o.dict = none) ∨ (p.2 = false ∧ H a = some (.tup p.1))
theorem TupQ.rd {H : Hp} {a : Addr} {p : List V × Bool} (h : TupQ H a p) : L2.Rd H a (.tup p.1) := by
  rcases h with ⟨o, e, _⟩ | ⟨_, e⟩
  · exact .inr ⟨o, e⟩
  · exact .inl e
theorem TupQ.sq {K : PySem.W.Frag} {H : Hp} {a : Addr} {p : List V × Bool} (h : TupQ H a p) : SqT K H a p.1 := .inl h.rd
theorem TupQ.ne {H : Hp} {a : Addr} {p : List V × Bool} (h : TupQ H a p) : H a ≠ none := by
  rcases h with ⟨o, e, _⟩ | ⟨_, e⟩ <;> rw [e] <;> simp
theorem TupQ.imp {H H' : Hp} {a : Addr} {p : List V × Bool} (h : TupQ H a p) (k : ∀ u, H a = some u → ((∃ o, u = .frz o (.tup p.1)) ∨ u = .tup p.1) → H' a = some u) : TupQ H' a p := by
  rcases h with ⟨o, e, d⟩ | ⟨b, e⟩
  · exact .inl ⟨o, k _ e (.inl ⟨o, rfl⟩), d⟩
  · exact .inr ⟨b, k _ e (.inr rfl)⟩
theorem TupQ.upd {H : Hp} {a q : Addr} {p : List V × Bool} {u : HO} (h : TupQ H a p) (hq : H q = none) : TupQ (L2.upd H q u) a p :=
  h.imp fun v e _ => by rw [L2.upd_ne (fun z => by rw [z, hq] at e; cases e)]; exact e
theorem TupQ.off {H : Hp} {a : Addr} {xs : List V} {b : Bool} (h : TupQ H a (xs, b)) : TupQ H a (xs, false) := by
  rcases h with ⟨o, e, d⟩ | ⟨_, e⟩
  · exact .inl ⟨o, e, d⟩
  · exact .inr ⟨rfl, e⟩
mutual
/-- v shows d in H; the lists and dicts in it lie in al -/
inductive Rp (H : Hp) (al : Addr → Prop) : V → PyData → Prop
  | non : Rp H al .non .none
  | bl (b : Bool) : Rp H al (.bl b) (.bool b)
  | int (i : Int) : Rp H al (.int i) (.int i)
  | str (x : Str) : Rp H al (.str x) (.str x)
  | lst {a : Addr} {xs : List V} {ds : List PyData} : al a → H a = some (.lst xs) → RpA H al xs ds → Rp H al (.ref a) (.list ds)
  | tup {a : Addr} {xs : List V} {ds : List PyData} : TupQ H a (xs, isEs ds) → RpA H al xs ds → Rp H al (.ref a) (.tuple ds)
  | dct {a : Addr} {kvs : List (Key × V)} {es : List (PyData × PyData)} : al a → H a = some (.dK kvs) → RpK H al kvs es → Rp H al (.ref a) (.dict es)
inductive RpA (H : Hp) (al : Addr → Prop) : List V → List PyData → Prop
  | nil : RpA H al [] []
  | cons {v : V} {vs : List V} {d : PyData} {ds : List PyData} : Rp H al v d → RpA H al vs ds → RpA H al (v :: vs) (d :: ds)
inductive RpK (H : Hp) (al : Addr → Prop) : List (Key × V) → List (PyData × PyData) → Prop
  | nil : RpK H al [] []
  | cons {k : Key} {v : V} {vs : List (Key × V)} {d : PyData} {ds : List (PyData × PyData)} : Rp H al v d → RpK H al vs ds → RpK H al ((k, v) :: vs) ((keyD k, d) :: ds)
end
structure Kp (H H' : Hp) (al al' : Addr → Prop) : Prop where
  sub : ∀ a, al a → al' a
  lst : ∀ a xs, al a → H a = some (.lst xs) → H' a = some (.lst xs)
  tup : ∀ a p, TupQ H a p → TupQ H' a p
  dct : ∀ a kvs, al a → H a = some (.dK kvs) → H' a = some (.dK kvs)
  exx : ∀ a cls d, H a = some (ExX cls d a) → H' a = some (ExX cls d a)
  xd : ∀ a fs, H a = some (.xd fs) → H' a = some (.xd fs)
mutual
theorem Rp.keep {H H' : Hp} {al al' : Addr → Prop} (k : Kp H H' al al') : ∀ {v : V} {d : PyData}, Rp H al v d → Rp H' al' v d
  | _, _, .non => .non
  | _, _, .bl b => .bl b
  | _, _, .int i => .int i
  | _, _, .str x => .str x
  | _, _, .lst ha h r => .lst (k.sub _ ha) (k.lst _ _ ha h) (RpA.keep k r)
  | _, _, .tup h r => .tup (k.tup _ _ h) (RpA.keep k r)
  | _, _, .dct ha h r => .dct (k.sub _ ha) (k.dct _ _ ha h) (RpK.keep k r)
theorem RpA.keep {H H' : Hp} {al al' : Addr → Prop} (k : Kp H H' al al') : ∀ {v : List V} {d : List PyData}, RpA H al v d → RpA H' al' v d
  | _, _, .nil => .nil
  | _, _, .cons r t => .cons (Rp.keep k r) (RpA.keep k t)
theorem RpK.keep {H H' : Hp} {al al' : Addr → Prop} (k : Kp H H' al al') : ∀ {v : List (Key × V)} {d : List (PyData × PyData)}, RpK H al v d → RpK H' al' v d
  | _, _, .nil => .nil
  | _, _, .cons r t => .cons (Rp.keep k r) (RpK.keep k t)
end
theorem RpA.length {H : Hp} {al : Addr → Prop} : ∀ {v : List V} {d : List PyData}, RpA H al v d → v.length = d.length
  | _, _, .nil => rfl
  | _, _, .cons _ t => by simp [RpA.length t]
theorem RpK.length {H : Hp} {al : Addr → Prop} : ∀ {v : List (Key × V)} {d : List (PyData × PyData)}, RpK H al v d → v.length = d.length
  | _, _, .nil => rfl
  | _, _, .cons _ t => by simp [RpK.length t]
theorem RpA.append {H : Hp} {al : Addr → Prop} : ∀ {v w : List V} {d e : List PyData}, RpA H al v d → RpA H al w e → RpA H al (v ++ w) (d ++ e)
  | _, _, _, _, .nil, q => q
  | _, _, _, _, .cons r t, q => .cons r (t.append q)
theorem RpA.get {H : Hp} {al : Addr → Prop} : ∀ {v : List V} {d : List PyData} {i : Nat} {x : PyData}, RpA H al v d → d[i]? = some x → ∃ y, v[i]? = some y ∧ Rp H al y x
  | _, _, _, _, .nil, h => by simp at h
  | _, _, 0, _, .cons r t, h => by simp at h; subst h; exact ⟨_, rfl, r⟩
  | _, _, i + 1, x, .cons r t, h => by
    obtain ⟨y, h1, h2⟩ := RpA.get (i := i) (x := x) t (by simpa using h)
    exact ⟨y, by simpa using h1, h2⟩
theorem RpA.drop {H : Hp} {al : Addr → Prop} : ∀ {v : List V} {d : List PyData} (n : Nat), RpA H al v d → RpA H al (v.drop n) (d.drop n)
  | _, _, 0, r => r
  | _, _, _ + 1, .nil => .nil
  | _, _, n + 1, .cons _ t => RpA.drop n t
theorem RpA.take {H : Hp} {al : Addr → Prop} : ∀ {v : List V} {d : List PyData} (n : Nat), RpA H al v d → RpA H al (v.take n) (d.take n)
  | _, _, 0, _ => .nil
  | _, _, _ + 1, .nil => .nil
  | _, _, n + 1, .cons r t => .cons r (RpA.take n t)
theorem RpA.rev {H : Hp} {al : Addr → Prop} : ∀ {v : List V} {d : List PyData}, RpA H al v d → RpA H al v.reverse d.reverse
  | _, _, .nil => .nil
  | _, _, .cons r t => by
    rw [List.reverse_cons, List.reverse_cons]
    exact (RpA.rev t).append (.cons r .nil)
theorem RpA.rep {H : Hp} {al : Addr → Prop} {v : List V} {d : List PyData} (r : RpA H al v d) : ∀ n : Nat, RpA H al (List.replicate n v).flatten (List.replicate n d).flatten
  | 0 => .nil
  | n + 1 => by
    rw [List.replicate_succ, List.replicate_succ, List.flatten_cons, List.flatten_cons]
    exact r.append (RpA.rep r n)
theorem RpA.set {H : Hp} {al : Addr → Prop} {y : V} {x : PyData} (q : Rp H al y x) : ∀ {v : List V} {d : List PyData} (n : Nat), RpA H al v d → RpA H al (v.set n y) (d.set n x)
  | _, _, _, .nil => .nil
  | _, _, 0, .cons _ t => .cons q t
  | _, _, n + 1, .cons r t => .cons r (RpA.set q n t)
structure Cfg where
  env : PEnv
  os : Objs
  fz : Addr → Prop
  om : List Addr
inductive RpXs (H : Hp) (fz : Addr → Prop) : List V → List (Nat × List PyData) → Prop
  | nil : RpXs H fz [] []
  | cons {a dx : Addr} {vs : List V} {cl : Nat} {ds : List PyData} {us : List V} {es : List (Nat × List PyData)} : H a = some (ExX (.ref (EA.ea cl)) (some dx) a) → H dx = some (.xd ((fldN cl).zip vs)) → vs.length = (fldN cl).length → clsOk cl = true → RpA H fz vs ds → RpXs H fz us es → RpXs H fz (.ref a :: us) ((cl, ds) :: es)
def Rpv (H : Hp) (fz : Addr → Prop) (om : List Addr) : V → PV → Prop
  | v, .d x => Rp H fz v x
  | v, .o n => ∃ a, om[n]? = some a ∧ v = .ref a
  | v, .s ns => ∃ a o, v = .ref a ∧ H a = some (.frz o (.lst (ns.map V.int)))
  | v, .x cl ds => ∃ (a dx : Addr) (vs : List V), v = .ref a ∧ H a = some (ExX (.ref (EA.ea cl)) (some dx) a) ∧ H dx = some (.xd ((fldN cl).zip vs)) ∧ vs.length = (fldN cl).length ∧ RpA H fz vs ds
  | v, .xs es => ∃ (a : Addr) (vs : List V), v = .ref a ∧ fz a ∧ H a = some (.lst vs) ∧ RpXs H fz vs es
mutual
def hN : NestedKey → Int
  | .none => reduceHash 0xFCA86420
  | .num i => hashInt i
  | .text _ => 0
  | .tup ks => reduceHash (Builtin.Tuple.tupleHashOf (hNs ks))
def hNs : List NestedKey → List Int
  | [] => []
  | k :: ks => hN k :: hNs ks
end
mutual
theorem hN_hash (w : World) : ∀ (d : PyData) (k : NestedKey), nkD d = some k → k.hash w = hN k
  | .int i, k, h => by simp only [nkD, Option.some.injEq] at h; subst h; simp [NestedKey.hash, hN]
  | .tuple xs, k, h => by
    simp only [nkD, Option.map_eq_some_iff] at h
    obtain ⟨ks, h1, rfl⟩ := h
    simp only [NestedKey.hash, hN]
    rw [hNs_hash w xs ks h1]
  | .none, k, h => by simp [nkD] at h
  | .bool _, k, h => by simp [nkD] at h
  | .str _, k, h => by simp [nkD] at h
  | .list _, k, h => by simp [nkD] at h
  | .dict _, k, h => by simp [nkD] at h
theorem hNs_hash (w : World) : ∀ (ds : List PyData) (ks : List NestedKey), nkDs ds = some ks → NestedKey.hashes w ks = hNs ks
  | [], ks, h => by simp only [nkDs, Option.some.injEq] at h; subst h; simp [NestedKey.hashes, hNs]
  | d :: ds, ks, h => by
    simp only [nkDs] at h
    split at h
    · rename_i k ks' h1 h2
      cases h
      simp only [NestedKey.hashes, hNs]
      rw [hN_hash w d k h1, hNs_hash w ds ks' h2]
    · cases h
end
def entN (x : NestedKey × Addr × Value) : DictEntry := ⟨hN x.1, .ref x.2.1, x.2.2⟩
def TabO (a : Addr) (xs : List (NestedKey × Addr × Value)) : HO := .ext fun h => ∃ o es ep, h.get? a = some o ∧ o.ExactDict ∧ o.data = .dict es ep ∧ es.toList = xs.map entN
theorem tab_sat (a : Addr) (xs : List (NestedKey × Addr × Value)) : ∃ (h : Heap) (o : Obj) (es : Array DictEntry) (ep : Nat), h.get? a = some o ∧ o.ExactDict ∧ o.data = .dict es ep ∧ es.toList = xs.map entN := by
  refine ⟨⟨(List.replicate (a + 1) { cls := .type "dict", data := .dict (xs.map entN).toArray 0 }).toArray, default⟩, { cls := .type "dict", data := .dict (xs.map entN).toArray 0 }, (xs.map entN).toArray, 0, ?_, ⟨rfl, rfl, rfl⟩, rfl, rfl⟩
  simp [Heap.get?, List.getElem?_replicate]
theorem tab_ne {a b : Addr} {xs : List (NestedKey × Addr × Value)} {φ : Heap → Prop} (hf : ∀ h, φ h → ∃ o vs, h.get? a = some o ∧ o.data = .fields vs) : TabO a xs ≠ .ext φ := fun z => by
  unfold TabO at z
  injection z with z
  obtain ⟨h, o, es, ep, h1, h2, h3, h4⟩ := tab_sat a xs
  have q : φ h := by rw [← z]; exact ⟨o, es, ep, h1, h2, h3, h4⟩
  obtain ⟨o', vs, g1, g2⟩ := hf h q
  rw [h1] at g1
  cases g1
  rw [h3] at g2
  cases g2
def NkAt (H : Hp) (k : NestedKey) (a : Addr) : Prop := ∃ d, nkT d = some k ∧ Rp H (fun _ => False) (.ref a) d
inductive TabP (H : Hp) (fz : Addr → Prop) : List (NestedKey × Addr × Value) → List (NestedKey × PyData) → Prop
  | nil : TabP H fz [] []
  | cons {k : NestedKey} {a : Addr} {u : Value} {v : V} {d : PyData} {xs : List (NestedKey × Addr × Value)} {kvs : List (NestedKey × PyData)} : NkAt H k a → RelV v u → Rp H fz v d → TabP H fz xs kvs → TabP H fz ((k, a, u) :: xs) ((k, d) :: kvs)
theorem NkAt.keep {H H' : Hp} {fz fz' : Addr → Prop} (kp : Kp H H' fz fz') {k : NestedKey} {a : Addr} : NkAt H k a → NkAt H' k a := fun ⟨d, h1, h2⟩ => ⟨d, h1, Rp.keep ⟨fun _ h => h, fun _ _ h => h.elim, kp.tup, fun _ _ h => h.elim, kp.exx, kp.xd⟩ h2⟩
theorem TabP.keep {H H' : Hp} {fz fz' : Addr → Prop} (kp : Kp H H' fz fz') : ∀ {xs : List (NestedKey × Addr × Value)} {kvs : List (NestedKey × PyData)}, TabP H fz xs kvs → TabP H' fz' xs kvs
  | _, _, .nil => .nil
  | _, _, .cons h1 h2 h3 t => .cons (h1.keep kp) h2 (Rp.keep kp h3) (TabP.keep kp t)
theorem TabP.length {H : Hp} {fz : Addr → Prop} : ∀ {xs : List (NestedKey × Addr × Value)} {kvs : List (NestedKey × PyData)}, TabP H fz xs kvs → xs.length = kvs.length
  | _, _, .nil => rfl
  | _, _, .cons _ _ _ t => by simp [t.length]
def objOk (H : Hp) (fz : Addr → Prop) (om : List Addr) (a : Addr) : PObj → Prop
  | .dct kvs => ∃ vs : List (Key × V), H a = some (.dK vs) ∧ RpK H fz vs kvs
  | .tab kvs => a ≠ sysModules ∧ ∃ xs, H a = some (TabO a xs) ∧ TabP H fz xs kvs ∧ (xs.map (·.1)).Nodup ∧ xs.length ≤ sizeLine
  | .ins _ _ => False
theorem objOk.keep {H H' : Hp} {fz fz' : Addr → Prop} {om om' : List Addr} {a : Addr} {o : PObj} (kp : Kp H H' fz fz') (ha : ∀ u, H a = some u → H' a = some u) (q : objOk H fz om a o) : objOk H' fz' om' a o := by
  cases o with
  | dct kvs =>
    obtain ⟨vs, e, r⟩ := q
    exact ⟨vs, ha _ e, RpK.keep kp r⟩
  | tab kvs =>
    obtain ⟨h0, xs, e, r, h1, h2⟩ := q
    exact ⟨h0, xs, ha _ e, TabP.keep kp r, h1, h2⟩
  | ins _ _ => exact q
inductive OmO (a : Addr) : HO → Prop
  | dK (vs : List (Key × V)) : OmO a (.dK vs)
  | tab (h : a ≠ sysModules) (xs : List (NestedKey × Addr × Value)) : OmO a (TabO a xs)
theorem OmO.no_lst {a : Addr} {xs : List V} (h : OmO a (.lst xs)) : False := by generalize e : HO.lst xs = o at h; cases h <;> cases e
theorem OmO.no_tup {a : Addr} {xs : List V} (h : OmO a (.tup xs)) : False := by generalize e : HO.tup xs = o at h; cases h <;> cases e
theorem OmO.no_frz {a : Addr} {o : Obj} {u : HO} (h : OmO a (.frz o u)) : False := by generalize e : HO.frz o u = o at h; cases h <;> cases e
theorem OmO.no_xd {a : Addr} {fs : List (Str × V)} (h : OmO a (.xd fs)) : False := by generalize e : HO.xd fs = o at h; cases h <;> cases e
theorem OmO.no_exx {a : Addr} {cls : Value} {d : Option Addr} (h : OmO a (ExX cls d a)) : False := by
  generalize e : ExX cls d a = o at h
  cases h with
  | dK vs => cases e
  | tab h xs => exact tab_ne (b := a) (fun h ⟨oe, vs, h1, _, h2⟩ => ⟨oe, vs, h1, h2⟩) e.symm
theorem OmO.no_code {a : Addr} {q : Str} (h : OmO a (LamX.CodeO a q)) : False := by
  generalize e : LamX.CodeO a q = o at h
  cases h with
  | dK vs => cases e
  | tab h xs => exact tab_ne (b := a) (fun h ⟨oe, vs, t, h1, h2, _⟩ => ⟨oe, vs, h1, h2⟩) e.symm
structure WF (H : Hp) (c : Cfg) : Prop where
  nd : c.om.Nodup
  len : c.om.length = c.os.length
  obj : ∀ (n : Nat) (a : Addr) (o : PObj), c.om[n]? = some a → c.os[n]? = some o → objOk H c.fz c.om a o
  sep : ∀ a, c.fz a → a ∉ c.om
  dom : ∀ a, c.fz a → H a ≠ none
  sm : ∃ φ, H sysModules = some (.ext φ)
  tab : LamX.Tabs EA.tb H
theorem tabs_keepC {T : List (Addr × Str)} {H H' : Hp} (h1 : ∀ b ps, H b = some (.tbl ps) → H' b = some (.tbl ps)) (h2 : ∀ b q, H b = some (LamX.CodeO b q) → H' b = some (LamX.CodeO b q)) (t : LamX.Tabs T H) : LamX.Tabs T H' := fun p hp => by
  obtain ⟨ps, e1, e2, e3⟩ := t p hp
  refine ⟨ps, h1 _ _ e1, e2, fun pos cv hc => ?_⟩
  obtain ⟨c, e4, e5⟩ := e3 pos cv hc
  exact ⟨c, e4, h2 _ _ e5⟩
theorem tabs_keep {T : List (Addr × Str)} {H H' : Hp} (h1 : ∀ b ps, H b = some (.tbl ps) → H' b = some (.tbl ps)) (h2 : ∀ b φ, H b = some (.ext φ) → H' b = some (.ext φ)) (t : LamX.Tabs T H) : LamX.Tabs T H' := fun p hp => by
  obtain ⟨ps, e1, e2, e3⟩ := t p hp
  refine ⟨ps, h1 _ _ e1, e2, fun pos cv hc => ?_⟩
  obtain ⟨c, e4, e5⟩ := e3 pos cv hc
  exact ⟨c, e4, h2 _ _ e5⟩
structure Step (c : Cfg) (H : Hp) (c' : Cfg) (H' : Hp) : Prop where
  wf : WF H' c'
  fz : ∀ a, c.fz a → c'.fz a
  fzn : ∀ a, c'.fz a → c.fz a ∨ H a = none
  om : ∃ more, c'.om = c.om ++ more ∧ ∀ a ∈ more, H a = none
  keep : ∀ a o, H a = some o → a ∉ c.om → (∀ ps, o ≠ .tbl ps) → H' a = some o
  tbl : ∀ a ps, H a = some (.tbl ps) → ∃ qs, H' a = some (.tbl qs)
theorem WF.there {H : Hp} {c : Cfg} (w : WF H c) {a : Addr} (h : a ∈ c.om) : ∃ o, H a = some o ∧ OmO a o := by
  obtain ⟨n, hn, e⟩ := List.mem_iff_getElem.mp h
  have h1 : c.om[n]? = some a := by rw [List.getElem?_eq_getElem hn, e]
  have hn2 : n < c.os.length := by rw [← w.len]; exact hn
  have h2 : c.os[n]? = some c.os[n] := List.getElem?_eq_getElem hn2
  have h3 := w.obj n a _ h1 h2
  cases q : c.os[n] with
  | dct kvs =>
    rw [q] at h3
    obtain ⟨vs, e, _⟩ := h3
    exact ⟨_, e, .dK vs⟩
  | tab kvs =>
    rw [q] at h3
    obtain ⟨h0, xs, e, _⟩ := h3
    exact ⟨_, e, .tab h0 xs⟩
  | ins _ _ => rw [q] at h3; exact h3.elim
theorem WF.free {H : Hp} {c : Cfg} (w : WF H c) {a : Addr} (h : H a = none) : a ∉ c.om := fun z => by
  obtain ⟨o, e, _⟩ := w.there z
  rw [h] at e
  cases e
theorem WF.not_om {H : Hp} {c : Cfg} (w : WF H c) {a : Addr} {u : HO} (h : H a = some u) (hn : OmO a u → False) : a ∉ c.om := fun z => by
  obtain ⟨o, e, q⟩ := w.there z
  rw [h] at e
  cases e
  exact hn q
section
variable {c c' c1 c2 : Cfg} {H H' H1 H2 : Hp}
theorem Step.refl (w : WF H c) : Step c H c H := ⟨w, fun _ h => h, fun _ h => .inl h, ⟨[], by simp, fun _ h => absurd h (by simp)⟩, fun _ _ h _ _ => h, fun _ ps h => ⟨ps, h⟩⟩
theorem Step.dom (s : Step c H c' H') {a : Addr} (h : H a ≠ none) : H' a ≠ none := by
  by_cases ha : a ∈ c.om
  · obtain ⟨more, e, _⟩ := s.om
    obtain ⟨o, q, _⟩ := s.wf.there (a := a) (by rw [e]; exact List.mem_append_left _ ha)
    rw [q]; simp
  · cases q : H a with
    | none => exact absurd q h
    | some o =>
      by_cases ht : ∃ ps, o = .tbl ps
      · obtain ⟨ps, rfl⟩ := ht
        obtain ⟨qs, e⟩ := s.tbl a ps q
        rw [e]; simp
      · rw [s.keep a o q ha fun ps z => ht ⟨ps, z⟩]
        simp
theorem Step.back (s : Step c H c' H') {a : Addr} (h : H' a = none) : H a = none := by
  cases q : H a with
  | none => rfl
  | some o => exact absurd h (s.dom (by rw [q]; simp))
theorem Step.trans (s : Step c H c1 H1) (t : Step c1 H1 c2 H2) : Step c H c2 H2 := by
  obtain ⟨m1, e1, f1⟩ := s.om
  obtain ⟨m2, e2, f2⟩ := t.om
  refine ⟨t.wf, fun a h => t.fz a (s.fz a h), fun a h => ?_, ⟨m1 ++ m2, by rw [e2, e1, List.append_assoc], fun a ha => ?_⟩, fun a o h hn ht => ?_, fun a ps h => ?_⟩
  · rcases t.fzn a h with q | q
    · exact s.fzn a q
    · exact .inr (s.back q)
  · rcases List.mem_append.mp ha with z | z
    · exact f1 a z
    · exact s.back (f2 a z)
  · refine t.keep a o (s.keep a o h hn ht) (fun z => ?_) ht
    rw [e1] at z
    rcases List.mem_append.mp z with z | z
    · exact hn z
    · rw [f1 a z] at h; cases h
  · obtain ⟨qs, e⟩ := s.tbl a ps h
    exact t.tbl a qs e
theorem Step.kp (s : Step c H c' H') (w : WF H c) : Kp H H' c.fz c'.fz := by
  exact ⟨s.fz, fun a xs ha h => s.keep a _ h (w.sep a ha) (by simp), fun a p h => h.imp (fun u e k => s.keep a u e (k.elim (fun ⟨o, z⟩ => by subst z; exact w.not_om e OmO.no_frz) fun z => by subst z; exact w.not_om e OmO.no_tup) (fun ps z => k.elim (fun ⟨o, y⟩ => by rw [y] at z; cases z) fun y => by rw [y] at z; cases z)), fun a kvs ha h => s.keep a _ h (w.sep a ha) (by simp), fun a _ _ h => s.keep a _ h (w.not_om h OmO.no_exx) (by simp [ExX]), fun a _ h => s.keep a _ h (w.not_om h OmO.no_xd) (by simp)⟩
theorem RpXs.step (s : Step c H c' H') (w : WF H c) : ∀ {vs : List V} {es : List (Nat × List PyData)}, RpXs H c.fz vs es → RpXs H' c'.fz vs es
  | _, _, .nil => .nil
  | _, _, .cons e1 e2 e3 e4 e5 t => .cons (s.keep _ _ e1 (w.not_om e1 OmO.no_exx) (by simp [ExX])) (s.keep _ _ e2 (w.not_om e2 OmO.no_xd) (by simp)) e3 e4 (RpA.keep (s.kp w) e5) (t.step s w)
theorem RpXs.keepU {H H' : Hp} {fz fz' : Addr → Prop} (kp : Kp H H' fz fz') (k1 : ∀ (a : Addr) (cls : Value) (d : Option Addr), H a = some (ExX cls d a) → H' a = some (ExX cls d a)) (k2 : ∀ (a : Addr) (fs : List (Str × V)), H a = some (.xd fs) → H' a = some (.xd fs)) : ∀ {vs : List V} {es : List (Nat × List PyData)}, RpXs H fz vs es → RpXs H' fz' vs es
  | _, _, .nil => .nil
  | _, _, .cons e1 e2 e3 e4 e5 t => .cons (k1 _ _ _ e1) (k2 _ _ e2) e3 e4 (RpA.keep kp e5) (t.keepU kp k1 k2)
theorem RpXs.keep {H H' : Hp} {fz fz' : Addr → Prop} (kp : Kp H H' fz fz') {vs : List V} {es : List (Nat × List PyData)} (r : RpXs H fz vs es) : RpXs H' fz' vs es := r.keepU kp kp.exx kp.xd
theorem RpXs.length {H : Hp} {fz : Addr → Prop} : ∀ {vs : List V} {es : List (Nat × List PyData)}, RpXs H fz vs es → vs.length = es.length
  | _, _, .nil => rfl
  | _, _, .cons _ _ _ _ _ t => by simp [t.length]
theorem RpXs.append {H : Hp} {fz : Addr → Prop} : ∀ {vs us : List V} {es ds : List (Nat × List PyData)}, RpXs H fz vs es → RpXs H fz us ds → RpXs H fz (vs ++ us) (es ++ ds)
  | _, _, _, _, .nil, q => q
  | _, _, _, _, .cons e1 e2 e3 e4 e5 t, q => .cons e1 e2 e3 e4 e5 (t.append q)
theorem RpXs.get {H : Hp} {fz : Addr → Prop} {om : List Addr} : ∀ {vs : List V} {es : List (Nat × List PyData)} {i : Nat} {x : Nat × List PyData}, RpXs H fz vs es → es[i]? = some x → ∃ v, vs[i]? = some v ∧ Rpv H fz om v (.x x.1 x.2)
  | _, _, _, _, .nil, h => by simp at h
  | _, _, 0, _, .cons e1 e2 e3 e4 e5 t, h => by
    simp at h
    subst h
    exact ⟨_, rfl, _, _, _, rfl, e1, e2, e3, e5⟩
  | _, _, i + 1, _, .cons e1 e2 e3 e4 e5 t, h => by
    obtain ⟨v, h1, h2⟩ := t.get (i := i) (om := om) (by simpa using h)
    exact ⟨v, by simpa using h1, h2⟩
theorem Rpv.step (s : Step c H c' H') (w : WF H c) {v : V} {x : PV} (r : Rpv H c.fz c.om v x) : Rpv H' c'.fz c'.om v x := by
  cases x with
  | d x => exact Rp.keep (s.kp w) r
  | o n =>
    obtain ⟨a, e, rfl⟩ := r
    obtain ⟨more, e2, _⟩ := s.om
    refine ⟨a, ?_, rfl⟩
    rw [e2, List.getElem?_append_left (List.getElem?_eq_some_iff.mp e).1]
    exact e
  | s ns =>
    obtain ⟨a, o, rfl, e⟩ := r
    exact ⟨a, o, rfl, s.keep a _ e (w.not_om e OmO.no_frz) (by simp)⟩
  | x cl ds =>
    obtain ⟨a, dx, vs, rfl, e1, e2, e3, e4⟩ := r
    exact ⟨a, dx, vs, rfl, s.keep a _ e1 (w.not_om e1 OmO.no_exx) (by simp [ExX]), s.keep dx _ e2 (w.not_om e2 OmO.no_xd) (by simp), e3, RpA.keep (s.kp w) e4⟩
  | xs es =>
    obtain ⟨a, vs, rfl, e1, e2, e3⟩ := r
    exact ⟨a, vs, rfl, s.fz a e1, s.keep a _ e2 (w.sep a e1) (by simp), e3.step s w⟩
end
def ownRp (H : Hp) (fz : Addr → Prop) (a : Addr) : PyData → Prop
  | .list ds => ∃ xs, H a = some (.lst xs) ∧ RpA H fz xs ds
  | .dict es => ∃ kvs, H a = some (.dK kvs) ∧ RpK H fz kvs es
  | _ => False
def RoC (c : Cfg) (H : Hp) (x : V) (d : PyData) : Prop := Rp H c.fz x d ∨ ∃ a, x = .ref a ∧ a ∉ c.om ∧ ownRp H c.fz a d
def slotOk (H : Hp) (c : Cfg) (x : Option (Option V)) : Sl → Prop
  | .un => True
  | .v pv => ∃ v, x = some (some v) ∧ Rpv H c.fz c.om v pv
  | .m d => ∃ a, x = some (some (.ref a)) ∧ ¬ c.fz a ∧ a ∉ c.om ∧ ownRp H c.fz a d
  | .b d => ∃ v, x = some (some v) ∧ RoC c H v d
structure Rel (c : Cfg) (σ : St) (H : Hp) : Prop where
  wf : WF H c
  len : σ.length = c.env.length
  slot : ∀ (i : Nat) (sl : Sl), c.env[i]? = some sl → slotOk H c σ[i]? sl
  dif : ∀ (i j : Nat) (d e : PyData) (a : Addr), c.env[i]? = some (.m d) → c.env[j]? = some (.m e) → σ[i]? = some (some (.ref a)) → σ[j]? = some (some (.ref a)) → i = j
section
variable {c c' c1 c2 : Cfg} {H H' H1 H2 : Hp} {σ : St}
theorem ownRp.tracked {a : Addr} {d : PyData} {fz : Addr → Prop} (h : ownRp H fz a d) : H a ≠ none := by
  cases d with
  | list ds => obtain ⟨xs, e, _⟩ := h; rw [e]; simp
  | dict es => obtain ⟨xs, e, _⟩ := h; rw [e]; simp
  | _ => exact h.elim
theorem ownRp.step (s : Step c H c' H') (w : WF H c) {a : Addr} {d : PyData} (hn : a ∉ c.om) (h : ownRp H c.fz a d) : ownRp H' c'.fz a d := by
  cases d with
  | list ds => obtain ⟨xs, e, r⟩ := h; exact ⟨xs, s.keep a _ e hn (by simp), RpA.keep (s.kp w) r⟩
  | dict es => obtain ⟨xs, e, r⟩ := h; exact ⟨xs, s.keep a _ e hn (by simp), RpK.keep (s.kp w) r⟩
  | _ => exact h.elim
theorem RoC.step {c c' : Cfg} {H H' : Hp} {x : V} {d : PyData} (s : Step c H c' H') (w : WF H c) (h : RoC c H x d) : RoC c' H' x d := by
  rcases h with h | ⟨a, e, hn, h⟩
  · exact .inl (Rp.keep (s.kp w) h)
  · refine .inr ⟨a, e, fun z => ?_, h.step s w hn⟩
    obtain ⟨more, e2, f⟩ := s.om
    rw [e2] at z
    rcases List.mem_append.mp z with z | z
    · exact hn z
    · exact h.tracked (f a z)
theorem slotOk.step (s : Step c H c' H') (w : WF H c) {x : Option (Option V)} {sl : Sl} (h : slotOk H c x sl) : slotOk H' c' x sl := by
  cases sl with
  | un => trivial
  | v pv =>
    obtain ⟨v, e, r⟩ := h
    exact ⟨v, e, r.step s w⟩
  | m d =>
    obtain ⟨a, e, nf, no, r⟩ := h
    have ht := r.tracked
    refine ⟨a, e, fun z => ?_, fun z => ?_, r.step s w no⟩
    · rcases s.fzn a z with q | q
      · exact nf q
      · exact ht q
    · obtain ⟨more, e2, f⟩ := s.om
      rw [e2] at z
      rcases List.mem_append.mp z with z | z
      · exact no z
      · exact ht (f a z)
  | b d =>
    obtain ⟨v, e, r⟩ := h
    exact ⟨v, e, r.step s w⟩
theorem Rel.step (r : Rel c σ H) (s : Step c H c' H') (e : c'.env = c.env) : Rel c' σ H' :=
  ⟨s.wf, by rw [e]; exact r.len, fun i sl h => (r.slot i sl (by rw [← e]; exact h)).step s r.wf, fun i j d d' a h1 h2 => r.dif i j d d' a (by rw [← e]; exact h1) (by rw [← e]; exact h2)⟩
theorem step_tup (w : WF H c) {p : Addr} (hp : H p = none) (u : HO) : Step c H c (upd H p u) := by
  have ne : ∀ a, H a ≠ none → a ≠ p := fun a h z => h (by rw [z]; exact hp)
  have kp : Kp H (upd H p u) c.fz c.fz := ⟨fun _ h => h, fun a ys ha h => by rw [upd_ne (ne a (by rw [h]; simp))]; exact h, fun a ys h => h.upd hp, fun a kvs _ h => by rw [upd_ne (ne a (by rw [h]; simp))]; exact h, fun a _ _ h => by rw [upd_ne (ne a (by rw [h]; simp))]; exact h, fun a _ h => by rw [upd_ne (ne a (by rw [h]; simp))]; exact h⟩
  refine ⟨⟨w.nd, w.len, fun n a o h1 h2 => ?_, w.sep, fun a h => ?_, let ⟨φ, e⟩ := w.sm; ⟨φ, by rw [upd_ne (ne _ (by rw [e]; simp))]; exact e⟩, tabs_keep (fun b ps e => by rw [upd_ne (ne _ (by rw [e]; simp))]; exact e) (fun b ps e => by rw [upd_ne (ne _ (by rw [e]; simp))]; exact e) w.tab⟩, fun _ h => h, fun _ h => .inl h, ⟨[], by simp, fun _ h => absurd h (by simp)⟩, fun a o h _ _ => by rw [upd_ne (ne a (by rw [h]; simp))]; exact h, fun a ps h => ⟨ps, by rw [upd_ne (ne a (by rw [h]; simp))]; exact h⟩⟩
  · exact objOk.keep kp (fun u e => by rw [upd_ne (ne a (by rw [e]; simp))]; exact e) (w.obj n a o h1 h2)
  · rw [upd_ne (ne a (w.dom a h))]; exact w.dom a h
def Cfg.fr (c : Cfg) (p : Addr) : Cfg := { c with fz := fun a => c.fz a ∨ a = p }
theorem step_any (w : WF H c) {p : Addr} (hp : H p = none) (o : HO) : Step c H c (upd H p o) ∧ Step c H (c.fr p) (upd H p o) ∧ Kp H (upd H p o) c.fz (fun a => c.fz a ∨ a = p) := by
  have ne : ∀ a, H a ≠ none → a ≠ p := fun a h z => h (by rw [z]; exact hp)
  have kp0 : Kp H (upd H p o) c.fz c.fz := ⟨fun _ h => h, fun a ys ha h => by rw [upd_ne (ne a (by rw [h]; simp))]; exact h, fun a ys h => h.upd hp, fun a kvs _ h => by rw [upd_ne (ne a (by rw [h]; simp))]; exact h, fun a _ _ h => by rw [upd_ne (ne a (by rw [h]; simp))]; exact h, fun a _ h => by rw [upd_ne (ne a (by rw [h]; simp))]; exact h⟩
  have kp : Kp H (upd H p o) c.fz (fun a => c.fz a ∨ a = p) := ⟨fun _ h => .inl h, kp0.lst, kp0.tup, kp0.dct, kp0.exx, kp0.xd⟩
  have npo : p ∉ c.om := w.free hp
  have obj : ∀ {fz' : Addr → Prop}, Kp H (upd H p o) c.fz fz' → ∀ (n : Nat) (a : Addr) (o' : PObj), c.om[n]? = some a → c.os[n]? = some o' → objOk (upd H p o) fz' c.om a o' := fun {fz'} kp n a o' h1 h2 =>
    objOk.keep kp (fun u e => by rw [upd_ne (ne a (by rw [e]; simp))]; exact e) (w.obj n a o' h1 h2)
  have sm : ∃ φ, upd H p o sysModules = some (.ext φ) := let ⟨φ, e⟩ := w.sm; ⟨φ, by rw [upd_ne (ne _ (by rw [e]; simp))]; exact e⟩
  have tab : LamX.Tabs EA.tb (upd H p o) := tabs_keep (fun b ps e => by rw [upd_ne (ne _ (by rw [e]; simp))]; exact e) (fun b ps e => by rw [upd_ne (ne _ (by rw [e]; simp))]; exact e) w.tab
  refine ⟨⟨⟨w.nd, w.len, obj kp0, w.sep, fun a h => ?_, sm, tab⟩, fun _ h => h, fun _ h => .inl h, ⟨[], by simp, fun _ h => absurd h (by simp)⟩, fun a o h _ _ => by rw [upd_ne (ne a (by rw [h]; simp))]; exact h, fun a ps h => ⟨ps, by rw [upd_ne (ne a (by rw [h]; simp))]; exact h⟩⟩,
    ⟨⟨w.nd, w.len, obj kp, fun a h => ?_, fun a h => ?_, sm, tab⟩, fun _ h => .inl h, fun a h => ?_, ⟨[], by simp [Cfg.fr], fun _ h => absurd h (by simp)⟩, fun a o h _ _ => by rw [upd_ne (ne a (by rw [h]; simp))]; exact h, fun a ps h => ⟨ps, by rw [upd_ne (ne a (by rw [h]; simp))]; exact h⟩⟩, kp⟩
  · rw [upd_ne (ne a (w.dom a h))]; exact w.dom a h
  · rcases h with h | h
    · exact w.sep a h
    · rw [h]; exact npo
  · rcases h with h | h
    · rw [upd_ne (ne a (w.dom a h))]; exact w.dom a h
    · rw [h, upd_same]; simp
  · rcases h with h | h
    · exact .inl h
    · exact .inr (by rw [h]; exact hp)
end
end FC
end
section
set_option Elab.async false
set_option linter.all false
set_option maxRecDepth 100000
set_option maxHeartbeats 2000000
namespace FC
open PySem L2 PyProof.Rows
def NewT (zs : List V) (G : Hp) (Q : VK) : Prop := ∀ (T : Addr) (ob : Obj), G T = none → ob.dict = none → Q (.ref T) (upd G T (.frz ob (.tup zs)))
section
variable {X : Cx} {pn : List (Addr × Obj)} {sl : L2.St} {G : Hp} {sh : Shared} {Q : VK} {zs : List V} {us : List Value}
theorem newT_end (J : Inv X pn sl G sh) (hz : zs.length ≤ sizeLine) (r : Vals zs us) (h : NewT zs G Q) :
    EP X pn sl Q (.ref sh.heap.objs.size) { sh with heap := sh.heap.push { cls := .type "tuple", data := .seq us.toArray } } := by
  have fr := J.hok.fresh (Nat.le_refl sh.heap.objs.size)
  have e := Heap.get?_push_size sh.heap (o := { cls := .type "tuple", data := .seq us.toArray }) rfl
  have J2 := J.laid (t' := sh.toks) (o := .frz { cls := .type "tuple", data := .seq us.toArray } (.tup zs)) (fun _ _ q => Heap.get?_push_of_some _ q) (Nat.le_refl sh.heap.objs.size) ⟨e, hz, us, r, IsTup.new _ _⟩
  exact ⟨.ref sh.heap.objs.size, _, J2, rfl, h _ _ fr rfl⟩
def tTupF (t : TA) : TE := fun sl G Q => t sl G fun zs G1 => zs.length ≤ sizeLine ∧ NewT zs G1 Q
theorem pe_tupF {es : List Expr} {j : Nat} {pos : Pos} {t : TA} (h : PA X es t) : PE X (.Tuple es j pos) (tTupF t) := by
  refine ⟨fun pn sh sl G Q J hq => ?_⟩
  refine wpAny_Tuple_spliced (thn (h.run pos pn sh sl G _ J hq) fun us s1 ⟨zs, G1, J1, r, z, q⟩ => ?_)
  exact ⟨r.length ▸ z, newT_end J1 z r q⟩
theorem call_tupleF : CallR X (.type "tuple") (fun vs G Q => ∃ p zs, vs = [.ref p] ∧ ((SqL X.K G p zs ∧ NewT zs G Q) ∨ (SqT X.K G p zs ∧ Q (.ref p) G))) := by
  rintro pn sh sl G vs us Q J r ⟨p, zs, rfl, q⟩
  obtain ⟨u, rfl, ru⟩ := vals1 r
  cases ru
  rcases q with ⟨hl, q⟩ | ⟨ht, q⟩
  · obtain ⟨ws, rw1, isl, hz⟩ := J.list hl
    have le : ws.toArray.size ≤ sizeLine := by rw [List.size_toArray, ← rw1.length]; exact hz
    refine call_tuple_list isl.isList (fun g kp => ?_) le
    exact newT_end (sh := { sh with heap := g }) (J.kept (t' := sh.toks) kp) hz rw1 q
  · obtain ⟨ws, _, ist, _⟩ := J.tuple ht
    exact call_tuple_same ist ⟨.ref p, G, J, rfl, q⟩
def rTupCat (K : PySem.W.Frag) : R2 := fun x y G Q => ∃ a b zs ys, x = .ref a ∧ y = .ref b ∧ SqT K G a zs ∧ SqT K G b ys ∧ zs.length + ys.length ≤ sizeLine ∧
  (zs = [] → Q (.ref b) G) ∧ (zs ≠ [] → ys = [] → Q (.ref a) G) ∧ (zs ≠ [] → ys ≠ [] → NewT (zs ++ ys) G Q)
theorem op_tupCat : OpR X (binaryOp .Add) (rTupCat X.K) := by
  rintro pn sh sl G x y v u Q J rx ry ⟨a, b, zs, ys, rfl, rfl, ha, hb, hz, q0, q1, q2⟩
  cases rx
  cases ry
  obtain ⟨ws, k1, p1, _⟩ := J.tuple ha
  obtain ⟨ws2, k2, p2, _⟩ := J.tuple hb
  cases zs with
  | nil =>
    cases k1
    exact cat_tup0 p1 p2 ⟨.ref b, G, J, rfl, q0 rfl⟩
  | cons z zs =>
    have hle : ws.length + ws2.length ≤ sizeLine := by rw [← k1.length, ← k2.length]; exact hz
    have ne1 : ws ≠ [] := fun e => by rw [k1.nil_iff] at e; cases e
    refine HT.cat_tup p1 p2 ne1 (fun e => ⟨.ref a, G, J, rfl, q1 (by simp) (k2.nil_iff.mp e)⟩) (fun e => ?_) hle
    exact newT_end J (by rw [List.length_append]; exact hz) (k1.append k2) (q2 (by simp) fun e' => e (k2.nil_iff.mpr e'))
def rSlF (K : PySem.W.Frag) : V → Option Int → Option Int → Hp → VK → Prop := fun x lo hi G Q => ∃ a zs, x = .ref a ∧ SqT K G a zs ∧
  (HT.sIx zs.length 0 lo = 0 ∧ HT.sIx zs.length zs.length hi = zs.length → Q (.ref a) G) ∧ (¬ (HT.sIx zs.length 0 lo = 0 ∧ HT.sIx zs.length zs.length hi = zs.length) → NewT (cutV zs lo hi) G Q)
theorem sl_tupF : SlR X (rSlF X.K) := by
  rintro pn sh sl G x v vl vu lo hi ad Q J rx hs pl pu ⟨a, zs, rfl, hx, q1, q2⟩
  cases rx
  obtain ⟨ws, r, ht, hz⟩ := J.tuple hx
  have hn : ws.toArray.size = zs.length := by rw [List.size_toArray, r.length]
  refine ⟨_, _, slot_tuple_getitem.lookup, ht.typeIs, ?_⟩
  by_cases hw : HT.sIx zs.length 0 lo = 0 ∧ HT.sIx zs.length zs.length hi = zs.length
  · exact getItem_tuple_whole ht hs pl pu (hn ▸ hw) ⟨.ref a, G, J, rfl, q1 hw⟩
  · refine HT.getItem_tuple_cut ht hs pl pu (hn ▸ hw) ?_ (hn ▸ hz)
    rw [hn]
    exact newT_end J (Nat.le_trans (cutV_length zs lo hi) hz) ((r.drop _).take _) (q2 hw)
def rRepF (K : PySem.W.Frag) : R2 := fun x y G Q => ∃ l k zs, x = .ref l ∧ y = .int k ∧ SqT K G l zs ∧ zs ≠ [] ∧ 2 ≤ k ∧ k ≤ 1000 ∧ zs.length ≤ 1000 ∧ NewT (List.replicate k.toNat zs).flatten G Q
theorem op_repF : OpR X (binaryOp .Mult) (rRepF X.K) := by
  rintro pn sh sl G x y v u Q J rx ry ⟨l, k, zs, rfl, rfl, hT, hne, h1, h2, hz, q⟩
  cases rx
  obtain ⟨t, rfl⟩ := ry
  obtain ⟨ws, r, ⟨⟨cl, dd, dt, so⟩, ho, hc, n, hd⟩, _⟩ := J.tuple hT
  simp only at hc hd
  subst hc hd
  have el : ws.length = zs.length := r.length.symm
  have hi : ws.toArray.isEmpty = false := by
    cases ws with
    | nil => exact absurd (List.eq_nil_of_length_eq_zero el.symm) hne
    | cons _ _ => rfl
  have prod : k.toNat * zs.length ≤ 1000000 := Nat.mul_le_mul (show k.toNat ≤ 1000 by omega) hz
  have prodI : ((ws.toArray.size : Nat) : Int) * k ≤ 1000000 := by
    have e1 : ((ws.toArray.size : Nat) : Int) * k = ((k.toNat * zs.length : Nat) : Int) := by
      rw [List.size_toArray, el, Int.natCast_mul, Int.toNat_of_nonneg (by omega), Int.mul_comm]
    rw [e1]
    omega
  have big : (List.replicate k.toNat zs).flatten.length ≤ sizeLine := by rw [PyProof.Rows.lm_len_rep_flat, sizeLine_eq]; omega
  have big2 : (List.replicate k.toNat ws).flatten.length ≤ sizeLine := by rw [PyProof.Rows.lm_len_rep_flat, el, sizeLine_eq]; omega
  have b0 : (decide (k < -(2 ^ 63)) || decide (k ≥ 2 ^ 63)) = false := by simp; omega
  have b1 : (ws.toArray.isEmpty || k == 1) = false := by simp [hi]; omega
  have b2 : (decide (k ≤ 0) || ws.toArray.isEmpty) = false := by simp [hi]; omega
  have b4 : Builtin.Tuple.tupleTooMany (((ws.toArray.size : Nat) : Int) * k) = false := by
    unfold Builtin.Tuple.tupleTooMany
    refine decide_eq_false ?_
    rw [sizeLine_eq]
    omega
  have mulM := tuple_mulW l ws.toArray n dd so k t b0 b1 b2 (by omega) b4 (by rw [size_rep, List.size_toArray]; exact big2)
  have ty : sh.TypeIs (.ref l) "tuple" := ⟨_, ho, rfl⟩
  have tail := call_meets PySem.F.slot_tuple_mul ty PySem.F.entry_tuple_mul (PySem.F.args_tuple_mul_2 _ _) mulM (prog := X.prog) (w := X.w) (A := X.A) (Q := EP X pn sl Q) (E := X.xe) ⟨ho, by
    rw [size_rep]
    exact newT_end J big (r.rep k.toNat) q⟩
  exact wpAny_binaryOp_repeat_ref (T := "tuple") (U := "int") (by decide) ty (fun s' => typeIs_int s' k t) noFill_tuple_mul PySem.F.fills_int_mul PySem.F.slot_int_rmul repeat_tuple PySem.F.slot_int_index.lookup
    (call_meets PySem.F.slot_int_rmul (typeIs_int sh k t) PySem.F.entry_int_rmul (PySem.F.args_int_rmul_2 _ _) (int_rmul_tuple k t l ws.toArray n dd so) ⟨ho, rfl, ty, tail⟩)
def rRepE (K : PySem.W.Frag) : R2 := fun x y G Q => ∃ l k, x = .ref l ∧ y = .int k ∧ SqT K G l [] ∧ 2 ≤ k ∧ k ≤ 1000 ∧ Q (.ref l) G
theorem tuple_mulE (l : Addr) (n : Nat) (dd : Option Addr) (sl : Array (Option Value)) (x : Int) (u : Tok) (c0 : (decide (x < -(2 ^ 63)) || decide (x ≥ 2 ^ 63)) = false) :
    Meets (Builtin.«tuple.__mul__» ⟨[.ref l, .int x u], []⟩) (fun _ R s => s.heap.get? l = some { cls := .type "tuple", dict := dd, data := .seq #[] n, slots := sl } ∧
      R (.ok (.ret (Value.ref l))) s) :=
  .of_wp fun prog w A R s h => by
    obtain ⟨hp, g, d, tk, os⟩ := s
    obtain ⟨hl, h⟩ := h
    have f1 := AutoSeq1.idx_int
    wp_walk using wpAny_loadPart' hl
    repeat (first
      | (refine wpAny_ite_false (decide_eq_false (by rw [c0]; exact Bool.false_ne_true)) ?_; wp_walk using wpAny_loadPart' hl)
      | (refine wpAny_ite_true (decide_eq_true (by rfl)) ?_; wp_walk using wpAny_loadPart' hl))
    exact ⟨_, rfl, h⟩
theorem op_repE : OpR X (binaryOp .Mult) (rRepE X.K) := by
  rintro pn sh sl G x y v u Q J rx ry ⟨l, k, rfl, rfl, hT, h1, h2, q⟩
  cases rx
  obtain ⟨t, rfl⟩ := ry
  obtain ⟨ws, r, ⟨⟨cl, dd, dt, so⟩, ho, hc, n, hd⟩, _⟩ := J.tuple hT
  simp only at hc hd
  subst hc hd
  have hw : ws = [] := List.eq_nil_of_length_eq_zero r.length.symm
  subst hw
  have b0 : (decide (k < -(2 ^ 63)) || decide (k ≥ 2 ^ 63)) = false := by simp; omega
  have ty : sh.TypeIs (.ref l) "tuple" := ⟨_, ho, rfl⟩
  have tail := call_meets PySem.F.slot_tuple_mul ty PySem.F.entry_tuple_mul (PySem.F.args_tuple_mul_2 _ _) (tuple_mulE l n dd so k t b0) (prog := X.prog) (w := X.w) (A := X.A) (Q := EP X pn sl Q) (E := X.xe) ⟨ho, .ref l, G, J, rfl, q⟩
  exact wpAny_binaryOp_repeat_ref (T := "tuple") (U := "int") (by decide) ty (fun s' => typeIs_int s' k t) noFill_tuple_mul PySem.F.fills_int_mul PySem.F.slot_int_rmul repeat_tuple PySem.F.slot_int_index.lookup
    (call_meets PySem.F.slot_int_rmul (typeIs_int sh k t) PySem.F.entry_int_rmul (PySem.F.args_int_rmul_2 _ _) (int_rmul_tuple k t l #[] n dd so) ⟨ho, rfl, ty, tail⟩)
end
end FC
end
section
set_option Elab.async false
set_option linter.all false
set_option maxRecDepth 100000
set_option maxHeartbeats 2000000
namespace FC
open PySem L2 PyProof.Rows
variable [EA]
def Ro (H : Hp) (fz : Addr → Prop) (x : V) (d : PyData) : Prop := Rp H fz x d ∨ ∃ a, x = .ref a ∧ ownRp H fz a d
def Po (c : Cfg) (H : Hp) (z : PyData) (Q : VK) : Prop := ∀ (v : V) (H' : Hp) (c' : Cfg), Step c H c' H' → c'.env = c.env → c'.os = c.os → Rp H' c'.fz v z → Q v H'
section
variable {c : Cfg} {H : Hp} {Q : VK}
theorem Ro.list {x : V} {ds : List PyData} {fz : Addr → Prop} (h : Ro H fz x (.list ds)) : ∃ a xs, x = .ref a ∧ H a = some (.lst xs) ∧ RpA H fz xs ds := by
  rcases h with h | ⟨a, rfl, xs, e, r⟩
  · cases h with
    | lst ha h r => exact ⟨_, _, rfl, h, r⟩
  · exact ⟨a, xs, rfl, e, r⟩
theorem Ro.tup {x : V} {ds : List PyData} {fz : Addr → Prop} (h : Ro H fz x (.tuple ds)) : ∃ a xs, x = .ref a ∧ TupQ H a (xs, isEs ds) ∧ RpA H fz xs ds := by
  rcases h with h | ⟨a, rfl, h⟩
  · cases h with
    | tup h r => exact ⟨_, _, rfl, h, r⟩
  · exact h.elim
theorem Ro.dct {x : V} {ds : List (PyData × PyData)} {fz : Addr → Prop} (h : Ro H fz x (.dict ds)) : ∃ a kvs, x = .ref a ∧ H a = some (.dK kvs) ∧ RpK H fz kvs ds := by
  rcases h with h | ⟨a, rfl, xs, e, r⟩
  · cases h with
    | dct ha h r => exact ⟨_, _, rfl, h, r⟩
  · exact ⟨a, xs, rfl, e, r⟩
theorem Ro.int {x : V} {i : Int} {fz : Addr → Prop} (h : Ro H fz x (.int i)) : x = .int i := by
  rcases h with h | ⟨a, rfl, h⟩
  · cases h; rfl
  · exact h.elim
theorem Ro.str {x : V} {i : Str} {fz : Addr → Prop} (h : Ro H fz x (.str i)) : x = .str i := by
  rcases h with h | ⟨a, rfl, h⟩
  · cases h; rfl
  · exact h.elim
theorem Ro.bool {x : V} {i : Bool} {fz : Addr → Prop} (h : Ro H fz x (.bool i)) : x = .bl i := by
  rcases h with h | ⟨a, rfl, h⟩
  · cases h; rfl
  · exact h.elim
theorem Ro.non {x : V} {fz : Addr → Prop} (h : Ro H fz x .none) : x = .non := by
  rcases h with h | ⟨a, rfl, h⟩
  · cases h; rfl
  · exact h.elim
theorem Po.here (w : WF H c) {z : PyData} {v : V} (p : Po c H z Q) (r : Rp H c.fz v z) : Q v H := p v H c (Step.refl w) rfl rfl r
theorem Po.tup (w : WF H c) {ds : List PyData} {xs : List V} (p : Po c H (.tuple ds) Q) (r : RpA H c.fz xs ds) (hn : isEs ds = false) : ∀ q, H q = none → Q (.ref q) (upd H q (.tup xs)) := fun q hq => by
  have s := step_tup w hq (.tup xs)
  exact p _ _ c s rfl rfl (.tup (.inr ⟨hn, upd_same⟩) (RpA.keep (s.kp w) r))
theorem Po.tupF (w : WF H c) {ds : List PyData} {xs : List V} (p : Po c H (.tuple ds) Q) (r : RpA H c.fz xs ds) : NewT xs H Q := fun q o hq hd => by
  have s := step_tup w hq (.frz o (.tup xs))
  exact p _ _ c s rfl rfl (.tup (.inl ⟨o, upd_same, hd⟩) (RpA.keep (s.kp w) r))
theorem Po.lst (w : WF H c) {ds : List PyData} {xs : List V} (p : Po c H (.list ds) Q) (r : RpA H c.fz xs ds) : ∀ q, H q = none → Q (.ref q) (upd H q (.lst xs)) := fun q hq => by
  obtain ⟨_, s, kp⟩ := step_any w hq (.lst xs)
  exact p _ _ (c.fr q) s rfl rfl (.lst (.inr rfl) upd_same (RpA.keep kp r))
theorem Po.dct (w : WF H c) {ds : List (PyData × PyData)} {xs : List (Key × V)} (p : Po c H (.dict ds) Q) (r : RpK H c.fz xs ds) : ∀ q, H q = none → Q (.ref q) (upd H q (.dK xs)) := fun q hq => by
  obtain ⟨_, s, kp⟩ := step_any w hq (.dK xs)
  exact p _ _ (c.fr q) s rfl rfl (.dct (.inr rfl) upd_same (RpK.keep kp r))
mutual
theorem Rp.dp {K : PySem.W.Frag} {al : Addr → Prop} : ∀ {d : PyData} {v : V}, Rp H al v d → d.canLay0 = true → Dp K H v d
  | .none, _, .non, _ => .non
  | .bool b, _, .bl _, _ => .bl b
  | .int i, _, .int _, _ => .int i
  | .str x, _, .str _, _ => .str x
  | .list ds, _, .lst _ h r, e => .lst (SqL.of h) (RpA.dp r (by simpa [PyData.canLay0] using e))
  | .tuple ds, _, .tup h r, e => .tup h.sq (RpA.dp r (by simpa [PyData.canLay0] using e))
  | .dict _, _, _, e => by simp [PyData.canLay0] at e
theorem RpA.dp {K : PySem.W.Frag} {al : Addr → Prop} : ∀ {ds : List PyData} {vs : List V}, RpA H al vs ds → PyData.canLayAll0 ds = true → DpAll K H vs ds
  | [], _, .nil, _ => .nil
  | d :: ds, _, .cons r t, e => by
    have e' : d.canLay0 = true ∧ PyData.canLayAll0 ds = true := by simpa [PyData.canLayAll0] using e
    exact .cons (Rp.dp r e'.1) (RpA.dp t e'.2)
end
theorem Ro.dp {K : PySem.W.Frag} {fz : Addr → Prop} {d : PyData} {v : V} (h : Ro H fz v d) (e : d.canLay0 = true) : Dp K H v d := by
  rcases h with h | ⟨a, rfl, h⟩
  · exact h.dp e
  · cases d with
    | list ds =>
      obtain ⟨xs, e1, r⟩ := h
      exact .lst (SqL.of e1) (RpA.dp r (by simpa [PyData.canLay0] using e))
    | dict _ => simp [PyData.canLay0] at e
    | _ => exact h.elim
theorem RpA.ints {al : Addr → Prop} : ∀ {ds : List PyData} {vs : List V} {ns : List Int}, RpA H al vs ds → intsD ds = some ns → vs = ns.map V.int
  | [], _, ns, .nil, e => by simp [intsD] at e; subst e; rfl
  | .int i :: ds, _, ns, .cons r t, e => by
    simp only [intsD, Option.map_eq_some_iff] at e
    obtain ⟨ms, e1, rfl⟩ := e
    cases r
    rw [RpA.ints t e1]; rfl
  | .none :: _, _, _, _, e => by simp [intsD] at e
  | .bool _ :: _, _, _, _, e => by simp [intsD] at e
  | .str _ :: _, _, _, _, e => by simp [intsD] at e
  | .list _ :: _, _, _, _, e => by simp [intsD] at e
  | .tuple _ :: _, _, _, _, e => by simp [intsD] at e
  | .dict _ :: _, _, _, _, e => by simp [intsD] at e
theorem RpA.bools {al : Addr → Prop} : ∀ {ds : List PyData} {vs : List V} {ns : List Bool}, RpA H al vs ds → boolsD ds = some ns → vs = ns.map V.bl
  | [], _, ns, .nil, e => by simp [boolsD] at e; subst e; rfl
  | .bool i :: ds, _, ns, .cons r t, e => by
    simp only [boolsD, Option.map_eq_some_iff] at e
    obtain ⟨ms, e1, rfl⟩ := e
    cases r
    rw [RpA.bools t e1]; rfl
  | .none :: _, _, _, _, e => by simp [boolsD] at e
  | .int _ :: _, _, _, _, e => by simp [boolsD] at e
  | .str _ :: _, _, _, _, e => by simp [boolsD] at e
  | .list _ :: _, _, _, _, e => by simp [boolsD] at e
  | .tuple _ :: _, _, _, _, e => by simp [boolsD] at e
  | .dict _ :: _, _, _, _, e => by simp [boolsD] at e
end
def r2 (p : P2) : R2 := fun x y H Q => ∃ (c : Cfg) (d e z : PyData), WF H c ∧ Ro H c.fz x d ∧ Ro H c.fz y e ∧ d2 p d e = some z ∧ Po c H z Q
section
variable {X : Cx} {pins : List (Addr × Obj)} {σ : L2.St} {H : Hp} {s : Shared}
theorem fit_le {n : Nat} (h : fit n = true) : n ≤ sizeLine := of_decide_eq_true h
def binOf : P2 → Option Operator
  | .add => some .Add
  | .sub => some .Sub
  | .mul => some .Mult
  | .fdiv => some .FloorDiv
  | .mod => some .Mod
  | .pow => some .Pow
  | .band => some .BitAnd
  | .bxor => some .BitXor
  | _ => none
theorem op2_add : OpR X (binaryOp .Add) (r2 .add) := by
  intro pins s σ H x y v u Q I rx ry h
  obtain ⟨c, d, e, z, w, hd, he, hz, hq⟩ := h
  cases d <;> cases e <;> simp only [d2] at hz <;> try contradiction
  · cases hz
    obtain rfl := hd.int
    obtain rfl := he.int
    exact op_add pins s σ H _ _ v u Q I rx ry ⟨_, _, rfl, rfl, hq.here w (.int _)⟩
  · split at hz
    · rename_i hf
      cases hz
      obtain rfl := hd.str
      obtain rfl := he.str
      exact op_add_str pins s σ H _ _ v u Q I rx ry ⟨_, _, rfl, rfl, fit_le hf, hq.here w (.str _)⟩
    · cases hz
  · split at hz
    · rename_i hf
      cases hz
      obtain ⟨a, xs, rfl, h1, r1⟩ := hd.list
      obtain ⟨b, ys, rfl, h2, r2⟩ := he.list
      exact op_cat pins s σ H _ _ v u Q I rx ry ⟨_, _, xs, ys, rfl, rfl, h1, h2, by rw [r1.length, r2.length]; exact fit_le hf, hq.lst w (r1.append r2)⟩
    · cases hz
  · split at hz
    · rename_i hf
      cases hz
      obtain ⟨a, xs, rfl, h1, r1⟩ := hd.tup
      obtain ⟨b, ys, rfl, h2, r2⟩ := he.tup
      refine op_tupCat pins s σ H _ _ v u Q I rx ry ⟨_, _, xs, ys, rfl, rfl, h1.sq, h2.sq, by rw [r1.length, r2.length]; exact fit_le hf, fun e => ?_, fun _ e => ?_, fun _ _ => hq.tupF w (r1.append r2)⟩
      · subst e
        have hl := r1.length
        simp only [List.length_nil] at hl
        rw [List.eq_nil_of_length_eq_zero hl.symm, List.nil_append] at hq
        exact hq.here w (.tup h2 r2)
      · subst e
        have hl := r2.length
        simp only [List.length_nil] at hl
        rw [List.eq_nil_of_length_eq_zero hl.symm, List.append_nil] at hq
        exact hq.here w (.tup h1 r1)
    · cases hz
theorem op2_int {f : Value → Value → Sem Value} {p : P2} {C : Int → Int → Prop} {g : Int → Int → Int} (ho : OpR X f (rI C fun i j => .int (g i j)))
    (hp : ∀ d e z, d2 p d e = some z → ∃ i j, d = .int i ∧ e = .int j ∧ C i j ∧ z = .int (g i j)) : OpR X f (r2 p) := by
  intro pins s σ H x y v u Q I rx ry h
  obtain ⟨c, d, e, z, w, hd, he, hz, hq⟩ := h
  obtain ⟨i, j, rfl, rfl, hC, rfl⟩ := hp d e z hz
  obtain rfl := hd.int
  obtain rfl := he.int
  exact ho pins s σ H _ _ v u Q I rx ry ⟨_, _, rfl, rfl, hC, hq.here w (.int _)⟩
theorem op2_int0 {f : Value → Value → Sem Value} {p : P2} {g : Int → Int → Int} (ho : OpR X f (rI0 fun i j => .int (g i j)))
    (hp : ∀ d e z, d2 p d e = some z → ∃ i j, d = .int i ∧ e = .int j ∧ z = .int (g i j)) : OpR X f (r2 p) := by
  intro pins s σ H x y v u Q I rx ry h
  obtain ⟨c, d, e, z, w, hd, he, hz, hq⟩ := h
  obtain ⟨i, j, rfl, rfl, rfl⟩ := hp d e z hz
  obtain rfl := hd.int
  obtain rfl := he.int
  exact ho pins s σ H _ _ v u Q I rx ry ⟨_, _, rfl, rfl, hq.here w (.int _)⟩
theorem op2_sub : OpR X (binaryOp .Sub) (r2 .sub) := op2_int0 op_sub fun d e z hz => by
  cases d <;> cases e <;> simp only [d2] at hz <;> try contradiction
  cases hz; exact ⟨_, _, rfl, rfl, rfl⟩
theorem op2_band : OpR X (binaryOp .BitAnd) (r2 .band) := op2_int0 op_and fun d e z hz => by
  cases d <;> cases e <;> simp only [d2] at hz <;> try contradiction
  cases hz; exact ⟨_, _, rfl, rfl, rfl⟩
theorem op2_bxor : OpR X (binaryOp .BitXor) (r2 .bxor) := op2_int0 op_xor fun d e z hz => by
  cases d <;> cases e <;> simp only [d2] at hz <;> try contradiction
  cases hz; exact ⟨_, _, rfl, rfl, rfl⟩
theorem op2_fdiv : OpR X (binaryOp .FloorDiv) (r2 .fdiv) := op2_int op_fdivW fun d e z hz => by
  cases d <;> cases e <;> simp only [d2] at hz <;> try contradiction
  split at hz
  · rename_i h
    simp only [Bool.and_eq_true, Bool.or_eq_true, decide_eq_true_eq] at h
    cases hz
    refine ⟨_, _, rfl, rfl, ⟨h.1, ?_⟩, rfl⟩
    rcases h.2 with h2 | h2
    · have e : (2 : Nat) ^ 30 = 1073741824 := by decide
      exact Nat.lt_of_lt_of_le (PySem.Flt.log2_lt_of (k := 30) (by omega) (by rw [e]; omega)) (by omega)
    · exact h2
  · cases hz
theorem op2_mod : OpR X (binaryOp .Mod) (r2 .mod) := op2_int op_mod fun d e z hz => by
  cases d <;> cases e <;> simp only [d2] at hz <;> try contradiction
  split at hz
  · rename_i h
    simp only [decide_eq_true_eq] at h
    cases hz
    exact ⟨_, _, rfl, rfl, h, rfl⟩
  · cases hz
theorem op2_pow : OpR X (binaryOp .Pow) (r2 .pow) := op2_int op_pow fun d e z hz => by
  cases d <;> cases e <;> simp only [d2] at hz <;> try contradiction
  split at hz
  · rename_i h
    simp only [Bool.and_eq_true, decide_eq_true_eq] at h
    cases hz
    exact ⟨_, _, rfl, rfl, ⟨h.1.1, h.1.2, h.2⟩, rfl⟩
  · cases hz
theorem op2_mul : OpR X (binaryOp .Mult) (r2 .mul) := by
  intro pins s σ H x y v u Q I rx ry h
  obtain ⟨c, d, e, z, w, hd, he, hz, hq⟩ := h
  cases d <;> cases e <;> simp only [d2] at hz <;> try contradiction
  · split at hz
    · rename_i h
      simp only [mulOk, Bool.or_eq_true, Bool.and_eq_true, decide_eq_true_eq] at h
      cases hz
      obtain rfl := hd.int
      obtain rfl := he.int
      exact op_mul pins s σ H _ _ v u Q I rx ry ⟨_, _, rfl, rfl, h, hq.here w (.int _)⟩
    · cases hz
  · split at hz
    · rename_i h
      simp only [Bool.and_eq_true, decide_eq_true_eq] at h
      cases hz
      obtain ⟨a, xs, rfl, h1, r1⟩ := hd.list
      obtain rfl := he.int
      have hm : xs.length * _ ≤ 1000 * 1000 := Nat.mul_le_mul (by rw [r1.length]; exact h.2) (Int.toNat_le.mpr h.1.2)
      exact op_rep pins s σ H _ _ v u Q I rx ry ⟨_, _, xs, rfl, rfl, h1, by have := h.1.1; omega, by have := h.1.2; omega, Nat.le_trans hm (by rw [sizeLine_eq]; decide), hq.lst w (r1.rep _)⟩
    · cases hz
  · split at hz
    · rename_i h
      simp only [Bool.and_eq_true, decide_eq_true_eq] at h
      cases hz
      obtain ⟨a, xs, rfl, h1, r1⟩ := hd.tup
      obtain rfl := he.int
      by_cases hn : xs = []
      · subst hn
        have := List.eq_nil_of_length_eq_zero (l := _) (r1.length.symm)
        subst this
        refine op_repE pins s σ H _ _ v u Q I rx ry ⟨_, _, rfl, rfl, h1.sq, h.1.1, h.1.2, ?_⟩
        have e : ∀ m : Nat, (List.replicate m ([] : List PyData)).flatten = [] := fun m => by simp
        rw [e] at hq
        exact hq.here w (.tup h1 r1)
      · exact op_repF pins s σ H _ _ v u Q I rx ry ⟨_, _, xs, rfl, rfl, h1.sq, hn, h.1.1, h.1.2, by rw [r1.length]; exact h.2, hq.tupF w (r1.rep _)⟩
    · cases hz
theorem op2_bin {p : P2} {op : Operator} (h : binOf p = some op) : OpR X (binaryOp op) (r2 p) := by
  cases p <;> simp only [binOf] at h <;> (try contradiction) <;> cases h
  · exact op2_add
  · exact op2_sub
  · exact op2_mul
  · exact op2_fdiv
  · exact op2_mod
  · exact op2_pow
  · exact op2_band
  · exact op2_bxor
end
end FC
end
section
set_option Elab.async false
set_option linter.all false
set_option maxRecDepth 100000
set_option maxHeartbeats 2000000
namespace PySem.SeqAt
open Sem (wp)
theorem dict_eq_declines_int (l : Addr) (es : Array DictEntry) (ep : Nat) (dd : Option Addr) (sl : Array (Option Value)) (b : Int) (u : Tok) :
    Meets (Builtin.«dict.__eq__» ⟨[.ref l, .int b u], []⟩) (fun _ R s => s.heap.get? l = some { cls := .type "dict", dict := dd, data := .dict es ep, slots := sl } ∧ R (.ok (.ret .notImplemented)) s) :=
  .of_wp fun prog w A R s h => by obtain ⟨hp, g, d, tk, os⟩ := s; obtain ⟨hl, h⟩ := h; have f1 := F.sub_int_dict; wp_walk using wpAny_loadPart' hl; exact ⟨_, rfl, h⟩
theorem int_eq_declines_dict (b : Int) (u : Tok) (l : Addr) (c : Value) (es : Array DictEntry) (ep : Nat) (dd : Option Addr) (sl : Array (Option Value)) :
    Meets (Builtin.«int.__eq__» ⟨[.int b u, .ref l], []⟩) (fun _ R s => s.heap.get? l = some { cls := c, dict := dd, data := .dict es ep, slots := sl } ∧ R (.ok (.ret .notImplemented)) s) :=
  .of_wp fun prog w A R s h => by obtain ⟨hp, g, d, tk, os⟩ := s; obtain ⟨hl, h⟩ := h; wp_walk using wpAny_loadPart' hl, wpAny_load hl; exact ⟨_, rfl, h⟩
theorem RcAt.dict_int {A : Around} {s : Shared} {l : Addr} {o : Obj} {es : Array DictEntry} {ep : Nat} (b : Int) (u : Tok) (ho : s.heap.get? l = some o) (hc : o.cls = .type "dict") (hd : o.data = .dict es ep) (hu : A.units < cLine) : RcAt A s (.ref l) (.int b u) false := fun prog w E Q h => by
  obtain ⟨cls, dd, data, sl⟩ := o
  simp only at hc hd
  subst hc hd
  exact rc_eq_decline_or (k := false) ⟨_, ho, rfl⟩ (typeIs_int s b u) (by decide) F.sub_int_dict F.slot_dict_eq F.slot_int_eq_refl
    (fun _ hq => call_meets F.slot_dict_eq ⟨_, ho, rfl⟩ F.entry_dict_eq (F.args_dict_eq_2 _ _) (dict_eq_declines_int l es ep dd sl b u) ⟨ho, hq⟩)
    (fun _ hq => call_meets F.slot_int_eq_refl (typeIs_int s b u) F.entry_int_eq (F.args_int_eq_2 _ _) (int_eq_declines_dict b u l (.type "dict") es ep dd sl) ⟨ho, hq⟩)
    (fun _ hq => wpAny_of_eq (rfl : isSame (.ref l) (.int b u) = pure false) hq) (.inr hu) h
end PySem.SeqAt
end
section
set_option Elab.async false
set_option linter.all false
set_option maxRecDepth 100000
set_option maxHeartbeats 2000000
namespace FC
open PySem L2 PyProof.Rows
variable [EA]
theorem keyEq_key (k j : Key) : keyEq (keyD k) (keyD j) = decide (k = j) := by
  cases k <;> cases j <;> simp [keyEq, keyD]
theorem isKey_key {d : PyData} (h : isKey d = true) : ∃ k, d = keyD k := by
  cases d <;> simp only [isKey] at h <;> try contradiction
  · exact ⟨.inl _, rfl⟩
  · exact ⟨.inr _, rfl⟩
section
variable {H : Hp} {fz : Addr → Prop}
theorem Ro.key {x : V} {k : Key} (h : Ro H fz x (keyD k)) : x = kV k := by
  cases k with
  | inl i => exact h.int
  | inr z => exact h.str
theorem RpK.find (k : Key) : ∀ {kvs : List (Key × V)} {es : List (PyData × PyData)}, RpK H fz kvs es → (valD (keyD k) es = none ∧ valV kvs k = none) ∨ ∃ d v, valD (keyD k) es = some d ∧ valV kvs k = some v ∧ Rp H fz v d
  | _, _, .nil => .inl ⟨rfl, rfl⟩
  | _, _, .cons (k := j) (v := v) (d := d) (ds := ds) r t => by
    by_cases e : j = k
    · subst e
      refine .inr ⟨d, v, ?_, valV_pos rfl, r⟩
      simp [valD, List.find?_cons, keyEq_key]
    · rw [valV_neg (p := (j, v)) e]
      have z : valD (keyD k) ((keyD j, d) :: ds) = valD (keyD k) ds := by
        simp only [valD, List.find?_cons, keyEq_key, decide_eq_false e]
      rw [z]
      exact RpK.find k t
theorem RpK.any (k : Key) : ∀ {kvs : List (Key × V)} {es : List (PyData × PyData)}, RpK H fz kvs es → (es.any fun p => keyEq p.1 (keyD k)) = kvs.any fun p => decide (p.1 = k)
  | _, _, .nil => rfl
  | _, _, .cons r t => by simp only [List.any_cons, keyEq_key, RpK.any k t]
theorem RpK.mapPut (k : Key) {v : V} {d : PyData} (q : Rp H fz v d) : ∀ {kvs : List (Key × V)} {es : List (PyData × PyData)}, RpK H fz kvs es →
    RpK H fz (kvs.map fun kv => if kv.1 = k then (kv.1, v) else kv) (es.map fun p => if keyEq p.1 (keyD k) = true then (p.1, d) else p)
  | _, _, .nil => .nil
  | _, _, .cons (k := j) r t => by
    simp only [List.map_cons, keyEq_key, decide_eq_true_eq]
    by_cases e : j = k
    · simp only [e, if_true]; exact .cons q (RpK.mapPut k q t)
    · simp only [e, if_false]; exact .cons r (RpK.mapPut k q t)
theorem RpK.snoc {k : Key} {v : V} {d : PyData} (q : Rp H fz v d) : ∀ {kvs : List (Key × V)} {es : List (PyData × PyData)}, RpK H fz kvs es → RpK H fz (kvs ++ [(k, v)]) (es ++ [(keyD k, d)])
  | _, _, .nil => .cons q .nil
  | _, _, .cons r t => .cons r (RpK.snoc q t)
theorem RpK.put {k : Key} {v : V} {d : PyData} (q : Rp H fz v d) {kvs : List (Key × V)} {es : List (PyData × PyData)} (r : RpK H fz kvs es) : RpK H fz (putK kvs k v) (putD (keyD k) d es) := by
  unfold putK putD
  rw [RpK.any k r]
  by_cases e : (kvs.any fun p => decide (p.1 = k)) = true
  · rw [if_pos e, if_pos e]; exact r.mapPut k q
  · rw [if_neg e, if_neg e]; exact r.snoc q
theorem RpK.merge : ∀ {kvs more : List (Key × V)} {es ms : List (PyData × PyData)}, RpK H fz kvs es → RpK H fz more ms → RpK H fz (mergeK kvs more) (mergeD es ms)
  | _, _, _, _, r, .nil => r
  | _, _, _, _, r, .cons (vs := vs) (ds := ds) q t => by
    show RpK H fz (mergeK (putK _ _ _) vs) (mergeD (putD _ _ _) ds)
    exact RpK.merge (r.put q) t
theorem RpK.keys : ∀ {kvs : List (Key × V)} {es : List (PyData × PyData)}, RpK H fz kvs es → RpA H fz (kvs.map fun kv => kV kv.1) (es.map (·.1))
  | _, _, .nil => .nil
  | _, _, .cons (k := k) r t => .cons (by cases k <;> constructor) (RpK.keys t)
end
def cmpOf : P2 → Option CmpOp
  | .eq => some .Eq
  | .ne => some .NotEq
  | .lt => some .Lt
  | .le => some .LtE
  | .gt => some .Gt
  | .ge => some .GtE
  | .isin => some .In
  | .nin => some .NotIn
  | _ => none
section
variable {X : Cx}
theorem op2_bool {f : Value → Value → Sem Value} {p : P2} {r : R2} (ho : OpR X f r)
    (hp : ∀ (c : Cfg) (H : Hp) (x y : V) (d e z : PyData) (Q : VK), WF H c → Ro H c.fz x d → Ro H c.fz y e → d2 p d e = some z → (∀ b, z = .bool b → Q (.bl b) H) → r x y H Q) (hb : ∀ d e z, d2 p d e = some z → ∃ b, z = .bool b) : OpR X f (r2 p) := by
  intro ps sh sl H x y v u Q I rx ry ⟨c, d, e, z, w, hd, he, hz, hq⟩
  refine ho ps sh sl H x y v u Q I rx ry (hp c H x y d e z Q w hd he hz fun b hb' => ?_)
  subst hb'
  exact hq.here w (.bl b)
theorem eqOk_both {a b : PyData} (h : eqOk a b = true) : SeqAt.shaped a = true ∧ SeqAt.shaped b = true := by simpa [eqOk] using h
theorem op2_eq (hu : X.A.units + 66 < cLine) : OpR X (compareOp .Eq) (r2 .eq) := by
  intro ps sh sl H x y v u Q I rx ry ⟨c, d, e, z, w, hd, he, hz, hq⟩
  simp only [d2] at hz
  split at hz
  · rename_i h
    cases hz
    simp only [Bool.or_eq_true] at h
    rcases h with (h | h) | h
    · obtain ⟨h1, h2⟩ := eqOk_both h
      exact op_eqD (by omega) ps sh sl H x y v u Q I rx ry ⟨d, e, hd.dp (SeqAt.canLay_of_shaped h1), he.dp (SeqAt.canLay_of_shaped h2), h1, h2, hq.here w (.bl _)⟩
    · match d, e, h with
      | .tuple ds, .tuple [], _ =>
        obtain ⟨a, ys, rfl, g1, r1⟩ := hd.tup
        obtain ⟨b, zs, rfl, g2, r2⟩ := he.tup
        cases rx
        cases ry
        cases r2
        obtain ⟨its, ra, pa, _⟩ := I.tuple g1.sq
        obtain ⟨its2, rb, pb, _⟩ := I.tuple g2.sq
        cases rb
        refine SeqAt.eq_tupleAt (e := fun _ => true) pa pb (by omega) (fun j h1 h2 => absurd h2 (by simp)) ?_
        have e1 : ((List.range (min its.toArray.size (([] : List Value).toArray).size)).all (fun _ => true) && its.toArray.size == (([] : List Value).toArray).size) = PyData.eqv (.tuple ds) (.tuple []) := by
          have hl : its.length = ds.length := by rw [← r1.length]; exact ra.length.symm
          cases ds with
          | nil =>
            have : its = [] := List.eq_nil_of_length_eq_zero hl
            subst this
            rfl
          | cons d ds =>
            simp only [List.length_cons] at hl
            simp [PyData.eqv, PyData.eqvAll]
            intro z
            rw [z] at hl
            simp at hl
        rw [e1]
        exact ⟨.bl _, H, I, rfl, hq.here w (.bl _)⟩
      | .list ds, .int k, _ =>
        obtain ⟨a, ys, rfl, g1, r1⟩ := hd.list
        cases he.int
        cases rx
        obtain ⟨t, rfl⟩ := ry
        obtain ⟨_, its, m, rv, e⟩ := I.hok _ _ g1
        exact SeqAt.RcAt.list_int k t ⟨_, e, rfl, m, rfl⟩ (by omega) _ _ _ _ ⟨.bl _, H, I, rfl, hq.here w (.bl _)⟩
      | .tuple ds, .int k, _ =>
        obtain ⟨a, ys, rfl, g1, r1⟩ := hd.tup
        cases he.int
        cases rx
        obtain ⟨t, rfl⟩ := ry
        obtain ⟨its, ra, pa, _⟩ := I.tuple g1.sq
        exact SeqAt.RcAt.tuple_int k t pa (by omega) _ _ _ _ ⟨.bl _, H, I, rfl, hq.here w (.bl _)⟩
      | .dict ds, .int k, _ =>
        obtain ⟨a, ys, rfl, g1, r1⟩ := hd.dct
        cases he.int
        cases rx
        obtain ⟨t, rfl⟩ := ry
        obtain ⟨_, hsm, vs, rk, o, en, ep, e, ex, ed, _⟩ := dk_of I.hok g1
        exact SeqAt.RcAt.dict_int k t e ex.1 ed (by omega) _ _ _ _ ⟨.bl _, H, I, rfl, hq.here w (.bl _)⟩
    · match d, e, h with
      | .str a, .str b, _ =>
        cases hd.str
        cases he.str
        have e1 : decide (V.str a = V.str b) = PyData.eqv (.str a) (.str b) := by
          simp only [PyData.eqv]
          by_cases z : a = b <;> simp [z]
        refine op_eq ps sh sl H _ _ v u Q I rx ry ⟨rfl, ?_⟩
        rw [e1]
        exact hq.here w (.bl _)
  · cases hz
theorem op2_ne (hu : X.A.units + 66 < cLine) : OpR X (compareOp .NotEq) (r2 .ne) := by
  intro ps sh sl H x y v u Q I rx ry ⟨c, d, e, z, w, hd, he, hz, hq⟩
  simp only [d2] at hz
  split at hz
  · rename_i h
    cases hz
    simp only [Bool.or_eq_true] at h
    rcases h with h | h
    · obtain ⟨h1, h2⟩ := eqOk_both h
      exact op_neD (by omega) ps sh sl H x y v u Q I rx ry ⟨d, e, hd.dp (SeqAt.canLay_of_shaped h1), he.dp (SeqAt.canLay_of_shaped h2), h1, h2, hq.here w (.bl _)⟩
    · match d, e, h with
      | .str a, .str b, _ =>
        cases hd.str
        cases he.str
        have e1 : (!decide (V.str a = V.str b)) = !PyData.eqv (.str a) (.str b) := by
          simp only [PyData.eqv]
          by_cases z : a = b <;> simp [z]
        refine op_ne ps sh sl H _ _ v u Q I rx ry ⟨rfl, ?_⟩
        first
          | (rw [e1]; exact hq.here w (.bl _))
          | (have e2 : decide (V.str a ≠ V.str b) = !PyData.eqv (.str a) (.str b) := by rw [← e1]; simp
             rw [e2]; exact hq.here w (.bl _))
  · cases hz
theorem op2_le : OpR X (compareOp .LtE) (r2 .le) := op2_bool op_le (fun c H x y d e z Q w hd he hz hq => by
  cases d <;> cases e <;> simp only [d2] at hz <;> try contradiction
  cases hz
  exact ⟨_, _, hd.int, he.int, hq _ rfl⟩) (fun d e z hz => by
  cases d <;> cases e <;> simp only [d2] at hz <;> try contradiction
  cases hz; exact ⟨_, rfl⟩)
theorem op2_ge : OpR X (compareOp .GtE) (r2 .ge) := op2_bool op_ge (fun c H x y d e z Q w hd he hz hq => by
  cases d <;> cases e <;> simp only [d2] at hz <;> try contradiction
  cases hz
  exact ⟨_, _, hd.int, he.int, hq _ rfl⟩) (fun d e z hz => by
  cases d <;> cases e <;> simp only [d2] at hz <;> try contradiction
  cases hz; exact ⟨_, rfl⟩)
theorem op2_lt (hu : X.A.units + 66 < cLine) : OpR X (compareOp .Lt) (r2 .lt) := op2_bool (OpR.or op_lt (op_ltT (by omega))) (fun c H x y d e z Q w hd he hz hq => by
  simp only [d2, Option.map_eq_some_iff] at hz
  obtain ⟨b, hb, rfl⟩ := hz
  cases d <;> cases e <;> simp only [ltD] at hb <;> try contradiction
  · cases hb
    exact .inl ⟨_, _, hd.int, he.int, hq _ rfl⟩
  · obtain ⟨a, xs, rfl, h1, r1⟩ := hd.tup
    obtain ⟨a2, ys, rfl, h2, r2⟩ := he.tup
    split at hb
    · rename_i ns ms e1 e2
      cases hb
      rw [r1.ints e1] at h1
      rw [r2.ints e2] at h2
      exact .inr ⟨a, a2, ns, ms, rfl, rfl, h1.sq, h2.sq, hq _ rfl⟩
    · cases hb) (fun d e z hz => by
  simp only [d2, Option.map_eq_some_iff] at hz
  obtain ⟨b, hb, rfl⟩ := hz
  exact ⟨b, rfl⟩)
theorem op_gtP (hu : X.A.units + 66 < cLine) : OpR X (compareOp .Gt) (fun x y H Q => ∃ p q a b c e, x = .ref p ∧ y = .ref q ∧ SqT X.K H p [V.int a, V.int b] ∧ SqT X.K H q [V.int c, V.int e] ∧ Q (.bl (if a = c then decide (e < b) else decide (c < a))) H) := by
  intro ps sh sl H x y v u Q I rx ry ⟨p, q, a, b, c, e, ex, ey, hp, hq, hQ⟩
  subst ex
  subst ey
  cases rx
  cases ry
  obtain ⟨i1, r1, t1, _⟩ := I.tuple hp
  obtain ⟨i2, r2, t2, _⟩ := I.tuple hq
  cases r1 with
  | cons p1 s1 => cases s1 with
    | cons p2 s2 => cases s2; cases r2 with
      | cons q1 u1 => cases u1 with
        | cons q2 u2 =>
          cases u2
          obtain ⟨k1, rfl⟩ := p1
          obtain ⟨k2, rfl⟩ := p2
          obtain ⟨k3, rfl⟩ := q1
          obtain ⟨k4, rfl⟩ := q2
          have R := Ob.RcOp.tuples_gt (A := X.A) (s := sh) (e := fun j => if j = 0 then a == c else b == e) (r := fun j => if j = 0 then decide (c < a) else decide (e < b)) t1 t2 (by omega) (fun j h1 h2 => by
            match j, h1 with
            | 0, _ => exact SeqAt.EqAt.int_int _ _ _ _
            | 1, _ => exact SeqAt.EqAt.int_int _ _ _ _) (fun j h1 h2 _ => by
            match j, h1 with
            | 0, _ => exact Ob.RcOp.gt_int _ _ _ _
            | 1, _ => exact Ob.RcOp.gt_int _ _ _ _)
          refine R X.prog X.w X.xe (EP X ps sl Q) ⟨.bl _, H, I, rfl, ?_⟩
          have z : Ob.lexAt (fun j => if j = 0 then a == c else b == e) (fun j => if j = 0 then decide (c < a) else decide (e < b)) (decide (2 > 2)) 0 (min 2 2) = (if a = c then decide (e < b) else decide (c < a)) := by
            simp only [Ob.lexAt, Nat.min_self, beq_iff_eq]
            by_cases h1 : a = c
            · simp only [h1, if_true]
              by_cases h2 : b = e
              · simp [h2]
              · simp [h2]
            · simp [h1]
          exact z ▸ hQ
theorem op2_gt (hu : X.A.units + 66 < cLine) : OpR X (compareOp .Gt) (r2 .gt) := op2_bool (OpR.or op_gt (op_gtP hu)) (fun c H x y d e z Q w hd he hz hq => by
  unfold d2 at hz
  split at hz <;> try contradiction
  · cases hz
    exact .inl ⟨_, _, hd.int, he.int, hq _ rfl⟩
  · cases hz
    obtain ⟨a, xs, rfl, h1, r1⟩ := hd.tup
    obtain ⟨a2, ys, rfl, h2, r2⟩ := he.tup
    rw [r1.ints rfl] at h1
    rw [r2.ints rfl] at h2
    exact .inr ⟨a, a2, _, _, _, _, rfl, rfl, h1.sq, h2.sq, hq _ rfl⟩) (fun d e z hz => by
  unfold d2 at hz
  split at hz <;> try contradiction
  · cases hz; exact ⟨_, rfl⟩
  · cases hz; exact ⟨_, rfl⟩)
theorem inD_some {x : PyData} {ys : List PyData} {b : Bool} (h : inD x ys = some b) : SeqAt.shaped x = true ∧ PyData.canLayAll0 ys = true ∧ b = ys.any fun y => PyData.eqv y x := by
  unfold inD at h
  split at h
  · rename_i q
    simp only [Bool.and_eq_true, List.all_eq_true] at q
    refine ⟨q.1, ?_, (Option.some.inj h).symm⟩
    have : ∀ l : List PyData, (∀ y ∈ l, SeqAt.shaped y = true) → PyData.canLayAll0 l = true := by
      intro l
      induction l with
      | nil => intro _; rfl
      | cons a l ih =>
        intro hl
        simp only [PyData.canLayAll0, Bool.and_eq_true]
        exact ⟨SeqAt.canLay_of_shaped (hl a (by simp)), ih fun y hy => hl y (by simp [hy])⟩
    exact this ys q.2
  · cases h
theorem room_in {A : Around} {d : PyData} {n : Nat} (h : SeqAt.shaped d = true) (hu : A.units + 66 < cLine) : A.units + 1 + min n d.depth < cLine := by
  have := SeqAt.depth_of_shaped h
  omega
theorem op_inA (hu : X.A.units + 66 < cLine) (neg : Bool) : OpR X (compareOp (if neg then .NotIn else .In)) (fun x y H Q => ∃ (c : Cfg) (d e : PyData) (b : Bool), WF H c ∧ Ro H c.fz x d ∧ Ro H c.fz y e ∧ memD d e = some b ∧ Q (.bl (if neg then !b else b)) H) := by
  intro ps sh sl H x y v u Q I rx ry ⟨c, d, e, b, w, hd, he, hm, hq⟩
  cases e with
  | list ys =>
    obtain ⟨h1, h2, rfl⟩ := inD_some hm
    obtain ⟨as, q1⟩ := Dp.reads I d x v (hd.dp (SeqAt.canLay_of_shaped h1)) rx
    obtain ⟨bs, q2⟩ := Dp.reads I (.list ys) y u (he.dp (by simpa [PyData.canLay0] using h2)) ry
    cases neg
    · exact SeqAt.in_list_reads q2 q1 h2 (SeqAt.canLay_of_shaped h1) (room_in h1 hu) ⟨.bl _, H, I, rfl, hq⟩
    · exact SeqAt.notIn_list_reads q2 q1 h2 (SeqAt.canLay_of_shaped h1) (room_in h1 hu) ⟨.bl _, H, I, rfl, hq⟩
  | tuple ys =>
    obtain ⟨h1, h2, rfl⟩ := inD_some hm
    obtain ⟨as, q1⟩ := Dp.reads I d x v (hd.dp (SeqAt.canLay_of_shaped h1)) rx
    obtain ⟨bs, q2⟩ := Dp.reads I (.tuple ys) y u (he.dp (by simpa [PyData.canLay0] using h2)) ry
    cases neg
    · exact SeqAt.in_tuple_reads q2 q1 h2 (SeqAt.canLay_of_shaped h1) (room_in h1 hu) ⟨.bl _, H, I, rfl, hq⟩
    · exact SeqAt.notIn_tuple_reads q2 q1 h2 (SeqAt.canLay_of_shaped h1) (room_in h1 hu) ⟨.bl _, H, I, rfl, hq⟩
  | dict es =>
    simp only [memD] at hm
    split at hm
    · rename_i hk
      obtain ⟨k, rfl⟩ := isKey_key hk
      obtain ⟨a, kvs, rfl, ha, r⟩ := he.dct
      have hx := hd.key
      subst hx
      cases ry
      have eb : b = (valV kvs k).isSome := by
        have e1 : keyIn (keyD k) es = b := Option.some.inj hm
        rw [← e1, ← valV_any]
        exact r.any k
      subst eb
      cases neg
      · exact d_in (by omega) I (DGet.k ha) rx fun s3 I3 => ⟨.bl _, H, I3, rfl, hq⟩
      · exact d_notIn (by omega) I (DGet.k ha) rx fun s3 I3 => ⟨.bl _, H, I3, rfl, hq⟩
    · cases hm
  | str z =>
    cases d with
    | str t =>
      obtain ⟨cs⟩ := t
      simp only [memD] at hm
      split at hm
      · rename_i ch hcs
        have e1 : cs = #[ch] := by rw [← Array.toList_inj, hcs]
        subst e1
        cases hm
        have hx := hd.str
        have hy := he.str
        subst hx
        subst hy
        cases neg
        · exact op_in_sign ps sh sl H _ _ v u Q I rx ry ⟨ch, z, rfl, rfl, hq⟩
        · exact op_notIn_sign ps sh sl H _ _ v u Q I rx ry ⟨ch, z, rfl, rfl, hq⟩
      · cases hm
    | _ => simp [memD] at hm
  | _ => simp [memD] at hm
theorem op2_in (hu : X.A.units + 66 < cLine) : OpR X (compareOp .In) (r2 .isin) := op2_bool (op_inA hu false) (fun c H x y d e z Q w hd he hz hq => by
  simp only [d2, Option.map_eq_some_iff] at hz
  obtain ⟨b, hb, rfl⟩ := hz
  exact ⟨c, d, e, b, w, hd, he, hb, hq _ rfl⟩) (fun d e z hz => by
  simp only [d2, Option.map_eq_some_iff] at hz
  obtain ⟨b, hb, rfl⟩ := hz
  exact ⟨b, rfl⟩)
theorem op2_nin (hu : X.A.units + 66 < cLine) : OpR X (compareOp .NotIn) (r2 .nin) := op2_bool (op_inA hu true) (fun c H x y d e z Q w hd he hz hq => by
  simp only [d2, Option.map_eq_some_iff] at hz
  obtain ⟨b, hb, rfl⟩ := hz
  exact ⟨c, d, e, b, w, hd, he, hb, hq _ rfl⟩) (fun d e z hz => by
  simp only [d2, Option.map_eq_some_iff] at hz
  obtain ⟨b, hb, rfl⟩ := hz
  exact ⟨_, rfl⟩)
theorem op2_cmp (hu : X.A.units + 66 < cLine) {p : P2} {op : CmpOp} (h : cmpOf p = some op) : OpR X (compareOp op) (r2 p) := by
  cases p <;> simp only [cmpOf] at h <;> (try contradiction) <;> cases h
  · exact op2_eq hu
  · exact op2_ne hu
  · exact op2_lt hu
  · exact op2_le
  · exact op2_gt hu
  · exact op2_ge
  · exact op2_in hu
  · exact op2_nin hu
theorem atI_rp {H : Hp} {fz : Addr → Prop} {xs : List V} {ds : List PyData} {i : Int} {z : PyData} (r : RpA H fz xs ds) (h : atI ds i = some z) : ∃ v, atI xs i = some v ∧ Rp H fz v z := by
  unfold atI at h ⊢
  rw [r.length]
  cases q : ixN ds.length i with
  | none => rw [q] at h; cases h
  | some j =>
    rw [q] at h
    exact RpA.get r h
theorem ix2 (hu : X.A.units + 66 < cLine) : IxR X (r2 .idx) := by
  intro va sl ps sh so H x y v u Q I rx ry ⟨c, d, e, z, w, hd, he, hz, hq⟩ hs
  simp only [d2] at hz
  cases d with
  | list ds =>
    cases e with
    | int i =>
      obtain ⟨a, xs, rfl, h1, r1⟩ := hd.list
      obtain ⟨t, e1, e2⟩ := atI_rp r1 hz
      exact ix_list va sl ps sh so H _ y v u Q I rx ry ⟨a, xs, i, t, rfl, he.int, SqL.of h1, e1, hq.here w e2⟩ hs
    | _ => simp [idxD] at hz
  | tuple ds =>
    cases e with
    | int i =>
      obtain ⟨a, xs, rfl, h1, r1⟩ := hd.tup
      obtain ⟨t, e1, e2⟩ := atI_rp r1 hz
      exact ix_tup va sl ps sh so H _ y v u Q I rx ry ⟨a, xs, i, t, rfl, he.int, h1.sq, e1, hq.here w e2⟩ hs
    | _ => simp [idxD] at hz
  | dict kvs =>
    simp only [idxD] at hz
    split at hz
    · rename_i hk
      obtain ⟨kk, rfl⟩ := isKey_key hk
      obtain ⟨a, ws, rfl, h1, rw1⟩ := hd.dct
      obtain rfl : v = Value.ref a := rx
      have hy : y = kV kk := Ro.key he
      rcases rw1.find kk with ⟨z1, z2⟩ | ⟨d3, v3, z1, z2, r3⟩
      · rw [z1] at hz; cases hz
      · rw [z1] at hz
        cases hz
        have g : DGet H a y (some v3) := .inl ⟨ws, kk, .inl h1, hy, z2.symm⟩
        exact tail_any (dict_typeIs I g) slot_dict_getitem.lookup (d_getItem (by omega) I g ry fun w' s3 I3 rw' => ⟨v3, H, I3, rw', hq.here w r3⟩) hs
    · cases hz
  | str s0 =>
    cases e with
    | int i =>
      simp only [idxD] at hz
      split at hz
      · rename_i hf
        simp only [Option.map_eq_some_iff] at hz
        obtain ⟨c0, hc0, rfl⟩ := hz
        exact ix_str va sl ps sh so H _ y v u Q I rx ry ⟨s0, i, c0, hd.str, he.int, fit_le hf, hc0, hq.here w (.str _)⟩ hs
      · cases hz
    | _ => simp [idxD] at hz
  | _ => simp [idxD] at hz
theorem cut_rp {H : Hp} {fz : Addr → Prop} {xs : List V} {ds : List PyData} (lo hi : Option Int) (r : RpA H fz xs ds) : RpA H fz (cutV xs lo hi) (cutD ds lo hi) := by
  unfold cutV cutD
  rw [r.length]
  exact (r.drop _).take _
def rSl (x : V) (lo hi : Option Int) (H : Hp) (Q : VK) : Prop := ∃ (c : Cfg) (d : PyData), WF H c ∧ Ro H c.fz x d ∧ ((∃ ds, d = .list ds ∧ Po c H (.list (cutD ds lo hi)) Q) ∨ ∃ ds, d = .tuple ds ∧ Po c H (.tuple (cutD ds lo hi)) Q)
theorem cut_all {xs : List PyData} {lo hi : Option Int} (h : HT.sIx xs.length 0 lo = 0 ∧ HT.sIx xs.length xs.length hi = xs.length) : cutD xs lo hi = xs := by
  unfold cutD
  rw [h.1, h.2]
  simp
theorem sl2 : SlR X rSl := by
  intro ps sh so H x v vl vu lo hi ad Q I rx k1 k2 k3 ⟨c, d, w, hd, h⟩
  rcases h with ⟨ds, rfl, hq⟩ | ⟨ds, rfl, hq⟩
  · obtain ⟨a, xs, rfl, h1, r1⟩ := hd.list
    exact sl_list ps sh so H _ v vl vu lo hi ad Q I rx k1 k2 k3 ⟨a, xs, rfl, SqL.of h1, hq.lst w (cut_rp lo hi r1)⟩
  · obtain ⟨a, xs, rfl, h1, r1⟩ := hd.tup
    refine sl_tupF ps sh so H _ v vl vu lo hi ad Q I rx k1 k2 k3 ⟨a, xs, rfl, h1.sq, fun e => ?_, fun _ => hq.tupF w (cut_rp lo hi r1)⟩
    rw [r1.length] at e
    rw [cut_all e] at hq
    exact hq.here w (.tup h1 r1)
end
end FC
end
section
set_option Elab.async false
set_option linter.all false
set_option maxRecDepth 100000
set_option maxHeartbeats 4000000
namespace FC
open PySem PySem.W PySem.Calls PyProof.Rows
section
variable {prog : Program} {w : World} {A : Around} {E : Value → Shared → Prop} {s : Shared}
theorem gatherT {l : Addr} {o : Obj} {n : Nat} {vs : List Value} {Q : List Value → Shared → Prop} (ho : s.heap.get? l = some o) (hc : o.cls = .type "tuple") (hd : o.data = .seq vs.toArray n) (hsz : vs.length ≤ sizeLine)
    (h : Q vs { s with heap := (s.heap.push (seqObj "list" #[] 0)).update s.heap.objs.size (Obj.mapSeq (· ++ vs.toArray)) }) : wpAny (model prog w) A (collect (.ref l)) Q E s := by
  have hp : (s.heap.push (seqObj "list" #[] 0)).get? l = some o := Heap.get?_push_of_some _ ho
  have hN : (s.heap.push (seqObj "list" #[] 0)).get? s.heap.objs.size = some (seqObj "list" #[] 0) := Heap.get?_push_size _ rfl
  unfold collect
  refine wpAny_bind (wpAny_runValue (codeAny_builtin entry_proto_collect' ?_))
  show wpAny _ _ (newList [] >>= fun q => again (.builtin "list.__iadd__" ⟨[q, .ref l], []⟩)) _ _ s
  refine wpAny_bind (wpAny_newList (wpAny_pure ⟨Code.quiet_builtin _ (by decide +kernel), codeAny_builtin entry_list_iadd' ?_⟩))
  show wpAny _ _ (Builtin.List.listExtendWith (.ref s.heap.objs.size) (.ref l) (.ref s.heap.objs.size)) _ _ { s with heap := s.heap.push (seqObj "list" #[] 0) }
  unfold Builtin.List.listExtendWith
  refine wpAny_bind (wpAny_typeOf (T := "tuple") ⟨o, hp, hc⟩ ?_)
  have ht : (Value.type "tuple" == Value.type "tuple") = true := by rfl
  rw [if_pos (by rw [ht]; simp)]
  refine wpAny_bind (listItems_at hp hd (wpAny_bind (listItems_at (xs := #[]) (n := 0) hN rfl ?_)))
  rw [if_neg (by simp)]
  refine wpAny_bind (listUpdate_at (xs := #[]) (n := 0) hN rfl (wpAny_pure ?_) (Nat.zero_le _) (by show (#[] ++ vs.toArray).size ≤ sizeLine + 1; simp only [Array.size_append, List.size_toArray, List.length_nil]; omega))
  refine wpAny_bind (wpAny_load (get?_update_seq hN _) ?_)
  show wpAny _ _ (pure ((#[] : Array Value) ++ vs.toArray).toList) Q E _
  rw [show ((#[] : Array Value) ++ vs.toArray).toList = vs by simp]
  exact wpAny_pure h
theorem sortT {l : Addr} {o : Obj} {n : Nat} {vs : List Value} {β : Type} {bs : List β} {enc : β → PyData} {R : Value → β → Prop} {Q : Value → Shared → Prop} (ho : s.heap.get? l = some o) (hc : o.cls = .type "tuple") (hd : o.data = .seq vs.toArray n)
    (e : EachIs R vs bs) (er : EachIs (fun v b => ∃ as, Reads s.heap v (enc b) as) vs bs) (hal : AllAlike (bs.map enc)) (hk : Sortable (bs.map enc)) (hL : bs.length ≤ sizeLine) (hu : ∀ b, b ∈ bs → A.units + 2 + (enc b).depth < cLine)
    (h : ∀ out, out.length = bs.length → EachIs R out (bs.mergeSort (dataLe false enc)) → Q (.ref (s.heap.objs.size + 1)) { s with heap := sortedAll s.heap vs (List.toArray out) }) : wpAny (model prog w) A (call (.builtin "sorted") [.ref l]) Q E s := by
  have hv : vs.length ≤ sizeLine := by rw [e.length]; exact hL
  have er' : EachIs (fun v b => ∃ as, Reads (sortingHeap (copyHeap s.heap vs) (s.heap.objs.size + 1) vs) v (enc b) as) vs bs := er.mono fun _ _ ⟨as, r⟩ => ⟨as, PyProof.Rows.Reads.keeps (fun _ _ => sorting_copy_old) r⟩
  have S := SortsAt.data (prog := prog) (w := w) (A := A.in1.in1) (s := { s with heap := sortingHeap (copyHeap s.heap vs) (s.heap.objs.size + 1) vs }) (each_map (R := fun v d => ∃ as, Reads (sortingHeap (copyHeap s.heap vs) (s.heap.objs.size + 1) vs) v d as) enc er') hal hk (bound_map hu)
  refine call_function_entry_kw kind_sorted plain_sorted entry_sorted (args_sorted1 _) ?_
  unfold Builtin.«sorted»
  refine wpAny_bind (m := checkCount "sorted" 1 1 _) (wpAny_pure (wpAny_bind (gatherT ho hc hd hv (wpAny_bind (wpAny_newList ?_ hv)))))
  have hz : ((s.heap.push (seqObj "list" #[] 0)).update s.heap.objs.size (Obj.mapSeq (· ++ vs.toArray))).objs.size = s.heap.objs.size + 1 := by rw [Heap.size_update, size_push']
  show wpAny _ _ _ _ _ { s with heap := copyHeap s.heap vs }
  rw [hz]
  refine wpAny_bind (wpAny_holding (wpAny_call_entry_kw slot_list_sort ⟨_, copyHeap_at s.heap vs, rfl⟩ entry_list_sort ?body (args_list_sort _)))
  case body =>
    refine list_sort_vals (s := { s with heap := copyHeap s.heap vs }) (copyHeap_at s.heap vs) S hv ⟨_, rfl, wpAny_pure ⟨_, rfl, ?_⟩⟩
    exact h _ (by rw [sortVals_length false rfl]; exact e.length) (sortVals_data false e er' hal)
end
end FC
end
section
set_option Elab.async false
set_option linter.all false
set_option maxRecDepth 100000
set_option maxHeartbeats 2000000
namespace FC
open PySem L2 PyProof.Rows
variable [EA]
def r1 (p : P1) (xs : List V) (H : Hp) (Q : VK) : Prop := ∃ (c : Cfg) (x : V) (d z : PyData), xs = [x] ∧ WF H c ∧ Ro H c.fz x d ∧ d1 p d = some z ∧ Po c H z Q
theorem vals_one {x : V} {us : List Value} (r : Vals [x] us) : ∃ u, us = [u] ∧ RelV x u := by
  cases r with
  | cons p q => cases q; exact ⟨_, rfl, p⟩
section
variable {X : Cx}
theorem c1_len : CallR X (.builtin "len") (r1 .len) := by
  intro ps sh sl H xs us Q I r ⟨c, x, d, z, e, w, hd, hz, hq⟩
  subst e
  cases d with
  | list ds =>
    obtain ⟨a, ys, rfl, h1, r1⟩ := hd.list
    cases hz
    rw [← r1.length] at hq
    exact call_len_seq ps sh sl H _ us Q I r ⟨a, ys, rfl, .inl (SqL.of h1), hq.here w (.int _)⟩
  | tuple ds =>
    obtain ⟨a, ys, rfl, h1, r1⟩ := hd.tup
    cases hz
    rw [← r1.length] at hq
    exact call_len_seq ps sh sl H _ us Q I r ⟨a, ys, rfl, .inr h1.sq, hq.here w (.int _)⟩
  | dict ds =>
    obtain ⟨a, ys, rfl, h1, r1⟩ := hd.dct
    cases hz
    rw [← r1.length] at hq
    exact call_lenD ps sh sl H _ us Q I r ⟨a, ys, rfl, h1, hq.here w (.int _)⟩
  | str z =>
    have := hd.str
    subst this
    simp only [d1] at hz
    split at hz
    · rename_i hf
      cases hz
      exact call_len_str ps sh sl H _ us Q I r ⟨z, rfl, fit_le hf, hq.here w (.int _)⟩
    · cases hz
  | _ => simp [d1] at hz
theorem c1_list (hc : X.calm = true) : CallR X (.type "list") (r1 .list) := by
  intro ps sh sl H xs us Q I r ⟨c, x, d, z, e, w, hd, hz, hq⟩
  subst e
  cases d with
  | list ds =>
    obtain ⟨a, ys, rfl, h1, r1⟩ := hd.list
    cases hz
    exact call_list_of ps sh sl H _ us Q I r ⟨a, ys, rfl, .inl (SqL.of h1), hq.lst w r1⟩
  | tuple ds =>
    obtain ⟨a, ys, rfl, h1, r1⟩ := hd.tup
    cases hz
    exact call_list_of ps sh sl H _ us Q I r ⟨a, ys, rfl, .inr h1.sq, hq.lst w r1⟩
  | dict ds =>
    obtain ⟨a, ys, rfl, h1, r1⟩ := hd.dct
    cases hz
    exact call_listD hc ps sh sl H _ us Q I r ⟨a, ys, rfl, .inl h1, hq.lst w r1.keys⟩
  | _ => simp [d1] at hz
theorem c1_tuple : CallR X (.type "tuple") (r1 .tuple) := by
  intro ps sh sl H xs us Q I r ⟨c, x, d, z, e, w, hd, hz, hq⟩
  subst e
  cases d with
  | list ds =>
    obtain ⟨a, ys, rfl, h1, r1⟩ := hd.list
    cases hz
    exact call_tupleF ps sh sl H _ us Q I r ⟨a, ys, rfl, .inl ⟨SqL.of h1, hq.tupF w r1⟩⟩
  | tuple ds =>
    obtain ⟨a, ys, rfl, h1, r1⟩ := hd.tup
    cases hz
    exact call_tupleF ps sh sl H _ us Q I r ⟨a, ys, rfl, .inr ⟨h1.sq, hq.here w (.tup h1 r1)⟩⟩
  | _ => simp [d1] at hz
theorem c1_all (hc : X.calm = true) : CallR X (.builtin "all") (r1 .all) := by
  intro ps sh sl H xs us Q I r ⟨c, x, d, z, e, w, hd, hz, hq⟩
  subst e
  cases d with
  | list ds =>
    obtain ⟨a, ys, rfl, h1, r1⟩ := hd.list
    simp only [d1, Option.map_eq_some_iff] at hz
    obtain ⟨bs, hb, rfl⟩ := hz
    rw [r1.bools hb] at h1
    exact cr_all hc ps sh sl H _ us Q I r ⟨a, bs, rfl, SqL.of h1, hq.here w (.bl _)⟩
  | _ => simp [d1] at hz
theorem c1_any (hc : X.calm = true) : CallR X (.builtin "any") (r1 .any) := by
  intro ps sh sl H xs us Q I r ⟨c, x, d, z, e, w, hd, hz, hq⟩
  subst e
  cases d with
  | list ds =>
    obtain ⟨a, ys, rfl, h1, r1⟩ := hd.list
    simp only [d1, Option.map_eq_some_iff] at hz
    obtain ⟨bs, hb, rfl⟩ := hz
    rw [r1.bools hb] at h1
    exact cr_any hc ps sh sl H _ us Q I r ⟨a, bs, rfl, SqL.of h1, hq.here w (.bl _)⟩
  | _ => simp [d1] at hz
theorem c1_sum (hc : X.calm = true) : CallR X (.builtin "sum") (r1 .sum) := by
  intro ps sh sl H xs us Q I r ⟨c, x, d, z, e, w, hd, hz, hq⟩
  subst e
  cases d with
  | list ds =>
    obtain ⟨a, ys, rfl, h1, r1⟩ := hd.list
    simp only [d1, Option.map_eq_some_iff] at hz
    obtain ⟨bs, hb, rfl⟩ := hz
    rw [r1.ints hb] at h1
    exact cr_sum hc ps sh sl H _ us Q I r ⟨a, bs, rfl, SqL.of h1, hq.here w (.int _)⟩
  | tuple ds =>
    obtain ⟨a, ys, rfl, h1, r1⟩ := hd.tup
    simp only [d1, Option.map_eq_some_iff] at hz
    obtain ⟨bs, hb, rfl⟩ := hz
    rw [r1.ints hb] at h1
    exact cr_sumT hc ps sh sl H _ us Q I r ⟨a, bs, rfl, h1.sq, hq.here w (.int _)⟩
  | _ => simp [d1] at hz
theorem minI_le (a : Int) (r : List Int) : minI a r ≤ a ∧ ∀ y ∈ r, minI a r ≤ y := by
  induction r generalizing a with
  | nil => exact ⟨Int.le_refl _, fun _ h => absurd h (by simp)⟩
  | cons b r ih =>
    unfold minI
    have h := ih (if b < a then b else a)
    refine ⟨Int.le_trans h.1 (by split <;> omega), fun y hy => ?_⟩
    rcases List.mem_cons.mp hy with rfl | hy
    · exact Int.le_trans h.1 (by split <;> omega)
    · exact h.2 y hy
theorem maxI_ge (a : Int) (r : List Int) : a ≤ maxI a r ∧ ∀ y ∈ r, y ≤ maxI a r := by
  induction r generalizing a with
  | nil => exact ⟨Int.le_refl _, fun _ h => absurd h (by simp)⟩
  | cons b r ih =>
    unfold maxI
    have h := ih (if a < b then b else a)
    refine ⟨Int.le_trans (by split <;> omega) h.1, fun y hy => ?_⟩
    rcases List.mem_cons.mp hy with rfl | hy
    · exact Int.le_trans (by split <;> omega) h.1
    · exact h.2 y hy
theorem minI_mem (a : Int) (r : List Int) : minI a r ∈ a :: r := by
  induction r generalizing a with
  | nil => simp [minI]
  | cons b r ih =>
    unfold minI
    have h := ih (if b < a then b else a)
    rcases List.mem_cons.mp h with h | h
    · rw [h]; split <;> simp
    · simp [h]
theorem maxI_mem (a : Int) (r : List Int) : maxI a r ∈ a :: r := by
  induction r generalizing a with
  | nil => simp [maxI]
  | cons b r ih =>
    unfold maxI
    have h := ih (if a < b then b else a)
    rcases List.mem_cons.mp h with h | h
    · rw [h]; split <;> simp
    · simp [h]
theorem c1_min (hc : X.calm = true) : CallR X (.builtin "min") (r1 .minl) := by
  intro ps sh sl H xs us Q I r ⟨c, x, d, z, e, w, hd, hz, hq⟩
  subst e
  cases d with
  | list ds =>
    obtain ⟨a, ys, rfl, h1, r1⟩ := hd.list
    simp only [d1] at hz
    split at hz
    · rename_i m rest hb
      cases hz
      rw [r1.ints hb] at h1
      refine cr_min hc ps sh sl H _ us Q I r ⟨a, _, rfl, SqL.of h1, by simp, fun k hk hle => ?_⟩
      have : k = minI m rest := by
        have h1 := hle _ (minI_mem m rest)
        have h2 := minI_le m rest
        rcases List.mem_cons.mp hk with rfl | hk
        · omega
        · have := h2.2 k hk; omega
      rw [this]
      exact hq.here w (.int _)
    · cases hz
  | tuple ds =>
    obtain ⟨a, ys, rfl, h1, r1⟩ := hd.tup
    simp only [d1] at hz
    split at hz
    · rename_i m rest hb
      cases hz
      rw [r1.ints hb] at h1
      refine cr_minT hc ps sh sl H _ us Q I r ⟨a, _, rfl, h1.sq, by simp, fun k hk hle => ?_⟩
      have : k = minI m rest := by
        have h1 := hle _ (minI_mem m rest)
        have h2 := minI_le m rest
        rcases List.mem_cons.mp hk with rfl | hk
        · omega
        · have := h2.2 k hk; omega
      rw [this]
      exact hq.here w (.int _)
    · cases hz
  | _ => simp [d1] at hz
theorem c1_max (hc : X.calm = true) : CallR X (.builtin "max") (r1 .maxl) := by
  intro ps sh sl H xs us Q I r ⟨c, x, d, z, e, w, hd, hz, hq⟩
  subst e
  cases d with
  | list ds =>
    obtain ⟨a, ys, rfl, h1, r1⟩ := hd.list
    simp only [d1] at hz
    split at hz
    · rename_i m rest hb
      cases hz
      rw [r1.ints hb] at h1
      refine cr_max hc ps sh sl H _ us Q I r ⟨a, _, rfl, SqL.of h1, by simp, fun k hk hle => ?_⟩
      have : k = maxI m rest := by
        have h1 := hle _ (maxI_mem m rest)
        have h2 := maxI_ge m rest
        rcases List.mem_cons.mp hk with rfl | hk
        · omega
        · have := h2.2 k hk; omega
      rw [this]
      exact hq.here w (.int _)
    · cases hz
  | tuple ds =>
    obtain ⟨a, ys, rfl, h1, r1⟩ := hd.tup
    simp only [d1] at hz
    split at hz
    · rename_i m rest hb
      cases hz
      rw [r1.ints hb] at h1
      refine cr_maxT hc ps sh sl H _ us Q I r ⟨a, _, rfl, h1.sq, by simp, fun k hk hle => ?_⟩
      have : k = maxI m rest := by
        have h1 := hle _ (maxI_mem m rest)
        have h2 := maxI_ge m rest
        rcases List.mem_cons.mp hk with rfl | hk
        · omega
        · have := h2.2 k hk; omega
      rw [this]
      exact hq.here w (.int _)
    · cases hz
  | _ => simp [d1] at hz
theorem c1_str : CallR X (.type "str") (r1 .str) := by
  intro ps sh sl H xs us Q I r ⟨c, x, d, z, e, w, hd, hz, hq⟩
  subst e
  cases d with
  | int i =>
    have := hd.int
    subst this
    simp only [d1] at hz
    split at hz
    · rename_i h
      cases hz
      exact call_str_int ps sh sl H _ us Q I r ⟨i, rfl, of_decide_eq_true h, hq.here w (.str _)⟩
    · cases hz
  | _ => simp [d1] at hz
mutual
theorem Rp.reads {ps : List (Addr × Obj)} {sl : L2.St} {H : Hp} {sh : Shared} {c : Cfg} (I : Inv X ps sl H sh) (w : WF H c) : ∀ {d : PyData} {v : V} {u : Value}, Rp H c.fz v d → RelV v u → ∃ as, Reads sh.heap u d as ∧ sysModules ∉ as
  | .none, _, _, .non, r => by cases r; exact ⟨[], .none, by simp⟩
  | .bool b, _, _, .bl _, r => by cases r; exact ⟨[], .bool b, by simp⟩
  | .int i, _, _, .int _, r => by obtain ⟨t, rfl⟩ := r; exact ⟨[], .int i t, by simp⟩
  | .str x, _, _, .str _, r => by obtain ⟨t, rfl⟩ := r; exact ⟨[], .str x t, by simp⟩
  | .list ds, _, _, .lst (a := a) ha h q, r => by
    cases r
    obtain ⟨_, its, n, rv, e⟩ := I.hok _ _ h
    obtain ⟨as, h1, h2⟩ := RpA.reads I w q rv
    refine ⟨a :: as, .list e rfl rfl (by simpa using h1), fun z => ?_⟩
    rcases List.mem_cons.mp z with z | z
    · obtain ⟨φ, es⟩ := w.sm
      rw [z, h] at es
      cases es
    · exact h2 z
  | .tuple ds, _, _, .tup (a := a) h q, r => by
    cases r
    obtain ⟨_, its, rv, o, e, ec, n, ed⟩ := h.rd.ok I.hok
    obtain ⟨as, h1, h2⟩ := RpA.reads I w q rv
    exact ⟨as, .tuple e ec ed (by simpa using h1), h2⟩
  | .dict es, _, _, .dct (a := a) ha h q, r => by
    cases r
    obtain ⟨_, hsm, vs, rk, o, en, ep, e, ex, ed, _, hp, _⟩ := dk_of I.hok h
    obtain ⟨as, bs, h1, h2, h3⟩ := RpK.reads I w q rk hp
    refine ⟨a :: as ++ bs, .dict e ex.1 ed h1 h2, fun z => ?_⟩
    rcases List.mem_append.mp z with z | z
    · rcases List.mem_cons.mp z with z | z
      · rw [← z] at hsm; simp at hsm
      · exact h3 (List.mem_append_left _ z)
    · exact h3 (List.mem_append_right _ z)
theorem RpA.reads {ps : List (Addr × Obj)} {sl : L2.St} {H : Hp} {sh : Shared} {c : Cfg} (I : Inv X ps sl H sh) (w : WF H c) : ∀ {ds : List PyData} {vs : List V} {us : List Value}, RpA H c.fz vs ds → Vals vs us → ∃ as, ReadsAll sh.heap us ds as ∧ sysModules ∉ as
  | _, _, _, .nil, r => by cases r; exact ⟨[], .nil, by simp⟩
  | _, _, _, .cons q t, r => by
    cases r with
    | cons r1 r2 =>
      obtain ⟨as, h1, h2⟩ := Rp.reads I w q r1
      obtain ⟨bs, h3, h4⟩ := RpA.reads I w t r2
      exact ⟨as ++ bs, .cons h1 h3, fun z => (List.mem_append.mp z).elim h2 h4⟩
theorem RpK.reads {ps : List (Addr × Obj)} {sl : L2.St} {H : Hp} {sh : Shared} {c : Cfg} (I : Inv X ps sl H sh) (w : WF H c) : ∀ {es : List (PyData × PyData)} {kvs : List (Key × V)} {vs : List (Key × Value)} {en : List DictEntry}, RpK H c.fz kvs es → KV kvs vs → Pairs (mixKind X.prog X.w) en vs →
    ∃ as bs, ReadsAll sh.heap (en.map (·.key)) (es.map (·.1)) as ∧ ReadsAll sh.heap (en.map (·.val)) (es.map (·.2)) bs ∧ sysModules ∉ as ++ bs
  | _, _, _, _, .nil, r, p => by
    cases r
    cases p
    exact ⟨[], [], .nil, .nil, by simp⟩
  | _, _, _, _, .cons (k := k) q t, r, p => by
    cases r with
    | cons r1 r2 =>
      cases p with
      | cons p1 p2 p3 =>
        rename_i kv vs' ent en'
        obtain ⟨as, bs, h1, h2, h3⟩ := RpK.reads I w t r2 p3
        obtain ⟨cs, h4, h5⟩ := Rp.reads I w q r1.2
        rw [← p2] at h4
        refine ⟨as, cs ++ bs, ?_, .cons h4 h2, fun z => ?_⟩
        · have hk : keyIs k ent.key = true := by
            have e1 : k = kv.1 := r1.1
            rw [e1]
            exact p1
          have hr : Reads sh.heap ent.key (keyD k) [] := by
            rcases keyIs_shape hk with ⟨i, t, rfl, e⟩ | ⟨i, t, rfl, e⟩
            · rw [e]; exact .int i t
            · rw [e]; exact .str i t
          exact ReadsAll.cons (as := []) hr h1
        · rcases List.mem_append.mp z with z | z
          · exact h3 (List.mem_append_left _ z)
          · rcases List.mem_append.mp z with z | z
            · exact h5 z
            · exact h3 (List.mem_append_right _ z)
end
theorem Ro.reads {ps : List (Addr × Obj)} {sl : L2.St} {H : Hp} {sh : Shared} {c : Cfg} (I : Inv X ps sl H sh) (w : WF H c) {d : PyData} {v : V} {u : Value} (h : Ro H c.fz v d) (r : RelV v u) : ∃ as, Reads sh.heap u d as ∧ sysModules ∉ as := by
  rcases h with h | ⟨a, rfl, h⟩
  · exact h.reads I w r
  · cases d with
    | list ds =>
      obtain ⟨xs, e, q⟩ := h
      have z : WF H (c.fr a) → True := fun _ => trivial
      cases r
      obtain ⟨_, its, n, rv, e'⟩ := I.hok _ _ e
      obtain ⟨as, h1, h2⟩ := RpA.reads I w q rv
      refine ⟨a :: as, .list e' rfl rfl (by simpa using h1), fun z => ?_⟩
      rcases List.mem_cons.mp z with z | z
      · obtain ⟨φ, es⟩ := w.sm
        rw [z, e] at es
        cases es
      · exact h2 z
    | dict es =>
      obtain ⟨kvs, h, q⟩ := h
      cases r
      obtain ⟨_, hsm, vs, rk, o, en, ep, e, ex, ed, _, hp, _⟩ := dk_of I.hok h
      obtain ⟨as, bs, h1, h2, h3⟩ := RpK.reads I w q rk hp
      refine ⟨a :: as ++ bs, .dict e ex.1 ed h1 h2, fun z => ?_⟩
      rcases List.mem_append.mp z with z | z
      · rcases List.mem_cons.mp z with z | z
        · rw [← z] at hsm; simp at hsm
        · exact h3 (List.mem_append_left _ z)
      · exact h3 (List.mem_append_right _ z)
    | _ => exact h.elim
theorem c1_repr (hg : X.A.guards = some []) (hu : X.A.units + 66 < cLine) : CallR X (.builtin "repr") (r1 .repr) := by
  intro ps sh sl H xs us Q I r ⟨c, x, d, z, e, w, hd, hz, hq⟩
  subst e
  obtain ⟨u, rfl, ru⟩ := vals_one r
  simp only [d1] at hz
  split at hz
  · rename_i h
    simp only [Bool.and_eq_true, decide_eq_true_eq] at h
    cases hz
    have hf := fit_le h.2
    have fin : ∀ (t : Tok) (h' : Heap) (tk : Nat), (∀ b o, sh.heap.get? b = some o → h'.get? b = some o) → EP X ps sl Q (.str d.shown t) { sh with heap := h', toks := tk } := fun t h' tk hk => ⟨.str _, H, I.kept hk, ⟨t, rfl⟩, hq.here w (.str _)⟩
    obtain ⟨as, hr, hs⟩ := hd.reads I w ru
    cases u with
    | ref a => exact repr_of_reads' hr h.1.1 (fun _ => hs) hg (by omega) (fun _ _ e => e) (fun h' t tk hk => fin t h' tk hk) hf
    | none =>
      cases hr
      exact PySem.P.repr_of_none (fin _ _ _ fun _ _ e => e)
    | bool b =>
      cases hr
      exact PySem.P.repr_of_bool (fin _ _ _ fun _ _ e => e)
    | int i t =>
      cases hr
      exact PySem.P.repr_of_int (by simpa [PyData.showable] using h.1.1) (fin _ _ _ fun _ _ e => e)
    | str x t =>
      cases hr
      exact PySem.P.repr_of_str (fin _ _ _ fun _ _ e => e) hf
    | _ => cases hr
  · cases hz
theorem RpA.zip {H : Hp} {fz : Addr → Prop} : ∀ {ys : List V} {ds : List PyData}, RpA H fz ys ds → (∀ p ∈ ys.zip ds, Rp H fz p.1 p.2) ∧ (ys.zip ds).map Prod.snd = ds
  | _, _, .nil => ⟨fun _ h => absurd h (by simp), rfl⟩
  | _, _, .cons r t => by
    obtain ⟨h1, h2⟩ := RpA.zip t
    refine ⟨fun p hp => ?_, by simp [h2]⟩
    rcases List.mem_cons.mp hp with rfl | hp
    · exact r
    · exact h1 p hp
theorem RpA.unzip {H : Hp} {fz : Addr → Prop} : ∀ {bs : List (V × PyData)}, (∀ p ∈ bs, Rp H fz p.1 p.2) → RpA H fz (bs.map Prod.fst) (bs.map Prod.snd)
  | [], _ => .nil
  | b :: bs, h => .cons (h b (by simp)) (RpA.unzip fun p hp => h p (by simp [hp]))
theorem each_vals : ∀ {ys : List V} {ds : List PyData} {us : List Value}, ys.length = ds.length → Vals ys us → PySem.W.EachIs (fun u (b : V × PyData) => RelV b.1 u) us (ys.zip ds)
  | [], [], _, _, .nil => .nil
  | y :: ys, d :: ds, _, h, .cons r t => .cons r (each_vals (by simpa using h) t)
theorem vals_each : ∀ {bs : List (V × PyData)} {us : List Value}, PySem.W.EachIs (fun u (b : V × PyData) => RelV b.1 u) us bs → Vals (bs.map Prod.fst) us
  | [], _, .nil => .nil
  | _ :: _, _, .cons r t => .cons r (vals_each t)
theorem each_reads {ps : List (Addr × Obj)} {sl : L2.St} {H : Hp} {sh : Shared} {c : Cfg} (I : Inv X ps sl H sh) (w : WF H c) : ∀ {ys : List V} {ds : List PyData} {us : List Value}, RpA H c.fz ys ds → Vals ys us →
    PySem.W.EachIs (fun u (b : V × PyData) => ∃ as, Reads sh.heap u b.2 as) us (ys.zip ds)
  | _, _, _, .nil, .nil => .nil
  | _, _, _, .cons q t, .cons r s => .cons (let ⟨as, h, _⟩ := Rp.reads I w q r; ⟨as, h⟩) (each_reads I w t s)
theorem sameA_eq {x y : PyData} (h : sameA x y = true) : x = y := by
  cases x <;> cases y <;> simp only [sameA] at h <;> first | contradiction | rw [of_decide_eq_true h]
theorem sameAs_eq : ∀ {xs ys : List PyData}, sameAs xs ys = true → xs = ys
  | [], [], _ => rfl
  | x :: xs, y :: ys, h => by
    simp only [sameAs, Bool.and_eq_true] at h
    rw [sameA_eq h.1, sameAs_eq h.2]
  | [], _ :: _, h => by simp [sameAs] at h
  | _ :: _, [], h => by simp [sameAs] at h
theorem sameF_eq {x y : PyData} (h : sameF x y = true) : x = y := by
  unfold sameF at h
  split at h
  · rw [sameAs_eq h]
  · exact sameA_eq h
theorem leD_tot : PySem.W.TotalLe leD := PySem.W.sortLe_total (PyProof.Rows.listOrd PyProof.Rows.itemOrd) false fun b => PySem.W.keyToks (id b)
theorem insD_perm (x : PyData) : ∀ l : List PyData, (insD x l).Perm (x :: l)
  | [] => .refl _
  | y :: r => by
    unfold insD
    split
    · exact .refl _
    · exact ((insD_perm x r).cons y).trans (.swap x y r)
theorem srt_perm : ∀ l : List PyData, (srt l).Perm l
  | [] => .refl _
  | x :: r => (insD_perm x (srt r)).trans ((srt_perm r).cons x)
theorem insD_pw (x : PyData) : ∀ l : List PyData, l.Pairwise (fun a b => leD a b = true) → (insD x l).Pairwise (fun a b => leD a b = true)
  | [], _ => List.pairwise_singleton _ _
  | y :: r, h => by
    unfold insD
    rw [List.pairwise_cons] at h
    split
    · rename_i hx
      rw [List.pairwise_cons, List.pairwise_cons]
      refine ⟨fun z hz => ?_, h.1, h.2⟩
      rcases List.mem_cons.mp hz with rfl | hz
      · exact hx
      · exact leD_tot.trans _ _ _ hx (h.1 z hz)
    · rename_i hx
      rw [List.pairwise_cons]
      refine ⟨fun z hz => ?_, insD_pw x r h.2⟩
      have hz := (insD_perm x r).mem_iff.mp hz
      rcases List.mem_cons.mp hz with rfl | hz
      · have := leD_tot.total z y
        rcases this with q | q
        · exact absurd q hx
        · exact q
      · exact h.1 z hz
theorem srt_pw : ∀ l : List PyData, (srt l).Pairwise (fun a b => leD a b = true)
  | [] => .nil
  | x :: r => insD_pw x _ (srt_pw r)
theorem srt_eq {l : List PyData} (h : antiOk l = true) : srt l = l.mergeSort (PySem.W.dataLe false id) := by
  have hp : (srt l).Perm (l.mergeSort leD) := (srt_perm l).trans (List.mergeSort_perm l leD).symm
  refine List.Perm.eq_of_pairwise (le := fun a b => leD a b = true) (fun a b ha hb h1 h2 => ?_) (srt_pw l) (PySem.W.sort_pairwise leD_tot l) hp
  simp only [antiOk, List.all_eq_true] at h
  have q := h a ((srt_perm l).mem_iff.mp ha) b (List.mem_mergeSort.mp hb)
  rw [h1, h2] at q
  exact sameF_eq (by simpa using q)
theorem c1_sorted (hu : X.A.units + 66 < cLine) : CallR X (.builtin "sorted") (r1 .sorted) := by
  intro ps sh sl H xs us Q I r ⟨c, x, d, z, e, w, hd, hz, hq⟩
  subst e
  obtain ⟨u, rfl, ru⟩ := vals_one r
  cases d with
  | list ds =>
    obtain ⟨a, ys, rfl, h1, q1⟩ := hd.list
    cases ru
    simp only [d1] at hz
    split at hz
    · rename_i h
      cases hz
      simp only [srtOk, Bool.and_eq_true, Bool.or_eq_true, allAl, List.all_eq_true, decide_eq_true_eq] at h
      obtain ⟨⟨⟨⟨hal, hk⟩, hdp⟩, hf⟩, hanti⟩ := h
      obtain ⟨hlen, its, n, rv, e'⟩ := I.hok _ _ h1
      obtain ⟨hz1, hz2⟩ := q1.zip
      have hL : (ys.zip ds).length = ys.length := by rw [List.length_zip, q1.length]; simp
      refine PySem.W.sorted_data (enc := Prod.snd) (bs := ys.zip ds) (R := fun u (b : V × PyData) => RelV b.1 u) (vs := its) ⟨_, e', rfl, n, rfl⟩ (each_vals q1.length rv) (each_reads I w q1 rv) ?_ ?_ (by rw [hL]; exact hlen) (fun b hb => ?_) fun out ho hR => ?_
      · rw [hz2]
        exact fun x hx y hy => hal x hx y hy
      · rw [hz2]
        rcases hk with hk | hk
        · exact .inl fun x hx => by
            have := hk x hx
            cases x <;> simp only [neTup] at this <;> try contradiction
            rename_i l
            cases l with
            | nil => simp at this
            | cons y r => exact ⟨y, r, rfl⟩
        · exact .inr fun x hx => by
            have := hk x hx
            cases x <;> simp only [plainD] at this <;> try contradiction
            · exact ⟨by simp, by simp⟩
            · exact ⟨by simp, by simp⟩
      · have hm : b.2 ∈ ds := by rw [← hz2]; exact List.mem_map.mpr ⟨b, hb, rfl⟩
        have := hdp _ hm
        omega
      · obtain ⟨n', hn⟩ := PyProof.Rows.sortedAll_at sh.heap its out.toArray
        have hnone : H (sh.heap.objs.size + 1) = none := I.hok.fresh (Nat.le_succ _)
        have hp : ∀ p ∈ (ys.zip ds).mergeSort (PySem.W.dataLe false Prod.snd), Rp H c.fz p.1 p.2 := fun p hp => hz1 p (List.mem_mergeSort.mp hp)
        have hs : ((ys.zip ds).mergeSort (PySem.W.dataLe false Prod.snd)).map Prod.snd = srt ds := by
          rw [srt_eq hanti]
          have t := PySem.W.sort_maps (r := PySem.W.dataLe false Prod.snd) (s := PySem.W.dataLe false id) Prod.snd (l := ys.zip ds) fun _ _ _ _ => rfl
          rw [hz2] at t
          exact t
        have hr := RpA.unzip hp
        rw [hs] at hr
        have hv := vals_each hR
        refine ⟨.ref _, upd H (sh.heap.objs.size + 1) (.lst (((ys.zip ds).mergeSort (PySem.W.dataLe false Prod.snd)).map Prod.fst)), I.laid (t' := sh.toks) (fun b o e => PyProof.Rows.sortedAll_old e) (Nat.le_succ _) ⟨?_, out, n', hv, hn⟩, rfl, hq.lst w hr _ hnone⟩
        rw [hv.length, ho, hL]
        exact hlen
    · cases hz
  | tuple ds =>
    obtain ⟨a, ys, rfl, h1, q1⟩ := hd.tup
    cases ru
    simp only [d1] at hz
    split at hz
    · rename_i h
      cases hz
      simp only [srtOk, Bool.and_eq_true, Bool.or_eq_true, allAl, List.all_eq_true, decide_eq_true_eq] at h
      obtain ⟨⟨⟨⟨hal, hk⟩, hdp⟩, hf⟩, hanti⟩ := h
      obtain ⟨its, rv, ⟨o', ho', hc', n, hd'⟩, hlen⟩ := I.tuple h1.sq
      obtain ⟨hz1, hz2⟩ := q1.zip
      have hL : (ys.zip ds).length = ys.length := by rw [List.length_zip, q1.length]; simp
      refine sortT (enc := Prod.snd) (bs := ys.zip ds) (R := fun u (b : V × PyData) => RelV b.1 u) (vs := its) ho' hc' hd' (each_vals q1.length rv) (each_reads I w q1 rv) ?_ ?_ (by rw [hL]; exact hlen) (fun b hb => ?_) fun out ho hR => ?_
      · rw [hz2]
        exact fun x hx y hy => hal x hx y hy
      · rw [hz2]
        rcases hk with hk | hk
        · exact .inl fun x hx => by
            have := hk x hx
            cases x <;> simp only [neTup] at this <;> try contradiction
            rename_i l
            cases l with
            | nil => simp at this
            | cons y r => exact ⟨y, r, rfl⟩
        · exact .inr fun x hx => by
            have := hk x hx
            cases x <;> simp only [plainD] at this <;> try contradiction
            · exact ⟨by simp, by simp⟩
            · exact ⟨by simp, by simp⟩
      · have hm : b.2 ∈ ds := by rw [← hz2]; exact List.mem_map.mpr ⟨b, hb, rfl⟩
        have := hdp _ hm
        omega
      · obtain ⟨n', hn⟩ := PyProof.Rows.sortedAll_at sh.heap its out.toArray
        have hnone : H (sh.heap.objs.size + 1) = none := I.hok.fresh (Nat.le_succ _)
        have hp : ∀ p ∈ (ys.zip ds).mergeSort (PySem.W.dataLe false Prod.snd), Rp H c.fz p.1 p.2 := fun p hp => hz1 p (List.mem_mergeSort.mp hp)
        have hs : ((ys.zip ds).mergeSort (PySem.W.dataLe false Prod.snd)).map Prod.snd = srt ds := by
          rw [srt_eq hanti]
          have t := PySem.W.sort_maps (r := PySem.W.dataLe false Prod.snd) (s := PySem.W.dataLe false id) Prod.snd (l := ys.zip ds) fun _ _ _ _ => rfl
          rw [hz2] at t
          exact t
        have hr := RpA.unzip hp
        rw [hs] at hr
        have hv := vals_each hR
        refine ⟨.ref _, upd H (sh.heap.objs.size + 1) (.lst (((ys.zip ds).mergeSort (PySem.W.dataLe false Prod.snd)).map Prod.fst)), I.laid (t' := sh.toks) (fun b o e => PyProof.Rows.sortedAll_old e) (Nat.le_succ _) ⟨?_, out, n', hv, hn⟩, rfl, hq.lst w hr _ hnone⟩
        rw [hv.length, ho, hL]
        exact hlen
    · cases hz
  | _ => simp [d1] at hz
def tyD : PyData → String
  | .none => "NoneType"
  | .bool _ => "bool"
  | .int _ => "int"
  | .str _ => "str"
  | .list _ => "list"
  | .tuple _ => "tuple"
  | .dict _ => "dict"
theorem Ro.ty {H : Hp} {fz : Addr → Prop} {x : V} {d : PyData} (h : Ro H fz x d) : TyX X.K H x (.type (tyD d)) := by
  cases d with
  | none => rw [h.non]; exact .base .non
  | bool b => rw [h.bool]; exact .base (.bl b)
  | int i => rw [h.int]; exact .base (.int i)
  | str x => rw [h.str]; exact .base (.str x)
  | list ds => obtain ⟨a, xs, rfl, e, _⟩ := h.list; exact .base (.lst e)
  | tuple ds => obtain ⟨a, xs, rfl, e, _⟩ := h.tup; exact e.elim (fun ⟨o, e, _⟩ => .fTuple e) fun ⟨_, e⟩ => .base (.tup e)
  | dict es => obtain ⟨a, xs, rfl, e, _⟩ := h.dct; exact .base (.dK e)
theorem c1_isi (T : String) : CallR X (.builtin "isinstance") (fun xs H Q => ∃ (c : Cfg) (x : V) (d : PyData) (b : Bool), xs = [x, .ty T] ∧ WF H c ∧ Ro H c.fz x d ∧ isiD T d = some b ∧ Q (.bl b) H) := by
  intro ps sh sl H xs us Q I r ⟨c, x, d, b, e, w, hd, hz, hq⟩
  subst e
  refine call_isi ps sh sl H _ us Q I r ⟨x, .ty T, _, .type T, b, rfl, .ty T, hd.ty, ?_, hq⟩
  unfold isiD at hz
  split at hz
  · rename_i e
    subst e
    cases hz
    cases d
    all_goals first | exact kit_ty (a := "NoneType") (r := false) (by decide +kernel) | exact kit_ty (a := "bool") (r := true) (by decide +kernel) | exact kit_ty (a := "int") (r := true) (by decide +kernel) | exact kit_ty (a := "str") (r := false) (by decide +kernel) | exact kit_ty (a := "list") (r := false) (by decide +kernel) | exact kit_ty (a := "tuple") (r := false) (by decide +kernel) | exact kit_ty (a := "dict") (r := false) (by decide +kernel)
  · split at hz
    · rename_i e
      subst e
      cases hz
      cases d
      all_goals first | exact kit_ty (a := "NoneType") (r := false) (by decide +kernel) | exact kit_ty (a := "bool") (r := true) (by decide +kernel) | exact kit_ty (a := "int") (r := false) (by decide +kernel) | exact kit_ty (a := "str") (r := false) (by decide +kernel) | exact kit_ty (a := "list") (r := false) (by decide +kernel) | exact kit_ty (a := "tuple") (r := false) (by decide +kernel) | exact kit_ty (a := "dict") (r := false) (by decide +kernel)
    · split at hz
      · rename_i e
        subst e
        cases hz
        cases d
        all_goals first | exact kit_ty (a := "NoneType") (r := false) (by decide +kernel) | exact kit_ty (a := "bool") (r := false) (by decide +kernel) | exact kit_ty (a := "int") (r := false) (by decide +kernel) | exact kit_ty (a := "str") (r := false) (by decide +kernel) | exact kit_ty (a := "list") (r := false) (by decide +kernel) | exact kit_ty (a := "tuple") (r := true) (by decide +kernel) | exact kit_ty (a := "dict") (r := false) (by decide +kernel)
      · split at hz
        · rename_i e
          subst e
          cases hz
          cases d
          all_goals first | exact kit_ty (a := "NoneType") (r := false) (by decide +kernel) | exact kit_ty (a := "bool") (r := false) (by decide +kernel) | exact kit_ty (a := "int") (r := false) (by decide +kernel) | exact kit_ty (a := "str") (r := true) (by decide +kernel) | exact kit_ty (a := "list") (r := false) (by decide +kernel) | exact kit_ty (a := "tuple") (r := false) (by decide +kernel) | exact kit_ty (a := "dict") (r := false) (by decide +kernel)
        · split at hz
          · rename_i e
            subst e
            cases hz
            cases d
            all_goals first | exact kit_ty (a := "NoneType") (r := false) (by decide +kernel) | exact kit_ty (a := "bool") (r := false) (by decide +kernel) | exact kit_ty (a := "int") (r := false) (by decide +kernel) | exact kit_ty (a := "str") (r := false) (by decide +kernel) | exact kit_ty (a := "list") (r := true) (by decide +kernel) | exact kit_ty (a := "tuple") (r := false) (by decide +kernel) | exact kit_ty (a := "dict") (r := false) (by decide +kernel)
          · cases hz
theorem c2_min (hc : X.calm = true) : CallR X (.builtin "min") (fun xs H Q => ∃ (c : Cfg) (x y : V) (d e z : PyData), xs = [x, y] ∧ WF H c ∧ Ro H c.fz x d ∧ Ro H c.fz y e ∧ d2 .min2 d e = some z ∧ Po c H z Q) := by
  intro ps sh sl H xs us Q I r ⟨c, x, y, d, e, z, ex, w, hd, he, hz, hq⟩
  subst ex
  cases d <;> cases e <;> simp only [d2] at hz <;> try contradiction
  cases hz
  obtain rfl := hd.int
  obtain rfl := he.int
  exact call_min2 hc ps sh sl H _ us Q I r ⟨_, _, rfl, hq.here w (.int _)⟩
theorem c2_max (hc : X.calm = true) : CallR X (.builtin "max") (fun xs H Q => ∃ (c : Cfg) (x y : V) (d e z : PyData), xs = [x, y] ∧ WF H c ∧ Ro H c.fz x d ∧ Ro H c.fz y e ∧ d2 .max2 d e = some z ∧ Po c H z Q) := by
  intro ps sh sl H xs us Q I r ⟨c, x, y, d, e, z, ex, w, hd, he, hz, hq⟩
  subst ex
  cases d <;> cases e <;> simp only [d2] at hz <;> try contradiction
  cases hz
  obtain rfl := hd.int
  obtain rfl := he.int
  exact call_max2 hc ps sh sl H _ us Q I r ⟨_, _, rfl, hq.here w (.int _)⟩
end
end FC
end
section
set_option Elab.async false
set_option linter.all false
set_option maxRecDepth 100000
set_option maxHeartbeats 2000000
namespace FC
open PySem L2 PyProof.Rows
variable [EA]
structure FnG (P : Program) (w : World) (K : PySem.W.Frag) (mg : Str → Option Value) (base : Heap) (k : Nat) (f : Addr) (fd : FuncData) (ps : List Str) (sp : Sp) : Prop where
  len : ∀ vs H Q E, sp vs H Q E → vs.length = ps.length
  run : ∀ (A : Around) (outer : List Env) (s : Shared) (H : Hp) (args : Args) (us : List Value) (vs : List V) (Q : VK) (E : XK), Room k A → A.guards = some [] → Env0 P w K mg base A outer s H → BindsTo s fd args (ps.zip us) → Vals vs us → sp vs H Q E →
    codeAny (model P w) A (.call (.ref f) args) (CR (L2.CX P w) outer P w H s Q E) s
theorem deeper_guards (A : Around) (env : Env) (h : A.guards = some []) : (A.deeper env).guards = some [] := by
  first | exact h | simpa [Around.deeper] using h
section
variable {X : Cx} {k : Nat} {f : Addr} {fd : FuncData} {ps : List Str} {sp : Sp} {dvs : List V} {ds : List Value} {E : XK} {x : Str} {p pos : Pos} {e : Expr} {es : List Expr} {t : TA}
theorem run_G {pins : List (Addr × Obj)} {σ : L2.St} {H : Hp} {s : Shared} {Q : VK} {us : List Value} {vs : List V} (F : FnG X.prog X.w X.K X.mg X.base k f fd ps sp) (hr : Room k X.A) (hg : X.A.guards = some []) (hb : Binds X.K fd ps ds) (hd : Vals dvs ds) (hx : Passes (L2.CX X.prog X.w) X E)
    (I : Inv X pins σ H s) (r : Vals vs us) (h : sp (vs ++ dvs) H Q E) : wpAny (model X.prog X.w) X.A (PySem.call (.ref f) us) (EP X pins σ Q) X.xe s := by
  have hv : Vals (vs ++ dvs) (us ++ ds) := r.append hd
  have hl : (us ++ ds).length = ps.length := hv.length ▸ F.len _ _ _ _ h
  refine wpAny_call (codeAny_mono (F.run X.A X.stack s H ⟨us, []⟩ _ _ Q E hr hg I.env0 (hb s us I.kIn hl) hv h) fun r s' hq => ?_)
  match r, hq with
  | .error e, hq => exact hx pins σ H s e s' I hq
  | .ok (.ret u), hq => exact I.after hq
theorem pe_callG (F : FnG X.prog X.w X.K X.mg X.base k f fd ps sp) (hr : Room k X.A) (hgu : X.A.guards = some []) (hg : Gl X x) (hm : X.mg x = some (.ref f)) (hk : PySem.W.keepIn X.K (.ref f) = true) (hb : Binds X.K fd ps ds) (hd : Vals dvs ds) (hx : Passes (L2.CX X.prog X.w) X E)
    (ha : PA X (e :: es) t) (hdb : (x == ("__debug__" : Str)) = false) (he : starEach (e :: es) X.env = (false, eval e X.env) :: starEach es X.env) (hpl : (backTo pos (starEach es X.env)).any (·.1) = false) :
    PE X (.Call (.Name x p) (e :: es) [] pos) (tCall sp dvs E t) :=
  ⟨fun pins s σ H Q I h => wpAny_Call_Name_kw (ld_glob I hg hm (PySem.W.callWith_K (h₀ := X.base) I.ok.mod.kin hk (thn (ha.run pos pins s σ H _ I h) fun us s1 ⟨vs, H1, I1, r, q⟩ =>
    ⟨I1.kIn, run_G F hr hgu hb hd hx I1 r q⟩) he hpl) hdb)⟩
theorem pe_callG0 (F : FnG X.prog X.w X.K X.mg X.base k f fd ps sp) (hr : Room k X.A) (hgu : X.A.guards = some []) (hg : Gl X x) (hm : X.mg x = some (.ref f)) (hk : PySem.W.keepIn X.K (.ref f) = true) (hb : Binds X.K fd ps ds) (hd : Vals dvs ds) (hx : Passes (L2.CX X.prog X.w) X E)
    (hdb : (x == ("__debug__" : Str)) = false) : PE X (.Call (.Name x p) [] [] pos) (tCall sp dvs E tNil) :=
  ⟨fun pins s σ H Q I h => wpAny_Call_Name_kw (ld_glob I hg hm (PySem.W.callWith_K0 I.kIn hk (run_G (us := []) F hr hgu hb hd hx I .nil h)) hdb)⟩
end
theorem fnG_of {P : Program} {w : World} {K : PySem.W.Frag} {mg : Str → Option Value} {base : Heap} {k : Nat} {f : Addr} {name qual : Str} {params : Arguments} {body : List Stmt} {scope : Scope} {dV kV doc pm cdv ct oc : Value} {an od : Option Addr}
    {osl : Array (Option Value)} {N ps : List Str} {sp : Sp} (lk : K.lookup f = some ⟨oc, od, .func (PySem.W.fnOf name qual params body scope dV kV doc pm an cdv ct), osl⟩) (hcd : PySem.W.codeIn K cdv qual = true) (S : FnScope N ps scope)
    (len : ∀ vs H Q E, sp vs H Q E → vs.length = ps.length)
    (hbody : ∀ (A : Around) (outer : List Env) (s : Shared) (H : Hp) (vs : List V) (Q : VK) (E : XK), Room k (A.deeper (envOfC qual scope s.heap.objs.size f cdv)) → A.guards = some [] → sp vs H Q E →
      ∃ t, PSs (cxOf (L2.CX P w) P w K mg base N qual scope f cdv A outer s H E) body t ∧ t { nx := fun _ H' => Q .non H', rt := Q } (start N vs) H) :
    FnG P w K mg base (k + 1) f (PySem.W.fnOf name qual params body scope dV kV doc pm an cdv ct) ps sp := by
  refine ⟨len, fun A outer s H args us vs Q E hr hg e0 hb r hsp => ?_⟩
  exact LamX.run_ofS lk hcd S hr e0 hb r (len _ _ _ _ hsp) fun hr' => hbody A outer s H vs Q E hr' hg hsp
end FC
end
section
set_option Elab.async false
set_option linter.all false
set_option maxRecDepth 100000
set_option maxHeartbeats 4000000
namespace FC
open PySem PySem.Spec PySem.Calls PyProof.Rows PySem.W L2
inductive LamP : Arguments → List Str → List Expr → Prop
  | zero : LamP ⟨[], [], none, [], [], none, []⟩ [] []
  | one (x : Str) (p p2 : Pos) (k : Nat) (i : Int) : LamP ⟨[], [⟨x, none, p⟩], none, [], [], none, [.Constant (.int i) k p2]⟩ [x] [.Constant (.int i) k p2]
def lamPB : Arguments → Bool
  | ⟨[], [], none, [], [], none, []⟩ => true
  | ⟨[], [⟨_, none, _⟩], none, [], [], none, [.Constant (.int _) _ _]⟩ => true
  | _ => false
theorem lamP_of {ps : Arguments} (h : lamPB ps = true) : ∃ xs es, LamP ps xs es := by
  unfold lamPB at h
  split at h
  · exact ⟨_, _, .zero⟩
  · exact ⟨_, _, .one _ _ _ _ _⟩
  · cases h
structure LamN (N : List Str) (sc scope : Scope) (xs : List Str) : Prop where
  kind : scope.kind = .function
  co : scope.isCoroutine = false
  gen : scope.isGenerator = false
  own : ∀ y ∈ scope.names, y.2 ≠ .cell ∧ (y.2 = .local → y.1 ∉ N)
  free : ∀ y ∈ scope.names, y.2 = .free → sc.names.lookup y.1 = some .cell ∨ sc.names.lookup y.1 = some .free
  par : ∀ x ∈ xs, scope.names.lookup x = some .local
def parN (ps : Arguments) : List Str := ps.args.map (·.arg)
def lamB (N : List Str) (sc scope : Scope) (ps : Arguments) : Bool :=
  lamPB ps && decide (scope.kind = .function) && !scope.isCoroutine && !scope.isGenerator && (scope.names.all fun y => !decide (y.2 = .cell) && (!decide (y.2 = .local) || !N.contains y.1) && (!decide (y.2 = .free) || decide (sc.names.lookup y.1 = some .cell) || decide (sc.names.lookup y.1 = some .free))) && (parN ps).all fun x => decide (scope.names.lookup x = some .local)
theorem LamP.par {ps : Arguments} {xs : List Str} {es : List Expr} (h : LamP ps xs es) : parN ps = xs := by cases h <;> rfl
theorem lamB_ok {N : List Str} {sc scope : Scope} {ps : Arguments} (h : lamB N sc scope ps = true) : ∃ xs es, LamP ps xs es ∧ LamN N sc scope xs := by
  unfold lamB at h
  simp only [Bool.and_eq_true, Bool.or_eq_true, Bool.not_eq_true', decide_eq_true_eq, decide_eq_false_iff_not, List.all_eq_true, List.contains_eq_mem] at h
  obtain ⟨⟨⟨⟨⟨h0, h1⟩, h2⟩, h3⟩, h4⟩, h5⟩ := h
  obtain ⟨xs, es, hp⟩ := lamP_of h0
  refine ⟨xs, es, hp, h1, h2, h3, fun y hy => ⟨(h4 y hy).1.1, fun e => ?_⟩, fun y hy e => ?_, fun x hx => h5 x (by rw [hp.par]; exact hx)⟩
  · rcases (h4 y hy).1.2 with z | z
    · exact absurd e z
    · exact z
  · rcases (h4 y hy).2 with (z | z) | z
    · exact absurd e z
    · exact .inl z
    · exact .inr z
section
variable {N : List Str} {X : Cx} {scope : Scope} {xs : List Str}
theorem LamN.has (L : LamN N X.env.scope scope xs) (ok : X.Ok) : ∀ y ∈ scope.names, y.2 = .free → ∃ c, X.env.cells.lookup y.1 = some c := fun y hy e =>
  (L.free y hy e).elim (fun k => ok.has _ (.inl k)) fun k => ok.has _ (.inr k)
end
def TblK (H H' : Hp) : Prop := ∀ b ps, H b = some (.tbl ps) → ∃ qs, H' b = some (.tbl qs)
abbrev lamFd (X : Cx) (params : Arguments) (body : Expr) (scope : Scope) (dV doc pm : Value) (c' : Addr) (ctv : Value) : FuncData :=
  kdv_fn "<lambda>" (X.env.qual ++ "<lambda>") params (.expr body) scope (cloFrom X.env.cells scope.names []) dV doc pm (.ref c') ctv
section
variable {X : Cx} {pins : List (Addr × Obj)} {σ : L2.St} {H : Hp} {s : Shared}
theorem not_stack (I : Inv X pins σ H s) {f : Addr} (hf : s.heap.objs.size ≤ f) : f ∉ frs X.stack := fun z => by
  rcases List.mem_cons.mp (I.stkSub _ z) with e | e
  · have := I.lt
    rw [← e] at this
    exact Nat.lt_irrefl _ (Nat.lt_of_lt_of_le this hf)
  · exact I.nofs hf e
theorem lam_tail {T : List (Addr × Str)} {c P : Addr} {params : Arguments} {body : Expr} {scope : Scope} {pos : Pos} {line : Nat} {dV : Value} {E : Value → Shared → Prop} {Q : Value → Shared → Prop} (I : Inv X pins σ H s) (TB : LamX.TabB X.base X.mg c P) (hcode : X.env.code = .ref c)
    (hm : (P, X.env.qual ++ "<lambda>") ∈ T) (hu : ∀ p ∈ T, p.1 = P → p.2 = X.env.qual ++ "<lambda>") (hT : LamX.Tabs T H) (hfree : ∀ y ∈ scope.names, y.2 = .free → ∃ c, X.env.cells.lookup y.1 = some c)
    (h : ∀ (f c' : Addr) (pm doc ctv : Value) (H1 : Hp) (s' : Shared), Inv X pins σ H1 s' → LamX.ExtN H H1 → TblK H H1 → LamX.Tabs T H1 → (∀ b, H1 b = none → H b = none) → (∀ b, b < s.heap.objs.size → H b = none → H1 b = none) → (∀ b o, b ≠ P → s.heap.get? b = some o → s'.heap.get? b = some o) →
      s'.heap.get? f = some { cls := .type "function", data := .func (lamFd X params body scope dV doc pm c' ctv) } → H1 f = none → f ∉ frs X.stack → H1 c' = some (LamX.CodeO c' (X.env.qual ++ "<lambda>")) → Q (.ref f) s') :
    wpAny (model X.prog X.w) X.A (makeTail "<lambda>" (X.env.qual ++ "<lambda>") params (.expr body) scope X.env dV .none none pos line) Q E s := by
  obtain ⟨ps, hP, ht, ha⟩ := hT _ hm
  have bP : s.heap.BuiltinsAt X.mg P := TB.bm.keeps I.bk
  have hP' : s.heap.get? P = some { cls := .none, data := .fields ps } := I.hok P _ hP
  cases hc : codeAmong pos ps.toList with
  | none =>
    refine kdv_makeTail (mg := X.mg) (c := c) (P := P) (ps := ps) (closure_ok hfree) I.ok.glob (I.mod.glob.keeps I.bk) hcode (TB.code.keeps I.bk) hP' ht hc TB.gP bP fun c' ctv doc h' tk hx hge hlt hrec htb => ?_
    obtain ⟨c2, oc, vs, t, e2, hoc, hd, hv⟩ := hrec
    cases e2
    have hsz : s.heap.objs.size ≤ h'.objs.size := Nat.le_trans hge (Nat.le_of_lt hlt)
    have nC : H c' = none := I.hok.fresh hge
    have nPc : P ≠ c' := ne_of_none hP nC
    have I1 := LamX.inv_table (t' := tk) (more := #[rawInt pos.line, rawInt pos.col, .ref c']) (h' := h'.push (kdv_obj "<lambda>" (X.env.qual ++ "<lambda>") params (.expr body) scope (cloFrom X.env.cells scope.names []) dV doc ((X.mg "__name__").getD .none) c' ctv)) I hP
      (fun b o hb e => Heap.get?_push_of_some _ (hx b o hb e)) (Heap.get?_push_of_some _ htb) hge ⟨oc, vs, t, Heap.get?_push_of_some _ hoc, hd, hv⟩
    have at_ : ∀ b, b ≠ P → b ≠ c' → upd (upd H P (.tbl (ps ++ #[rawInt pos.line, rawInt pos.col, .ref c']))) c' (LamX.CodeO c' (X.env.qual ++ "<lambda>")) b = H b := fun b h1 h2 => by rw [upd_ne h2, upd_ne h1]
    have atP : upd (upd H P (.tbl (ps ++ #[rawInt pos.line, rawInt pos.col, .ref c']))) c' (LamX.CodeO c' (X.env.qual ++ "<lambda>")) P = some (.tbl (ps ++ #[rawInt pos.line, rawInt pos.col, .ref c'])) := by rw [upd_ne nPc, upd_same]
    have hE : LamX.ExtN H (upd (upd H P (.tbl (ps ++ #[rawInt pos.line, rawInt pos.col, .ref c']))) c' (LamX.CodeO c' (X.env.qual ++ "<lambda>"))) := fun b o e n => by
      rw [at_ b (fun z => n ps (Option.some.inj (e.symm.trans (by rw [z]; exact hP)))) (ne_of_none e nC)]
      exact e
    have eL : (ps ++ #[rawInt pos.line, rawInt pos.col, .ref c']).toList = ps.toList ++ [rawInt pos.line, rawInt pos.col, .ref c'] := by simp
    refine h h'.objs.size c' ((X.mg "__name__").getD .none) doc ctv _ _ I1 hE (fun b qs e => ?_) (fun p hp => ?_) (fun b e => ?_) (fun b hb e => ?_) (fun b o hb e => Heap.get?_push_of_some _ (hx b o hb e)) (Heap.get?_push_size _ rfl) ?_ (not_stack I hsz) upd_same
    · by_cases hb : b = P
      · rw [hb]; exact ⟨_, atP⟩
      · exact ⟨qs, by rw [at_ b hb (ne_of_none e nC)]; exact e⟩
    · by_cases hb : p.1 = P
      · rw [hu p hp hb, hb]
        refine ⟨_, atP, by rw [eL]; exact PySem.TriplesOk_snoc _ _ _ _ ht, fun p' cv hcv => ?_⟩
        rw [eL] at hcv
        rcases LamX.among_app _ ht hcv with z | z
        · obtain ⟨c0, e1, e2⟩ := ha p' cv z
          exact ⟨c0, e1, hE _ _ e2 LamX.codeO_ne⟩
        · exact ⟨c', z, upd_same⟩
      · obtain ⟨qs, a1, a2, a3⟩ := hT p hp
        refine ⟨qs, by rw [at_ _ hb (ne_of_none a1 nC)]; exact a1, a2, fun p' cv hcv => ?_⟩
        obtain ⟨c0, e1, e2⟩ := a3 p' cv hcv
        exact ⟨c0, e1, hE _ _ e2 LamX.codeO_ne⟩
    · by_cases h1 : b = c'
      · rw [h1]; exact nC
      · by_cases h2 : b = P
        · rw [h2, atP] at e; cases e
        · rw [at_ b h2 h1] at e; exact e
    · rw [at_ b (fun z => by rw [z, hP] at e; cases e) (Nat.ne_of_lt (Nat.lt_of_lt_of_le hb hge))]; exact e
    · have n1 : h'.objs.size ≠ c' := Nat.ne_of_gt hlt
      have n2 : h'.objs.size ≠ P := Nat.ne_of_gt (Nat.lt_of_lt_of_le (Heap.lt_size hP') hsz)
      rw [at_ _ n2 n1]
      exact I.hok.fresh hsz
  | some cv =>
    obtain ⟨c', e, hco⟩ := ha pos cv hc
    subst e
    refine kdv_makeTailHit (mg := X.mg) (c := c) (P := P) (ps := ps) (closure_ok hfree) I.ok.glob (I.mod.glob.keeps I.bk) hcode (TB.code.keeps I.bk) hP' ht hc bP fun ctv doc h' tk hx hsz => ?_
    have I1 : Inv X pins σ H { s with heap := h'.push { cls := .type "function", data := .func (lamFd X params body scope dV doc ((X.mg "__name__").getD .none) c' ctv) }, toks := tk } := I.kept fun b o e => Heap.get?_push_of_some _ (hx b o e)
    exact h h'.objs.size c' ((X.mg "__name__").getD .none) doc ctv H _ I1 (LamX.ExtN.refl H) (fun b qs e => ⟨qs, e⟩) hT (fun b e => e) (fun b _ e => e) (fun b o _ e => Heap.get?_push_of_some _ (hx b o e)) (Heap.get?_push_size _ rfl) (I.hok.fresh hsz) (not_stack I hsz) hco
def DfAt (X : Cx) (H : Hp) (h : Heap) (dV : Value) (ds : List Value) : Prop := (dV = .none ∧ ds = []) ∨ ∃ T, dV = .ref T ∧ h.get? T = some (kdv_tup ds) ∧ H T = none ∧ T ∉ frs X.stack
theorem lam_made {T : List (Addr × Str)} {c P : Addr} {params : Arguments} {xs : List Str} {es : List Expr} {body : Expr} {scope : Scope} {pos : Pos} {E : Value → Shared → Prop} {Q : Value → Shared → Prop} (I : Inv X pins σ H s) (TB : LamX.TabB X.base X.mg c P) (hcode : X.env.code = .ref c) (hp : LamP params xs es)
    (hm : (P, X.env.qual ++ "<lambda>") ∈ T) (hu : ∀ p ∈ T, p.1 = P → p.2 = X.env.qual ++ "<lambda>") (hT : LamX.Tabs T H) (hfree : ∀ y ∈ scope.names, y.2 = .free → ∃ c, X.env.cells.lookup y.1 = some c)
    (h : ∀ (f c' : Addr) (dV pm doc ctv : Value) (ds : List Value) (H1 : Hp) (s' : Shared), Inv X pins σ H1 s' → LamX.ExtN H H1 → TblK H H1 → LamX.Tabs T H1 → (∀ b, H1 b = none → H b = none) → ds.length = xs.length → DfAt X H1 s'.heap dV ds →
      s'.heap.get? f = some { cls := .type "function", data := .func (lamFd X params body scope dV doc pm c' ctv) } → H1 f = none → f ∉ frs X.stack → H1 c' = some (LamX.CodeO c' (X.env.qual ++ "<lambda>")) → Q (.ref f) s') :
    wpAny (model X.prog X.w) X.A (eval (.Lambda params body scope pos) X.env) Q E s := by
  cases hp with
  | zero =>
    refine kla_eval rfl ?_
    rw [makeFunction_eq]
    simp only [List.zip_nil_right, List.filterMap_nil, List.isEmpty_nil, if_true, pure_bind]
    exact lam_tail I TB hcode hm hu hT hfree fun f c' pm doc ctv H1 s' I1 x1 x2 x3 x4 _ x5 => h f c' .none pm doc ctv [] H1 s' I1 x1 x2 x3 x4 rfl (.inl ⟨rfl, rfl⟩)
  | one x p p2 k i =>
    refine kdv_lam rfl rfl (kdv_all1 ?_)
    show wpAny _ _ (eval (.Constant (.int i) k p2) X.env) _ _ _
    refine wpAny_Constant_int (kdv_all0 ?_)
    have I0 : Inv X pins σ H { s with toks := s.toks + 1 } := I.tok _
    rw [makeFunction_eq]
    simp only [List.zip_nil_right, List.filterMap_nil, List.isEmpty_nil, if_true, pure_bind, List.isEmpty_cons, Bool.false_eq_true, if_false]
    refine wpAny_bind (wpAny_newTextTuple ?_)
    have hsz : s.heap.objs.size ≤ s.heap.objs.size := Nat.le_refl _
    have I2 : Inv X pins σ H { { s with toks := s.toks + 1 } with heap := s.heap.push (kdv_tup [.int i s.toks]) } := I0.kept fun b o e => Heap.get?_push_of_some _ e
    have hg : (s.heap.push (kdv_tup [.int i s.toks])).get? s.heap.objs.size = some (kdv_tup [.int i s.toks]) := Heap.get?_push_size _ rfl
    refine lam_tail I2 TB hcode hm hu hT hfree fun f c' pm doc ctv H1 s' I1 x1 x2 x3 x4 x6 x5 e1 e2 e3 e4 => ?_
    have hn : H s.heap.objs.size = none := I.hok.fresh hsz
    obtain ⟨ps, hP, _, _⟩ := hT _ hm
    have nP : s.heap.objs.size ≠ P := fun z => by rw [z, hP] at hn; cases hn
    have kp := x5 _ _ nP hg
    refine h f c' (.ref s.heap.objs.size) pm doc ctv [.int i s.toks] H1 s' I1 x1 x2 x3 x4 rfl (.inr ⟨_, rfl, kp, x6 _ (by rw [Heap.size_push]; exact Nat.lt_succ_self _) hn, not_stack I hsz⟩) e1 e2 e3 e4
end
end FC
end
section
set_option Elab.async false
set_option linter.all false
set_option maxRecDepth 100000
set_option maxHeartbeats 4000000
namespace FC
open PySem PySem.Spec PySem.Calls PyProof.Rows PySem.W L2
section
variable {X : Cx} {pins : List (Addr × Obj)} {σ : L2.St} {H HZ : Hp} {s s1 : Shared} {xs : List Str}
theorem lam_enter {A : Around} {outer : List Env} {E : XK} {scope : Scope} {f c' : Addr} {h₁ : Heap} {tk : Nat} {binds : List (Str × Value)} (I : Inv X pins σ H s) (L : LamN X.N X.env.scope scope xs) (e0 : Env0 X.prog X.w X.K X.mg X.base A outer s1 HZ) (hd : A.handled = none)
    (un : Un (frs X.stack) [] H HZ s.heap s1.heap) (hns : h₁.Ns s1.heap.objs.size fun y => binds.reverse.lookup y) (kp : ∀ b o, s1.heap.get? b = some o → h₁.get? b = some o) :
    Inv (LamX.lamCx X A outer s1 HZ E scope f c') [] σ HZ { s1 with heap := h₁, toks := tk } := by
  have hfree := L.has I.ok
  have cm : ∀ {y c}, (cloFrom X.env.cells scope.names []).lookup y = some c → X.env.cells.lookup y = some c := fun {y c} e => by
    rcases cloFrom_mem (PySem.mem_of_lookup e) with hm | ⟨h1, h2⟩
    · cases hm
    · obtain ⟨c1, hc⟩ := hfree _ h1 rfl
      have hc : X.env.cells.lookup y = some c1 := hc
      have e2 : c = c1 := by
        rw [h2, hc] <;> rfl
      rw [e2]
      exact hc
  have look : ∀ {y}, scope.names.lookup y = some .free → ∃ c, (cloFrom X.env.cells scope.names []).lookup y = some c := fun {y} hl => mem_lookup (cloFrom_has (cells := X.env.cells) (acc := []) (PySem.mem_of_lookup hl))
  have cellK : ∀ {c : Addr} {v : Option Value}, H c = none → s.heap.IsCell c v → h₁.IsCell c v := fun {c v} n ⟨o, ho, hd⟩ => by
    obtain ⟨sl, q⟩ := un.any ho n (by simp)
    exact ⟨_, kp _ _ q, hd⟩
  have noA : ∀ b : Addr, b ∉ (LamX.lamCx X A outer s1 HZ E scope f c').ex := fun b z => absurd (show b ∈ ([] : List Addr) from z) (by simp)
  refine ⟨⟨e0.mod, L.kind, rfl, rfl, Nat.le_refl _, fun y z c e1 e2 => I.ok.inj y z c (cm e1) (cm e2), fun y hy => ?_, fun y c z _ => ?_, fun _ => hd, Around.frames_deeper e0.frames, .inr ⟨rfl, rfl⟩, fun b z => absurd z (noA b), e0.bs, e0.bsz, fun b _ _ => noA b, fun b z => absurd z (noA b), e0.funs, e0.frf⟩,
    rfl, e0.bare, Un.kept kp, ⟨_, hns, fun i y v e1 e2 e3 => ?_⟩, fun y c e => ?_, e0.hok.fresh (Nat.le_refl _), fun y c e => ?_, fun q hq => absurd (show q ∈ ([] : List (Addr × Obj)) ++ [] from hq) (by simp), e0.hok.kept kp, I.len⟩
  · have hy : scope.names.lookup y = some .cell ∨ scope.names.lookup y = some .free := hy
    rcases hy with hy | hy
    · exact absurd rfl (L.own _ (PySem.mem_of_lookup hy)).1
    · exact look hy
  · have z : false = true := z
    cases z
  · have e3 : Vis scope y := e3
    rcases e3 with k | k | k
    · exact absurd (List.mem_of_getElem? e1) ((L.own _ (PySem.mem_of_lookup k)).2 rfl)
    · exact absurd rfl (L.own _ (PySem.mem_of_lookup k)).1
    · obtain ⟨m, hn, hl⟩ := I.loc
      have hvis : Vis X.env.scope y := (L.free _ (PySem.mem_of_lookup k) rfl).elim (fun k => .inr (.inl k)) fun k => .inr (.inr k)
      obtain ⟨w', r, q⟩ := hl i y v e1 e2 hvis
      obtain ⟨c2, h2⟩ := look k
      refine ⟨w', r, .inr ⟨.inr k, c2, h2, ?_⟩⟩
      have c1 := cm h2
      rcases q with ⟨k', _⟩ | ⟨_, c3, e', z⟩
      · have k' : X.env.scope.names.lookup y = some .local := k'
        rcases L.free _ (PySem.mem_of_lookup k) rfl with k2 | k2 <;> rw [show X.env.scope.names.lookup y = _ from k2] at k' <;> cases k'
      · rw [c1] at e'
        cases e'
        exact cellK (I.freeC y _ c1) z
  · obtain ⟨w', z⟩ := I.cell y c (cm e)
    exact ⟨w', cellK (I.freeC y c (cm e)) z⟩
  · obtain ⟨v, o, ho, hd⟩ := I.cell y c (cm e)
    exact un.free c o ho (I.freeC y c (cm e)) (by simp)
theorem lam_binds {params : Arguments} {es : List Expr} {body : Expr} {scope : Scope} {dV doc pm ctv : Value} {c' : Addr} {ds : List Value} {s2 : Shared} (hp : LamP params xs es) (hl : ds.length = xs.length) (hD : (dV = .none ∧ ds = []) ∨ ∃ T, dV = .ref T ∧ s2.heap.get? T = some (kdv_tup ds)) :
    BindsTo s2 (lamFd X params body scope dV doc pm c' ctv) ⟨[], []⟩ (xs.zip ds) := by
  cases hp with
  | zero =>
    match ds, hl with
    | [], _ =>
      rcases hD with ⟨rfl, _⟩ | ⟨T, rfl, hT⟩
      · exact BindsTo.of_eq rfl
      · exact BindsTo.of_defaults rfl hT rfl rfl rfl
  | one x p p2 k i =>
    match ds, hl with
    | [d], _ =>
      rcases hD with ⟨_, z⟩ | ⟨T, rfl, hT⟩
      · cases z
      · refine BindsTo.of_defaults rfl hT rfl rfl ?_
        simp [List.lookup, List.zip]
theorem act_lam {CXg : CXT} {Eg : XK} {Ng : List Str} {qg : Str} {sg : Scope} {g f c' : Addr} {cdg dV doc pm ctv : Value} {params : Arguments} {es : List Expr} {body : Expr} {scope : Scope} {k i : Nat} {a : Str} {pn : List (Addr × Obj)} {xe : Value → Shared → Prop} {W : WX} {E : XK} {tb : TE} {p1 p2 : Pos} {ds : List Value}
    (I : Inv X pins σ H s) (L : LamN X.N X.env.scope scope xs) (hf : s.heap.get? f = some { cls := .type "function", data := .func (lamFd X params body scope dV doc pm c' ctv) }) (hfn : H f = none) (hfr : f ∉ frs X.stack) (hp : LamP params xs es) (hl : ds.length = xs.length) (hD : DfAt X H s.heap dV ds)
    (tk : Takes ((cxOf CXg X.prog X.w X.K X.mg X.base Ng qg sg g cdg X.A X.stack s H Eg).tr pn xe) W) (hr : Room (k + 1) (X.A.deeper (envOfC qg sg s.heap.objs.size g cdg))) (hgu : X.A.guards = some [])
    (hbody : ∀ (A : Around) (outer : List Env) (s : Shared) (H : Hp), Room k (A.deeper (LamX.lamEnv X scope s.heap.objs.size f c')) → A.guards = some [] → PE (LamX.lamCx X A outer s H E scope f c') body tb)
    (hN : Ng[i]? = some a) (hv : Vis sg a) (hdb : (a == ("__debug__" : Str)) = false) (hcd : (a == ("__classdict__" : Str)) = false) :
    PE ((cxOf CXg X.prog X.w X.K X.mg X.base Ng qg sg g cdg X.A X.stack s H Eg).tr pn xe) (.Call (.Name a p1) [] [] p2)
      (fun σZ HZ Q => σZ[i]? = some (some (.ref f)) ∧ HZ c' = some (LamX.CodeO c' (X.env.qual ++ "<lambda>")) ∧ (∀ cls d H', E cls d H' → W cls d σZ H') ∧ tb σ HZ Q) := by
  refine ⟨fun pinsZ sZ σZ HZ Q IZ ⟨hs, hc, hW, ht⟩ => ?_⟩
  refine wpAny_Call_Name_kw (thn ((pe_var (pos := p1) (i := i) hN hv hdb hcd).run pinsZ sZ σZ HZ (fun v H1 => v = .ref f ∧ H1 = HZ) IZ ⟨.ref f, hs, rfl, rfl⟩) fun u s1 ⟨v, H1, I1, r1, ev, eH⟩ => ?_)
  subst ev
  rw [eH] at I1
  obtain rfl : u = Value.ref f := r1
  have nex : ∀ b : Addr, b ∉ ([] : List Addr) := fun b z => nomatch z
  have of1 : s1.heap.get? f = some { cls := .type "function", data := .func (lamFd X params body scope dV doc pm c' ctv) } := I1.base.keep f _ hf hfn hfr (nex f)
  have hD1 : (dV = .none ∧ ds = []) ∨ ∃ T, dV = .ref T ∧ s1.heap.get? T = some (kdv_tup ds) := by
    rcases hD with z | ⟨T, e1, e2, e3, e4⟩
    · exact .inl z
    · exact .inr ⟨T, e1, I1.base.keep T _ e2 e3 e4 (nex T)⟩
  refine PySem.W.callWith_F0 ⟨_, _, _, _, of1⟩ ?_
  have un : Un (frs X.stack) [] H HZ s.heap s1.heap := I1.base
  obtain ⟨⟨oc, vs, t, hoc, hdc, hvc⟩, _, _⟩ := I1.hok c' _ hc
  have rc : codeAny (model X.prog X.w) (X.A.deeper (envOfC qg sg s.heap.objs.size g cdg)) (.call (.ref f) ⟨[], []⟩) (CR (L2.CX X.prog X.w) (envOfC qg sg s.heap.objs.size g cdg :: X.stack) X.prog X.w HZ s1 Q E) s1 := by
    refine PySem.W.kla_callFunE hr.depth of1 rfl L.co L.gen rfl ⟨c', oc, vs, t, rfl, hoc, hdc, hvc⟩ (lam_binds hp hl hD1 _ _ _ _ ?_)
    refine wpAny_newFunctionEnv (fun y hy => (L.own y hy).1) (fun y hy => L.par y.1 (List.of_mem_zip hy).1) (fun h₁ hns hsb => ⟨I1.nolimit.fresh _ hsb, ?_⟩) L.kind
    show codeAny _ _ (.expr body (LamX.lamEnv X scope s1.heap.objs.size f c')) _ _
    have kp : ∀ b o, s1.heap.get? b = some o → h₁.get? b = some o := fun b o e => hsb.extBut b o (Nat.ne_of_lt (Heap.lt_size e)) (Heap.get?_push_of_some _ e)
    have J : Inv (LamX.lamCx X (X.A.deeper (envOfC qg sg s.heap.objs.size g cdg)) (envOfC qg sg s.heap.objs.size g cdg :: X.stack) s1 HZ E scope f c') [] σ HZ { s1 with heap := h₁, toks := s1.toks + (xs.zip ds).length } :=
      lam_enter I L I1.env0 hr.hd un hns kp
    refine PySem.W.kla_codeExpr (wpAny_mono ((hbody _ _ s1 HZ (hr.deeper _) (by first | exact hgu | simpa [Around.deeper] using hgu)).run [] _ _ HZ Q J ht) (fun v s' hq => ?_) fun e s' hq => hq)
    obtain ⟨w', H', J', rv, q⟩ := hq
    exact ⟨w', H', J'.os, J'.bare, J'.base, J'.hok, rv, q⟩
  refine wpAny_call (codeAny_mono rc fun r s' hq => ?_)
  match r, hq with
  | .error e, hq => exact tk e s' (XE.of_call I1 hW hq)
  | .ok (.ret u), hq => exact I1.after hq
end
end FC
end
section
set_option Elab.async false
set_option linter.all false
set_option maxRecDepth 100000
set_option maxHeartbeats 4000000
namespace FC
open PySem PySem.Spec PySem.Calls PyProof.Rows PySem.W
section
variable {prog : Program} {w : World} {A : Around} {E : Value → Shared → Prop} {s : Shared} {K : Frag} {x D : Addr} {ox : Obj} {od : Option Obj}
theorem findObj_cls {name : Str} {a g : Value} (hc : (clsIn K D).isSome = true) (ha : findIn K (.ref D) name = some (some a)) (hg : specialIn K a "__get__" = some (some g)) (ht : takesIn K a = some true) :
    findObj K D od name = some (.bind g a) := by
  obtain ⟨cd, hc⟩ := Option.isSome_iff_exists.mp hc
  unfold findObj
  rw [hc, Option.bind_some, ha, Option.bind_some]
  simp [hg, ht]
theorem cls_of_err {Q : Option Value → Shared → Prop} (C : L2.ExcC K D) (X : K.In s.heap) (I : PySem.W.InstAt s.heap x ox D od) (q : Q (some (.ref D)) { s with toks := s.toks + 1 }) :
    wpAny (model prog w) A (getAttr? (.ref x) "__class__") Q E s := by
  have fo : findObj K D od "__class__" = some (.bind (.builtin "getset_descriptor.__get__") (.builtin "object.__class__")) :=
    findObj_cls (by obtain ⟨cd, hc, _⟩ := any_some C.hd; rw [hc]; rfl) C.ha C.hn C.ht
  obtain ⟨hp, g, d, t, os⟩ := s
  have T0 := I.type (M := model prog w)
  have T1 := looks_findIn (M := model prog w) X C.hg
  have T2 := looks_findIn (M := model prog w) X C.hk
  have T3 := looks_find (M := model prog w) X I fo
  have sb : Looks (model prog w) hp (isInstance (.ref x) (.type "BaseException")) true := T0.andThen (looks_subIn X C.hs)
  have n0 : (Value.builtin "BaseException.__getattribute__" == Value.builtin "object.__getattribute__") = false := by decide +kernel
  have n1 : (onTheHeap (Value.ref D) && Value.builtin "BaseException.__getattribute__" == Value.builtin "object.__getattribute__") = false := by rw [n0]; rfl
  unfold getAttr? getAttrBy? getAttrBy
  refine wpAny_bind (wpAny_mkText (wpAny_bind (wpAny_attempt (wpAny_holding (wpAny_bind (T0.at (wpAny_bind (T1.at ?_))))))))
  show wpAny _ _ (if (onTheHeap (Value.ref D) && Value.builtin "BaseException.__getattribute__" == Value.builtin "object.__getattribute__") = true then _ else _) _ _ _
  rw [n1, if_neg Bool.false_ne_true]
  unfold getAttrByItsOwn hookBefore
  refine wpAny_bind ?_
  rw [if_pos (show onTheHeap (Value.ref D) = true from rfl)]
  refine T2.at (wpAny_bind (wpAny_attempt (wpAny_holding ?_)))
  unfold callGetattribute
  rw [show (false && onTheHeap (Value.builtin "BaseException.__getattribute__")) = false from rfl, if_neg Bool.false_ne_true]
  unfold boundAndCalled
  rw [PySem.F.excAttr_ValueError.ga.bind (.ref x)]
  refine wpAny_bind (wpAny_pure ?_)
  show wpAny _ _ (call (.builtin "BaseException.__getattribute__") [.ref x, .str "__class__" t]) _ _ _
  refine wpAny_call (codeAny_call_builtin PySem.F.excAttr_ValueError.ga.plain PySem.F.entry_bexc_ga ?_)
  refine @check_slot (model prog w) _ _ ⟨hp, g, d, t + 1, os⟩ "BaseException.__getattribute__" "BaseException" "__getattribute__" (.ref x) [.str "__class__" t] [] _ (by decide +kernel) (by decide +kernel) sb (PySem.F.args_bexc_ga (.ref x) (.str "__class__" t)) ?_
  unfold Builtin.«object.__getattribute__»
  refine wpAny_bind (wpAny_of_eq (a := ((Value.ref x : Value), [Value.str "__class__" t])) (by first | rfl | (simp only [slotArgs]; rfl)) ?_)
  refine wpAny_bind (wpAny_pure (wpAny_bind (T0.at (wpAny_bind (T3.at ?_)))))
  show wpAny _ _ (holding [Value.builtin "object.__class__"] (call (.builtin "getset_descriptor.__get__") [.builtin "object.__class__", .ref x, .ref D]) >>= ret) _ _ _
  refine wpAny_bind (wpAny_holding (wpAny_call (class_get (s := ⟨hp, g, d, t + 1, os⟩) (ox := ox) (od := od) X I C.hm ?_)))
  refine wpAny_pure ?_
  show wpAny _ _ (handedOut (.ref D)) _ _ _
  rw [handedOut_of (v := .ref D) rfl]
  first
    | exact wpAny_pure (wpAny_pure q)
    | exact wpAny_pure q
    | exact wpAny_pure (wpAny_bind (wpAny_pure (wpAny_pure q)))
theorem kit_err (C : L2.ExcC K D) : KitX K (.ref x) (.ref D) (fun h => PySem.W.InstAt h x ox D od) where
  ty := fun _ _ _ I => I.type
  it := fun _ _ X _ => by
    obtain ⟨cd, hc, _⟩ := any_some C.hd
    unfold clsIn at hc
    split at hc
    · rename_i ho
      intro A' Q' E' s' k q
      unfold isType loadHead
      exact wpAny_bind (wpAny_loadPart (k _ _ (X _ _ ho)) (wpAny_pure q))
    · cases hc
  ne := fun h tp dd its n sl X htp => by
    obtain ⟨cd, hc, _⟩ := any_some C.hd
    refine Bool.eq_false_iff.mpr fun q => ?_
    have e : D = tp := Value.ref.inj (beq_iff_eq.mp q)
    subst e
    unfold clsIn at hc
    split at hc
    · rename_i ho
      have z := (X _ _ ho).symm.trans htp
      cases z
    · cases hc
  ca := fun X I k => cls_of_err C X I k
end
open L2
section
variable {X : Cx} {pins : List (Addr × Obj)} {σ : L2.St} {H : Hp} {s : Shared} {a dx D : Addr} {fs : List (Str × V)}
theorem err_at (I : Inv X pins σ H s) (e1 : H a = some (ExX (.ref D) (some dx) a)) (e2 : H dx = some (.xd fs)) : ∃ (oe od : Obj) (mA : Str → Option Value), PySem.W.InstAt s.heap a oe D (some od) ∧ (∀ n, RelO (fs.lookup n) (mA n)) ∧ ∀ n, PySem.W.lookIn n od = some (mA n) := by
  obtain ⟨⟨oe, vs, g1, g2, g3⟩, _, _⟩ := I.hok a _ e1
  have hx : ObjOk X.prog X.w H s.heap dx (.xd fs) := I.hok dx _ e2
  obtain ⟨mA, hns, hr⟩ := hx
  obtain ⟨od, ho, hl⟩ := lookIn_ns hns
  exact ⟨oe, od, mA, ⟨g1, g2.1, by unfold PySem.W.notCls; rw [g3] <;> rfl, by rw [g2.2]; exact ho⟩, hr, hl⟩
end
def rIsX (K : PySem.W.Frag) : List V → Hp → VK → Prop := fun xs H Q => ∃ (a dx D c : Addr) (fs : List (Str × V)) (b : Bool), xs = [.ref a, .ref c] ∧ H a = some (ExX (.ref D) (some dx) a) ∧ H dx = some (.xd fs) ∧ ExcC K D ∧ PySem.W.kitOne K (.ref D) (.ref c) = some b ∧ Q (.bl b) H
def rIsXT (K : PySem.W.Frag) : List V → Hp → VK → Prop := fun xs H Q => ∃ (a dx D tp : Addr) (cs : List Addr) (fs : List (Str × V)) (b : Bool), xs = [.ref a, .ref tp] ∧ H tp = some (.tup (cs.map V.ref)) ∧ H a = some (ExX (.ref D) (some dx) a) ∧ H dx = some (.xd fs) ∧ ExcC K D ∧ PySem.W.kitAny K (.ref D) (cs.map Value.ref) = some b ∧ Q (.bl b) H
theorem vals_of_refs : ∀ {cs : List Addr} {us : List Value}, Vals (cs.map V.ref) us → us = cs.map Value.ref
  | [], _, .nil => rfl
  | c :: cs, _, .cons r t => by
    have e : _ = Value.ref c := r
    rw [List.map_cons, e, vals_of_refs t]
theorem call_isX {X : Cx} : CallR X (.builtin "isinstance") (rIsX X.K) := by
  intro pins s σ H xs us Q I r h
  obtain ⟨a, dx, D, c, fs, b, rfl, e1, e2, C, hk, q⟩ := h
  obtain ⟨u1, u2, rfl, r1, r2⟩ := vals2 r
  obtain rfl : u1 = Value.ref a := r1
  obtain rfl : u2 = Value.ref c := r2
  obtain ⟨oe, od, mA, J, _, _⟩ := err_at I e1 e2
  exact PySem.W.kia_one (kit_err C) I.kIn J hk (fun z => nomatch z) fun tk => ⟨.bl b, H, I.tok tk, rfl, q⟩
theorem call_isXT {X : Cx} : CallR X (.builtin "isinstance") (rIsXT X.K) := by
  intro pins s σ H xs us Q I r h
  obtain ⟨a, dx, D, tp, cs, fs, b, rfl, hT, e1, e2, C, hk, q⟩ := h
  obtain ⟨u1, u2, rfl, r1, r2⟩ := vals2 r
  obtain rfl : u1 = Value.ref a := r1
  obtain rfl : u2 = Value.ref tp := r2
  obtain ⟨oe, od, mA, J, _, _⟩ := err_at I e1 e2
  obtain ⟨_, its, rv, o, h1, h2, n, h3⟩ := (show ObjOk X.prog X.w H s.heap tp (.tup (cs.map V.ref)) from I.hok tp _ hT)
  have e3 := vals_of_refs rv
  subst e3
  obtain ⟨oc, od2, dt, sl⟩ := o
  simp only at h2 h3
  subst h2 h3
  exact PySem.W.kia_tup (kit_err C) I.kIn J h1 hk (fun z => nomatch z) fun tk => ⟨.bl b, H, I.tok tk, rfl, q⟩
theorem pe_errf {X : Cx} {e : Expr} {te : TE} {pos : Pos} {n : Str} (he : PE X e te) (hb : attributeBase e n X.env (eval e X.env) = eval e X.env) :
    PE X (.Attribute e n pos) (fun σ H Q => te σ H fun x H1 => ∃ (a dx D : Addr) (fs : List (Str × V)) (v : V), x = .ref a ∧ H1 a = some (ExX (.ref D) (some dx) a) ∧ H1 dx = some (.xd fs) ∧ ExcC X.K D ∧ PySem.W.findIn X.K (.ref D) n = some none ∧ fs.lookup n = some v ∧ Q v H1) := by
  refine ⟨fun pins s σ H Q I h => attr_of hb (thn (he.run pins s σ H _ I h) fun u s1 hh => ?_)⟩
  obtain ⟨x, H1, I1, rx, a, dx, D, fs, v, rfl, e1, e2, C, hno, hl, q⟩ := hh
  obtain rfl : u = Value.ref a := rx
  obtain ⟨oe, od, mA, J, hr, hlk⟩ := err_at I1 e1 e2
  obtain ⟨u, hu, ru⟩ := RelO.some_of (v := v) (o := mA n) (by rw [← hl]; exact hr n)
  exact HandSPX.exc_get I1.kIn J C.hg C.hk C.hs (PySem.W.findObj_own C.hd hno rfl (by rw [hlk, hu])) (handed_of ru) ⟨v, H1, I1.tok _, ru, q⟩
end FC
end
section
set_option Elab.async false
set_option linter.all false
namespace FC
open PySem L2
variable [EA]
structure Glob where
  fn : Str → Option Nat
  cst : Str → Option PyData
  exc : Str → Option Nat
  bs : Nat → List Bool
  sd : Option (Str × Nat)
  ax : Bool := true
  dct : Str → Option (List (Str × Int)) := fun _ => none
  mke : Bool := false
def Glob.nsd (G : Glob) : Glob := { G with sd := none }
def Glob.off (G : Glob) : Glob := { G with sd := none, mke := false }
def famN : Nat → Str
  | 0 => "FallError"
  | 1 => "ValueError"
  | 2 => "OverflowError"
  | _ => "RuntimeError"
def visB (sc : Scope) (x : Str) : Bool :=
  match sc.names.lookup x with
  | some .local => true
  | some .cell => true
  | some .free => true
  | _ => false
def locB (sc : Scope) (x : Str) : Bool :=
  match sc.names.lookup x with
  | some .local => true
  | some .cell => true
  | _ => false
def lclB (sc : Scope) (x : Str) : Bool :=
  match sc.names.lookup x with
  | some .local => true
  | _ => false
def glB (sc : Scope) (x : Str) : Bool :=
  (match sc.names.lookup x with
  | some .globalImplicit => true
  | _ => false) && !(x == ("__debug__" : Str)) && !(x == ("__name__" : Str))
def okN (x : Str) : Bool := !(x == ("__debug__" : Str)) && !(x == ("__classdict__" : Str))
def varB (N : List Str) (sc : Scope) (i : Nat) (x : Str) : Bool := decide (N[i]? = some x) && visB sc x && okN x
def cstB : PyData → Const → Bool
  | .none, .none => true
  | .bool a, .bool b => a == b
  | .int a, .int b => decide (a = b)
  | .str a, .str b => decide (a = b)
  | _, _ => false
def sameD : PyData → PyData → Bool
  | .none, .none => true
  | .bool a, .bool b => a == b
  | .int a, .int b => decide (a = b)
  | .str a, .str b => decide (a = b)
  | _, _ => false
def isBor : Ex → Bool
  | .bor _ => true
  | _ => false
def tst : Ex → Bool
  | .stuck => false
  | .mkx _ _ _ => false
  | .lstx _ => false
  | .catx _ _ => false
  | .ite _ _ _ => false
  | .nt a => tst a
  | .an a b => tst a && tst b
  | .orr a b => tst a && tst b
  | .bor _ => false
  | _ => true
def isStar : Ex → Bool
  | .star _ => true
  | _ => false
def stE : Expr → Bool
  | .Starred _ _ => true
  | _ => false
def blt1 : P1 → Option Str
  | .len => some "len"
  | .repr => some "repr"
  | .sorted => some "sorted"
  | .all => some "all"
  | .any => some "any"
  | .sum => some "sum"
  | .minl => some "min"
  | .maxl => some "max"
  | _ => none
def typ1 : P1 → Option Str
  | .list => some "list"
  | .tuple => some "tuple"
  | .str => some "str"
  | .dict => some "dict"
  | _ => none
def blt2 : P2 → Option Str
  | .min2 => some "min"
  | .max2 => some "max"
  | _ => none
def plainIxB : Expr → Bool
  | .Slice .. => false
  | .Tuple .. => false
  | _ => true
mutual
def tgtB (N : List Str) (sc : Scope) : Tgt → Expr → Bool
  | .one i, .Name x _ => decide (N[i]? = some x) && locB sc x
  | .tup ts, .Tuple es _ _ => tgtsB N sc ts es
  | _, _ => false
def tgtsB (N : List Str) (sc : Scope) : List Tgt → List Expr → Bool
  | [], [] => true
  | t :: ts, e :: es => tgtB N sc t e && !stE e && tgtsB N sc ts es
  | _, _ => false
end
def noSup : Expr → Bool
  | .Call (.Name _ _) [] [] _ => false
  | _ => true
def mNm : Mth → Str
  | .split => "split"
  | .part => "partition"
  | .join => "join"
  | .idxT => "index"
  | .idxL => "index"
def isBC : Expr → Option Bool
  | .Constant (.bool b) _ _ => some b
  | _ => none
def itT : It → Bool
  | .enum _ => true
  | .zip _ _ => true
  | _ => false
def isTupT : Tgt → Bool
  | .tup _ => true
  | _ => false
def blkB (N : List Str) (sc scope : Scope) (own : List Nat) : Bool :=
  (match scope.kind with | .function => true | _ => false) &&
  (scope.names.all fun y => decide (scope.names.lookup y.1 = some y.2)) &&
  (own.all fun i => (N[i]?).isSome) &&
  (scope.names.all fun y => !decide (y.2 = .free) || decide (sc.names.lookup y.1 = some .cell) || decide (sc.names.lookup y.1 = some .free)) &&
  (scope.names.all fun y => !(decide (y.2 = .local) || decide (y.2 = .cell)) || (own.any fun i => decide (N[i]? = some y.1)) || !(N.contains y.1))
mutual
def chk (G : Glob) (N : List Str) (sc : Scope) : Ex → Expr → Bool
  | .var i, e => (match e with
    | .Name x _ => varB N sc i x
    | _ => false)
  | .bor i, e => (match e with
    | .Name x _ => varB N sc i x
    | _ => false)
  | .cst d, e => (match e with
    | .Constant c _ _ => cstB d c
    | .Name x _ => glB sc x && (match G.cst x with
      | some d' => sameD d d'
      | none => false)
    | _ => false)
  | .op1 p a, e => (match e with
    | .UnaryOp .USub a' _ => decide (p = .neg) && chk G N sc a a'
    | .Call (.Name f _) [a'] [] _ => (glB sc f && (decide (blt1 p = some f) || decide (typ1 p = some f)) && chk G N sc a a' && !stE a') ||
      (match a' with
      | .Call (.Name u _) [b'] [] _ => decide (p = .srtset) && glB sc f && glB sc u && decide (f = "sorted") && decide (u = "set") && chk G N sc a b' && !stE b'
      | _ => false)
    | .Call (.Name f _) [a', .Name t _] [] _ => glB sc f && glB sc t && decide (f = "isinstance") && (match p with
      | .isi T => decide (t = Str.ofString T) && (decide (T = "int") || decide (T = "bool") || decide (T = "tuple") || decide (T = "str") || decide (T = "list"))
      | _ => false) && chk G N sc a a' && !stE a'
    | .Subscript a' (.Slice none none (some (.UnaryOp .USub (.Constant (.int i) _ _) _)) _) _ => decide (p = .rev) && decide (i = 1) && chk G N sc a a'
    | _ => false)
  | .op2 p a b, e => (match e with
    | .BinOp a' op b' _ => decide (binOf p = some op) && chk G N sc a a' && chk G N sc b b'
    | .Compare a' [op] [b'] _ => decide (cmpOf p = some op) && !behindInMarks op b' && chk G N sc a a' && chk G N sc b b'
    | .Subscript a' b' _ => decide (p = .idx) && plainIxB b' && chk G N sc a a' && chk G N sc b b'
    | .Call (.Name f _) [a', b'] [] _ => glB sc f && decide (blt2 p = some f) && chk G N sc a a' && chk G N sc b b' && !stE a' && !stE b'
    | _ => false)
  | .slc a lo hi, e => (match e with
    | .Subscript a' (.Slice lo' hi' none _) _ => chk G N sc a a' && chkO G N sc lo lo' && chkO G N sc hi hi'
    | _ => false)
  | .chain p q a b c, e => (match e with
    | .Compare a' [o1, o2] [b', c'] _ => decide (cmpOf p = some o1) && decide (cmpOf q = some o2) && !lastMarks [o1, o2] [b', c'] && chk G N sc a a' && chk G N sc b b' && chk G N sc c c'
    | _ => false)
  | .nt a, e => (match e with
    | .UnaryOp .Not a' _ => chk G N sc a a' && !isBor a
    | _ => false)
  | .an a b, e => (match e with
    | .BoolOp .And [a', b'] _ => chk G N sc a a' && chk G N sc b b'
    | .BoolOp .And (a' :: b' :: c' :: rest) pos => chk G N sc a a' && chk G N sc b (.BoolOp .And (b' :: c' :: rest) pos)
    | _ => false)
  | .orr a b, e => (match e with
    | .BoolOp .Or [a', b'] _ => chk G N sc a a' && chk G N sc b b'
    | .BoolOp .Or (a' :: b' :: c' :: rest) pos => chk G N sc a a' && chk G N sc b (.BoolOp .Or (b' :: c' :: rest) pos)
    | _ => false)
  | .ite c a b, e => (match e with
    | .IfExp c' a' b' _ => tst c && chk G N sc c c' && chk G N sc a a' && chk G N sc b b' && !isBor a && !isBor b
    | _ => false)
  | .isN a, e => (match e with
    | .Compare a' [.Is] [.Constant .none _ _] _ => chk G N sc a a'
    | _ => false)
  | .nN a, e => (match e with
    | .Compare a' [.IsNot] [.Constant .none _ _] _ => chk G N sc a a'
    | _ => false)
  | .tup as, e => (match e with
    | .Tuple es _ _ => chks G N sc as es
    | _ => false)
  | .lst as, e => (match e with
    | .List es _ => chks G N sc as es
    | _ => false)
  | .star _, _ => false
  | .dic0, e => (match e with
    | .Dict [] [] _ => true
    | _ => false)
  | .dic1 k v, e => (match e with
    | .Dict [some k'] [v'] _ => chk G N sc k k' && chk G N sc v v' && !isBor k && !isBor v
    | _ => false)
  | .comp t it c el, e => (match e with
    | .ListComp el' [⟨tg, it', ifs, 0⟩] scope _ => tgtB N (relS scope sc) t tg && (tgtIx t).all (fun i => match N[i]? with | some x => lclB (relS scope sc) x | none => false) && chkI G N sc it it' && chkC G.off N (relS scope sc) c ifs && chk G.off N (relS scope sc) el el' && !isBor el && blkB N sc scope (tgtIx t) && (!itT it || isTupT t)
    | _ => false)
  | .call f as, e => (match e with
    | .Call (.Name x _) es [] _ => glB sc x && decide (G.fn x = some f) && chkA G N sc (G.bs f) as es
    | _ => false)
  | .said f a, e => (match e with
    | .Call (.Name x _) [.Lambda ps a' scope _] [] _ => G.ax && (glB sc x && decide (G.sd = some (x, f)) && lamB N sc scope ps && chk G.off N scope a a' && !isBor a)
    | _ => false)
  | .isx a cs, e => (match e with
    | .Call (.Name f _) [a', .Name t _] [] _ => G.ax && (glB sc f && glB sc t && decide (f = "isinstance") && (match cs with
      | [c] => decide (G.exc t = some c)
      | _ => false) && chk G N sc a a' && !stE a' && !isBor a)
    | .Call (.Name f _) [a', .Tuple [.Name t _, .Name u _] _ _] [] _ => G.ax && (glB sc f && glB sc t && glB sc u && decide (f = "isinstance") && (match cs with
      | [c, d] => decide (G.exc t = some c) && decide (G.exc u = some d)
      | _ => false) && chk G N sc a a' && !stE a' && !isBor a)
    | _ => false)
  | .xget a k, e => (match e with
    | .Attribute (.Name x p) k' _ => G.ax && (decide (k = k') && chk G N sc a (.Name x p) && !isBor a)
    | .Attribute (.Call (.Name x p1) es kws p) k' _ => G.ax && (decide (k = k') && chk G N sc a (.Call (.Name x p1) es kws p) && !isBor a && (!es.isEmpty || !kws.isEmpty))
    | _ => false)
  | .oget a k, e => (match e with
    | .Subscript a' (.Constant (.str k') _ _) _ => chk G N sc a a' && decide (k = k') && !isBor a
    | _ => false)
  | .begin a, e => (match e with
    | .Dict [some (.Constant (.str k1) _ _), some (.Constant (.str k2) _ _), some (.Constant (.str k3) _ _), some (.Constant (.str k4) _ _)] [.BinOp a' .Add (.List [.Constant (.int z1) _ _] _) _, .Constant (.int z2) _ _, .Constant (.int z3) _ _, .Constant (.int z4) _ _] _ =>
      decide (k1 = "cells") && decide (k2 = "at") && decide (k3 = "left") && decide (k4 = "used") && decide (z1 = 0) && decide (z2 = 0) && decide (z3 = 0) && decide (z4 = 0) && chk G N sc a a' && !isBor a
    | _ => false)
  | .tnew, e => (match e with
    | .Dict [] [] _ => true
    | _ => false)
  | .tin ng i j, e => (match e with
    | .Compare (.Name x _) [op] [.Name y py] _ => decide (op = (if ng then .NotIn else .In)) && varB N sc i x && varB N sc j y && !behindInMarks op (.Name y py)
    | _ => false)
  | .tget j i, e => (match e with
    | .Subscript (.Name y _) (.Name x _) _ => varB N sc i x && varB N sc j y
    | _ => false)
  | .comp2 t it t1 it1 c el, e => (match e with
    | .ListComp el' [⟨tg, it', [], 0⟩, ⟨tg1, it1', ifs, 0⟩] scope _ => tgtB N (relS scope sc) t tg && tgtB N (relS scope sc) t1 tg1 && (tgtIx t ++ tgtIx t1).all (fun i => match N[i]? with | some x => lclB (relS scope sc) x | none => false) && chkI G N sc it it' && chkI G.off N (relS scope sc) it1 it1' && chkC G.off N (relS scope sc) c ifs && chk G.off N (relS scope sc) el el' && !isBor el && blkB N sc scope (tgtIx t ++ tgtIx t1) && (!itT it || isTupT t) && (!itT it1 || isTupT t1)
    | _ => false)
  | .dic2 k v k2 v2, e => (match e with
    | .Dict [some k', some k2'] [v', v2'] _ => chk G N sc k k' && chk G N sc v v' && chk G N sc k2 k2' && chk G N sc v2 v2' && !isBor k && !isBor v && !isBor k2 && !isBor v2
    | _ => false)
  | .get1 a k, e => (match e with
    | .Call (.Attribute (.Name x p) m ap) [k'] [] cp => decide (m = "get") && (ap.endLine == cp.line) && chk G N sc a (.Name x p) && chk G N sc k k' && !stE k' && !isBor k
    | _ => false)
  | .getd a k d, e => (match e with
    | .Call (.Attribute a' m ap) [k', d'] [] cp => decide (m = "get") && (ap.endLine == cp.line) && noSup a' && chk G N sc a a' && chk G N sc k k' && chk G N sc d d' && !stE k' && !stE d' && !isBor k && !isBor d
    | _ => false)
  | .mth m a b, e => (match e with
    | .Call (.Attribute a' nm ap) [b'] [] cp => decide (nm = mNm m) && noSup a' && (ap.endLine == cp.line) && !stE b' && chk G N sc a a' && chk G N sc b b'
    | _ => false)
  | .repl _ _ _, _ => false
  | .fst as, e => (match e with
    | .JoinedStr (v1 :: v2 :: vs) _ => chkF G N sc as (v1 :: v2 :: vs)
    | _ => false)
  | .tint a, e => (match e with
    | .Call (.Name f _) [a'] [] _ => glB sc f && decide (f = "int") && chk G N sc a a' && !stE a'
    | _ => false)
  | .chrs a, e => (match e with
    | .Call (.Name f _) [a'] [] _ => glB sc f && decide (f = "list") && chk G N sc a a' && !stE a'
    | _ => false)
  | .compz i a b c el, e => (match e with
    | .ListComp el' [⟨.Name y yp, .Call (.Name f _) [a', b'] [] _, ifs, 0⟩] scope _ => tgtB N (relS scope sc) (.one i) (.Name y yp) && (match N[i]? with | some x => lclB (relS scope sc) x | none => false) && glB sc f && decide (f = "zip") && chk G N sc a a' && chk G N sc b b' && !stE a' && !stE b' && !isBor a && !isBor b && chkC G.off N (relS scope sc) c ifs && chk G.off N (relS scope sc) el el' && !isBor el && blkB N sc scope [i]
    | _ => false)
  | .stuck, _ => true
  | .kget x kvs k, e => (match e with
    | .Call (.Attribute (.Name x' _) nm ap) [k'] [] cp => decide (x = x') && glB sc x && decide (nm = "get") && (ap.endLine == cp.line) && decide (G.dct x = some kvs) && !stE k' && chk G N sc k k'
    | _ => false)
  | .kcpy x kvs, e => (match e with
    | .Call (.Name f _) [.Name x' _] [] _ => decide (x = x') && glB sc x && glB sc f && decide (f = "dict") && decide (G.dct x = some kvs)
    | _ => false)
  | .zlst a b, e => (match e with
    | .Call (.Name f _) [.Call (.Name f2 _) [a', b'] [] _] [] _ => glB sc f && decide (f = "list") && glB sc f2 && decide (f2 = "zip") && chk G N sc a a' && chk G N sc b b' && !stE a' && !stE b' && !isBor a && !isBor b
    | _ => false)
  | .zdic a b, e => (match e with
    | .Call (.Name f _) [.Call (.Name f2 _) [a', b'] [] _] [] _ => glB sc f && decide (f = "dict") && glB sc f2 && decide (f2 = "zip") && chk G N sc a a' && chk G N sc b b' && !stE a' && !stE b' && !isBor a && !isBor b
    | _ => false)
  | .isB b a, e => (match e with
    | .Compare a' [.Is] [c'] _ => decide (isBC c' = some b) && chk G N sc a a'
    | _ => false)
  | .mkx cl kw as, e => (match e with
    | .Call (.Name x _) (e1 :: es) [] _ => G.mke && decide (kw = 0) && glB sc x && decide (G.exc x = some cl) && (e1 :: es).all (fun y => !stE y) && chks G N sc as (e1 :: es)
    | .Call (.Name x _) [] kws _ => G.mke && glB sc x && decide (G.exc x = some cl) && ((decide (kw = 1) && decide (kws.map (·.arg) = (fldN cl).map some)) || (decide (kw = 2) && decide (kws.map (·.arg) = (fldN cl).reverse.map some))) && (kws.map (·.value)).all (fun y => !stE y) && chks G N sc as (kws.map (·.value))
    | _ => false)
  | .isy w a, e => (match e with
    | .Call (.Name f _) [a', .Name t _] [] _ => G.ax && G.mke && (glB sc f && glB sc t && decide (f = "isinstance") && decide (t = famN w) && chk G N sc a a' && !stE a' && !isBor a)
    | _ => false)
  | .isf, e => (match e with
    | .Call (.Name f _) [.Call (.Name x _) [.Constant (.str _) _ _] [] _, .Name t _] [] _ => G.mke && glB sc f && glB sc x && glB sc t && decide (f = "isinstance") && decide (x = "FallError") && decide (t = "ValueError")
    | _ => false)
  | .lstx as, e => (match e with
    | .List es _ => chks G N sc as es
    | _ => false)
  | .catx a b, e => (match e with
    | .BinOp a' op b' _ => decide (op = .Add) && chk G N sc a a' && chk G N sc b b' && !isBor a && !isBor b
    | _ => false)
def chkF (G : Glob) (N : List Str) (sc : Scope) : List Ex → List Expr → Bool
  | [], es => es.isEmpty
  | a :: as, es => (match es with
    | .FormattedValue e j none _ :: es => decide (j = -1) && chk G N sc a e && !isBor a && !isStar a && chkF G N sc as es
    | _ => false)
def chks (G : Glob) (N : List Str) (sc : Scope) : List Ex → List Expr → Bool
  | [], es => es.isEmpty
  | .star a :: as, es => (match es with
    | .Starred e _ :: es => chk G N sc a e && chks G N sc as es
    | _ => false)
  | a :: as, es => (match es with
    | e :: es => chk G N sc a e && !stE e && !isBor a && chks G N sc as es
    | _ => false)
def chkA (G : Glob) (N : List Str) (sc : Scope) : List Bool → List Ex → List Expr → Bool
  | _, [], es => es.isEmpty
  | bs, a :: as, es => (match es with
    | e :: es => chk G N sc a e && !stE e && !isStar a && (!isBor a || bs.headD false) && chkA G N sc bs.tail as es
    | _ => false)
def chkO (G : Glob) (N : List Str) (sc : Scope) : Option Ex → Option Expr → Bool
  | none, e => e.isNone
  | some a, e => (match e with
    | some e => chk G N sc a e
    | none => false)
def chkC (G : Glob) (N : List Str) (sc : Scope) : Option Ex → List Expr → Bool
  | none, es => es.isEmpty
  | some a, es => (match es with
    | [e] => tst a && chk G N sc a e
    | _ => false)
def chkI (G : Glob) (N : List Str) (sc : Scope) : It → Expr → Bool
  | .seq e, x => chk G N sc e x && !isBor e && (match x with
    | .Set .. => false
    | _ => true)
  | .rng1 a, x => (match x with
    | .Call (.Name f _) [a'] [] _ => glB sc f && decide (f = "range") && chk G N sc a a' && !stE a'
    | _ => false)
  | .rng2 a b, x => (match x with
    | .Call (.Name f _) [a', b'] [] _ => glB sc f && decide (f = "range") && chk G N sc a a' && chk G N sc b b' && !stE a' && !stE b'
    | _ => false)
  | .enum a, x => (match x with
    | .Call (.Name f _) [a'] [] _ => glB sc f && decide (f = "enumerate") && chk G N sc a a' && !stE a' && !isBor a
    | _ => false)
  | .zip a b, x => (match x with
    | .Call (.Name f _) [a', b'] [] _ => glB sc f && decide (f = "zip") && chk G N sc a a' && chk G N sc b b' && !stE a' && !stE b' && !isBor a && !isBor b
    | _ => false)
  | .rng3 a b c, x => (match x with
    | .Call (.Name f _) [a', b', c'] [] _ => glB sc f && decide (f = "range") && chk G N sc a a' && chk G N sc b b' && chk G N sc c c' && !stE a' && !stE b' && !stE c'
    | _ => false)
  | .chars e, x => chk G N sc e x && !isBor e && (match x with
    | .Set .. => false
    | _ => true)
end
end FC
end
section
set_option Elab.async false
set_option linter.all false
set_option maxRecDepth 100000
set_option maxHeartbeats 2000000
namespace FC
open PySem L2 PyProof.Rows
variable [EA]
theorem RoC.ro {c : Cfg} {H : Hp} {x : V} {d : PyData} (h : RoC c H x d) : Ro H c.fz x d := by
  rcases h with h | ⟨a, e, _, h⟩
  · exact .inl h
  · exact .inr ⟨a, e, h⟩
def RvB (b : Bool) (c : Cfg) (H : Hp) (x : V) (v : PV) : Prop :=
  match b with
  | true => ∃ d, v = .d d ∧ RoC c H x d
  | false => Rpv H c.fz c.om x v
theorem RvB.roc {b : Bool} {c : Cfg} {H : Hp} {x : V} {d : PyData} (h : RvB b c H x (.d d)) : RoC c H x d := by
  cases b with
  | true =>
    obtain ⟨d', e, r⟩ := h
    cases e
    exact r
  | false => exact .inl h
def RvA (b : Bool) (c : Cfg) (H : Hp) (x : V) (v : PV) : Prop := Rpv H c.fz c.om x v ∨ (b = true ∧ ∃ d, v = .d d ∧ RoC c H x d)
theorem RvA.step {b : Bool} {c c' : Cfg} {H H' : Hp} {x : V} {v : PV} (s : Step c H c' H') (w : WF H c) (h : RvA b c H x v) : RvA b c' H' x v := by
  rcases h with h | ⟨e, d, e2, r⟩
  · exact .inl (Rpv.step s w h)
  · exact .inr ⟨e, d, e2, r.step s w⟩
def RpX (ea : Nat → Addr) (c : Cfg) (H : Hp) (cls : Value) (d : Option Addr) (ex : PExc) : Prop :=
  ∃ (dx : Addr) (vs : List V), cls = .ref (ea ex.cls) ∧ d = some dx ∧ H dx = some (.xd ((fldN ex.cls).zip vs)) ∧ vs.length = (fldN ex.cls).length ∧ RpA H c.fz vs ex.args
def PoE (ea : Nat → Addr) (W : XK) (b : Bool) (σ : L2.St) (c : Cfg) (H : Hp) (r : R PV) (Q : VK) : Prop :=
  match r with
  | .ok v os => ∀ (x : V) (H' : Hp) (c' : Cfg), Step c H c' H' → c'.env = c.env → c'.os = os → RvB b c' H' x v → Q x H'
  | .er ex os => ∀ (cls : Value) (d : Option Addr) (H' : Hp) (c' : Cfg), Step c H c' H' → c'.env = c.env → c'.os = os → RpX ea c' H' cls d ex → W cls d H'
  | .st => False
def PoT (ea : Nat → Addr) (W : XK) (σ : L2.St) (c : Cfg) (H : Hp) (r : R PV) (Q : Bool → Hp → Prop) : Prop :=
  match r with
  | .ok (.d (.bool b)) os => ∀ (H' : Hp) (c' : Cfg), Step c H c' H' → c'.env = c.env → c'.os = os → Q b H'
  | .ok _ _ => False
  | .er ex os => ∀ (cls : Value) (d : Option Addr) (H' : Hp) (c' : Cfg), Step c H c' H' → c'.env = c.env → c'.os = os → RpX ea c' H' cls d ex → W cls d H'
  | .st => False
inductive RpL (c : Cfg) (H : Hp) : List V → List PV → Prop
  | nil : RpL c H [] []
  | cons {v : V} {vs : List V} {x : PV} {xs : List PV} : Rpv H c.fz c.om v x → RpL c H vs xs → RpL c H (v :: vs) (x :: xs)
theorem RpL.step {c c' : Cfg} {H H' : Hp} (s : Step c H c' H') (w : WF H c) : ∀ {vs : List V} {xs : List PV}, RpL c H vs xs → RpL c' H' vs xs
  | _, _, .nil => .nil
  | _, _, .cons r t => .cons (r.step s w) (RpL.step s w t)
theorem RpL.data {c : Cfg} {H : Hp} : ∀ {vs : List V} {xs : List PV} {ds : List PyData}, RpL c H vs xs → dataAll xs = some ds → RpA H c.fz vs ds
  | _, _, _, .nil, e => by cases e; exact .nil
  | _, _, _, .cons (x := .d y) r t, e => by
    simp only [dataAll, Option.map_eq_some_iff] at e
    obtain ⟨ds, e1, rfl⟩ := e
    exact .cons r (RpL.data t e1)
  | _, _, _, .cons (x := .o _) r t, e => by simp [dataAll] at e
  | _, _, _, .cons (x := .s _) r t, e => by simp [dataAll] at e
  | _, _, _, .cons (x := .x _ _) r t, e => by simp [dataAll] at e
  | _, _, _, .cons (x := .xs _) r t, e => by simp [dataAll] at e
theorem RpL.of {c : Cfg} {H : Hp} : ∀ {vs : List V} {ds : List PyData}, RpA H c.fz vs ds → RpL c H vs (ds.map PV.d)
  | _, _, .nil => .nil
  | _, _, .cons r t => .cons r (RpL.of t)
theorem RpL.append {c : Cfg} {H : Hp} : ∀ {vs ws : List V} {xs ys : List PV}, RpL c H vs xs → RpL c H ws ys → RpL c H (vs ++ ws) (xs ++ ys)
  | _, _, _, _, .nil, q => q
  | _, _, _, _, .cons r t, q => .cons r (t.append q)
theorem RpL.length {c : Cfg} {H : Hp} : ∀ {vs : List V} {xs : List PV}, RpL c H vs xs → vs.length = xs.length
  | _, _, .nil => rfl
  | _, _, .cons _ t => by simp [RpL.length t]
def PoA (ea : Nat → Addr) (W : XK) (σ : L2.St) (c : Cfg) (H : Hp) (r : R (List PV)) (Q : List V → Hp → Prop) : Prop :=
  match r with
  | .ok v os => ∀ (x : List V) (H' : Hp) (c' : Cfg), Step c H c' H' → c'.env = c.env → c'.os = os → RpL c' H' x v → Q x H'
  | .er ex os => ∀ (cls : Value) (d : Option Addr) (H' : Hp) (c' : Cfg), Step c H c' H' → c'.env = c.env → c'.os = os → RpX ea c' H' cls d ex → W cls d H'
  | .st => False
section
variable (call : CallT) (ea : Nat → Addr) (W : XK)
def tE (e : Ex) : TE := fun σ H Q => ∃ c, Rel c σ H ∧ PoE ea W (isBor e) σ c H (ev call e c.env c.os) Q
def tT (e : Ex) : TT := fun σ H Q => ∃ c, Rel c σ H ∧ PoT ea W σ c H (ev call e c.env c.os) Q
def tA (es : List Ex) : TA := fun σ H Q => ∃ c, Rel c σ H ∧ PoA ea W σ c H (evs call es c.env c.os) Q
end
section
variable {call : CallT} {ea : Nat → Addr} {W : XK} {σ : L2.St} {c c1 : Cfg} {H H1 : Hp} {Q : VK} {b : Bool}
theorem PoE.mono {r : R PV} {Q' : VK} (h : PoE ea W b σ c H r Q) (f : ∀ x H', Q x H' → Q' x H') : PoE ea W b σ c H r Q' := by
  cases r with
  | ok v os => exact fun x H' c' s e o r => f _ _ (h x H' c' s e o r)
  | er ex os => exact h
  | st => exact h
theorem PoE.after {r : R PV} (s : Step c H c1 H1) (e : c1.env = c.env) (h : PoE ea W b σ c H r Q) : PoE ea W b σ c1 H1 r Q := by
  cases r with
  | ok v os => exact fun x H' c' s' e' o r => h x H' c' (s.trans s') (e'.trans e) o r
  | er ex os => exact fun x d H' c' s' e' o r => h x d H' c' (s.trans s') (e'.trans e) o r
  | st => exact h
theorem PoT.after {r : R PV} {Q : Bool → Hp → Prop} (s : Step c H c1 H1) (e : c1.env = c.env) (h : PoT ea W σ c H r Q) : PoT ea W σ c1 H1 r Q := by
  match r, h with
  | .ok (.d (.bool b)) os, h => exact fun H' c' s' e' o => h H' c' (s.trans s') (e'.trans e) o
  | .er ex os, h => exact fun x d H' c' s' e' o r => h x d H' c' (s.trans s') (e'.trans e) o r
theorem PoA.after {r : R (List PV)} {Q : List V → Hp → Prop} (s : Step c H c1 H1) (e : c1.env = c.env) (h : PoA ea W σ c H r Q) : PoA ea W σ c1 H1 r Q := by
  cases r with
  | ok v os => exact fun x H' c' s' e' o r => h x H' c' (s.trans s') (e'.trans e) o r
  | er ex os => exact fun x d H' c' s' e' o r => h x d H' c' (s.trans s') (e'.trans e) o r
  | st => exact h
theorem PoE.po {z : PyData} {os : Objs} (h : PoE ea W false σ c H (.ok (.d z) os) Q) (e : c.os = os) : Po c H z Q := fun v H' c' s e1 o r => h v H' c' s e1 (by rw [o, e]) r
theorem tE.dat {e : Ex} {f : PyData → Objs → R PV} (rel : Rel c σ H) (h : PoE ea W b σ c H ((ev call e c.env c.os).dat f) Q) {Q' : VK}
    (hk : ∀ d os x H' c', ev call e c.env c.os = .ok (.d d) os → Step c H c' H' → c'.env = c.env → c'.os = os → Rel c' σ H' → RoC c' H' x d → (isBor e = false → Rp H' c'.fz x d) → PoE ea W b σ c' H' (f d os) Q → Q' x H') : tE call ea W e σ H Q' := by
  refine ⟨c, rel, ?_⟩
  cases hv : ev call e c.env c.os with
  | ok v os =>
    rw [hv] at h
    cases v with
    | d d =>
      intro x H' c' s e1 o r
      refine hk d os x H' c' hv s e1 o (rel.step s e1) r.roc (fun hb => ?_) (h.after s e1)
      rw [hb] at r
      exact r
    | o n => exact h.elim
    | s n => exact h.elim
    | x n m => exact h.elim
    | xs n => exact h.elim
  | er ex os => rw [hv] at h; exact h
  | st => rw [hv] at h; exact h
theorem tE.val {e : Ex} {f : PV → Objs → R PV} (rel : Rel c σ H) (hb : isBor e = false) (h : PoE ea W b σ c H ((ev call e c.env c.os).bind f) Q) {Q' : VK}
    (hk : ∀ v os x H' c', ev call e c.env c.os = .ok v os → Step c H c' H' → c'.env = c.env → c'.os = os → Rel c' σ H' → Rpv H' c'.fz c'.om x v → PoE ea W b σ c' H' (f v os) Q → Q' x H') : tE call ea W e σ H Q' := by
  refine ⟨c, rel, ?_⟩
  cases hv : ev call e c.env c.os with
  | ok v os =>
    rw [hv] at h
    intro x H' c' s e1 o r
    rw [hb] at r
    exact hk v os x H' c' hv s e1 o (rel.step s e1) r (h.after s e1)
  | er ex os => rw [hv] at h; exact h
  | st => rw [hv] at h; exact h
theorem tT.bool {e : Ex} {f : Bool → Objs → R PV} (rel : Rel c σ H) (h : PoE ea W b σ c H ((ev call e c.env c.os).bool f) Q) {Q' : Bool → Hp → Prop}
    (hk : ∀ k os H' c', Step c H c' H' → c'.env = c.env → c'.os = os → Rel c' σ H' → PoE ea W b σ c' H' (f k os) Q → Q' k H') : tT call ea W e σ H Q' := by
  refine ⟨c, rel, ?_⟩
  match hv : ev call e c.env c.os, h with
  | .ok (.d (.bool k)) os, h => exact fun H' c' s e1 o => hk k os H' c' s e1 o (rel.step s e1) (h.after s e1)
  | .er ex os, h => exact h
theorem tE.bool {e : Ex} {f : Bool → Objs → R PV} (rel : Rel c σ H) (h : PoE ea W b σ c H ((ev call e c.env c.os).bool f) Q) {Q' : Bool → Hp → Prop}
    (hk : ∀ k os H' c', Step c H c' H' → c'.env = c.env → c'.os = os → Rel c' σ H' → PoE ea W b σ c' H' (f k os) Q → Q' k H') : tE call ea W e σ H (fun x H' => ∃ k, x = .bl k ∧ Q' k H') := by
  refine ⟨c, rel, ?_⟩
  match hv : ev call e c.env c.os, h with
  | .ok (.d (.bool k)) os, h => exact fun x H' c' s e1 o r => ⟨k, r.roc.ro.bool, hk k os H' c' s e1 o (rel.step s e1) (h.after s e1)⟩
  | .er ex os, h => exact h
theorem tE.set (rel : Rel c σ H) {e : Ex} {Q : VK} {env : PEnv} {os : Objs} (e1 : c.env = env) (e2 : c.os = os) (h : PoE ea W (isBor e) σ c H (ev call e env os) Q) : tE call ea W e σ H Q := ⟨c, rel, by rw [e1, e2]; exact h⟩
end
end FC
end
section
set_option Elab.async false
set_option linter.all false
set_option maxRecDepth 100000
set_option maxHeartbeats 2000000
namespace FC
open PySem PySem.Spec L2 PyProof.Rows
def entOf (e : DictEntry) : Option (Str × Int × Int) := match e.key, e.val with
  | .str x _, .int i _ => some (x, e.hash, i)
  | _, _ => none
def dctW (K : PySem.W.Frag) (a : Addr) : Option (List (Option (Str × Int × Int))) := match K.lookup a with
  | some ⟨.type c, none, .dict es _, sl⟩ => (match decide (c = "dict") && (sl.isEmpty && !(a == sysModules)) with
    | true => some (es.toList.map entOf)
    | false => none)
  | _ => none
def entsV (P : Params) (kvs : List (Str × Int)) : List (Option (Str × Int × Int)) := kvs.map fun p => some (p.1, PyData.keyHash P p.1, p.2)
def DctK (K : PySem.W.Frag) (w : World) (a : Addr) (kvs : List (Str × Int)) : Prop :=
  ∃ es n, K.lookup a = some ⟨.type "dict", none, .dict es n, #[]⟩ ∧ (a == sysModules) = false ∧ es.toList.map entOf = entsV w.params kvs
theorem dctW_ok {K : PySem.W.Frag} {w : World} {a : Addr} {kvs : List (Str × Int)} (h : dctW K a = some (entsV w.params kvs)) : DctK K w a kvs := by
  unfold dctW at h
  cases q : K.lookup a with
  | none => rw [q] at h; cases h
  | some o =>
    obtain ⟨oc, od, dt, osl⟩ := o
    rw [q] at h
    cases oc with
    | type c =>
      cases od with
      | none =>
        cases dt with
        | dict es n =>
          dsimp only at h
          split at h
          · rename_i z
            simp only [Bool.and_eq_true, decide_eq_true_eq, Bool.not_eq_true', Array.isEmpty_iff] at z
            obtain ⟨rfl, rfl, z3⟩ := z
            exact ⟨es, n, q, z3, Option.some.inj h⟩
          · cases h
        | _ => cases h
      | some b => cases dt <;> cases h
    | _ => cases od <;> cases dt <;> cases h
def keysI (kvs : List (Str × Int)) : List (Key × V) := kvs.map fun p => (Sum.inr p.1, V.int p.2)
theorem ent_pairs {P : Program} {w : World} : ∀ {l : List DictEntry} {kvs : List (Str × Int)}, l.map entOf = entsV w.params kvs →
    ∃ vs : List (Key × Value), KV (keysI kvs) vs ∧ Pairs (mixKind P w) l vs ∧ ∀ e ∈ l, ∃ k, (mixKind P w).is k e.key = true ∧ e.hash = (mixKind P w).hash k
  | [], [], _ => ⟨[], .nil, .nil, by simp⟩
  | [], _ :: _, h => by simp [entsV] at h
  | _ :: _, [], h => by simp [entsV] at h
  | e :: l, p :: kvs, h => by
    simp only [entsV, List.map_cons, List.cons.injEq] at h
    obtain ⟨h1, h2⟩ := h
    obtain ⟨vs, g1, g2, g3⟩ := ent_pairs (P := P) (w := w) (l := l) (kvs := kvs) h2
    unfold entOf at h1
    split at h1
    · rename_i x t i t2 ek ev
      simp only [Option.some.injEq, Prod.mk.injEq] at h1
      obtain ⟨e1, e2, e3⟩ := h1
      subst e1 e3
      have ki : keyIs (Sum.inr p.1) e.key = true := by rw [ek]; exact keyIs_str p.1 t
      refine ⟨(Sum.inr p.1, .int p.2 t2) :: vs, .cons ⟨rfl, t2, rfl⟩ g1, .cons ki ev g2, fun e' he => ?_⟩
      rcases List.mem_cons.mp he with rfl | he
      · exact ⟨Sum.inr p.1, ki, e2⟩
      · exact g3 e' he
    · cases h1
theorem DctK.at_ {K : PySem.W.Frag} {P : Program} {w : World} {a : Addr} {kvs : List (Str × Int)} {h : Heap} (d : DctK K w a kvs) (nd : (kvs.map (·.1)).Nodup) (X : K.In h) : ∃ vs, KV (keysI kvs) vs ∧ h.DictOf (mixKind P w) a vs := by
  obtain ⟨es, n, hl, _, he⟩ := d
  obtain ⟨vs, g1, g2, g3⟩ := ent_pairs (P := P) he
  refine ⟨vs, g1, _, es, n, X _ _ hl, ⟨rfl, rfl, rfl⟩, rfl, fun e he => g3 e (Array.mem_toList_iff.mpr he), g2, ?_⟩
  rw [← g1.keys]
  have : (keysI kvs).map (·.1) = (kvs.map (·.1)).map Sum.inr := by simp [keysI]
  rw [this]
  exact List.Pairwise.map Sum.inr (fun a b h z => h (Sum.inr.inj z)) nd
end FC
end
section
set_option Elab.async false
set_option linter.all false
set_option maxRecDepth 100000
set_option maxHeartbeats 4000000
namespace FC
open PySem PySem.Spec PySem.Calls PyProof.Rows PySem.W L2
structure ErrK (P : Program) (K : Frag) (C fI : Addr) (B i newId : String) (bmB : List Value) : Prop where
  FB : ExcBaseFacts B newId i bmB
  SF : StoreFacts B bmB "object.__setattr__" "object"
  KF : KxsFacts B i
  q : excInitIn K C bmB newId = true
  ov : excOver K C bmB = true
  st : findIn K (.ref C) "__setattr__" = some (some (.builtin "object.__setattr__"))
  hh : hasDictIn K C = true
  iC : findIn K (.ref C) "__init__" = some (some (.ref fI))
  tI : typeIn K (.ref fI) = some (.type "function")
  sub : subIn K (.ref C) (.type B) = some true
  opq : nsIn K cStatics "thirdparty.any" = some none
  sup : ks_superIn K C C "__init__" = some (some (.builtin i))
  own : mroIn K C (.ref C) = some true
  exC : subIn K (.ref C) (.type "BaseException") = some true
  tyC : typeIn K (.ref C) = some (.type "type")
  kC : keepIn K (.ref C) = true
  top : (P.main.scope.names.lookup ("super" : Str)).isSome = false
structure InitK (P : Program) (K : Frag) (C fI cda cc : Addr) (qual : Str) (params : Arguments) (body : List Stmt) (scope : Scope) (fd : FuncData) (flds : List Str) : Prop where
  lk : ∃ oc od osl nm dV kV doc pm an ct, fd = ksFn nm qual params body scope dV kV doc pm an (.ref cda) ct cc ∧ K.lookup fI = some ⟨oc, od, .func fd, osl⟩
  hcd : codeIn K (.ref cda) qual = true
  code : ∃ ccl cdd vs ccs file tf, K.lookup cda = some ⟨ccl, cdd, .fields vs, ccs⟩ ∧ vs[2]? = some (.str file tf) ∧ ((P.main.file : Str) == file) = true
  cell : ∃ cl cld csl, K.lookup cc = some ⟨cl, cld, .cell (some (.ref C)), csl⟩
  hp : ∃ ar, (params.posonlyargs ++ params.args).head? = some ar ∧ ar.arg = "self"
  kd : scope.kind = .function
  co : scope.isCoroutine = false
  gen : scope.isGenerator = false
  nc : ∀ x ∈ scope.names, x.2 ≠ .cell
  sp : scope.names.lookup ("super" : Str) = some .globalImplicit
  cl : scope.names.lookup ("__class__" : Str) = some .free
  loc : ∀ x ∈ ("self" :: flds : List Str), scope.names.lookup x = some .local
  bd : Binds K fd ("self" :: flds) []
def supStmt (msg : Str) (j : Nat) (p0 p1 p2 p3 p4 p5 : Pos) : Stmt := .Expr (.Call (.Attribute (.Call (.Name "super" p0) [] [] p1) "__init__" p2) [.Constant (.str msg) j p3] [] p4) p5
def fldStmt (f : Str) (p6 p7 p8 p9 : Pos) : Stmt := .Assign [.Attribute (.Name "self" p6) f p7] (.Name f p8) p9
def SupEv (msg : Str) (j : Nat) (p0 p1 p2 p3 p4 : Pos) (env : Env) : Prop := ∃ pl : Sem Bool, eval (.Call (.Attribute (.Call (.Name "super" p0) [] [] p1) "__init__" p2) [.Constant (.str msg) j p3] [] p4) env = (do
      let ov ← attributeBase (.Call (.Name "super" p0) [] [] p1) "__init__" env (eval (.Call (.Name "super" p0) [] [] p1) env)
      standAt p2.atName
      let (f, first) ← holding [ov] (getMethod ov "__init__" pl)
      callWith p4 f first (backTo p4 (starEach [.Constant (.str msg) j p3] env)) [])
section
variable {P : Program} {w : World} {A : Around} {K : Frag} {mg : Str → Option Value} {C fI cda cc : Addr} {B i newId : String} {bmB : List Value} {qual : Str} {params : Arguments} {body : List Stmt} {scope : Scope} {fd : FuncData} {flds : List Str} {E : Value → Shared → Prop} {hp : Heap} {L x : Addr} {m : Str → Option Value} {s : Shared}
theorem run_sup {msg : Str} {j : Nat} {p0 p1 p2 p3 p4 p5 : Pos} {t : Addr} {Q : Flow → Shared → Prop} (hev : SupEv msg j p0 p1 p2 p3 p4 (ksEnv qual scope L fI (.ref cda) cc)) (EK : ErrK P K C fI B i newId bmB) (IK : InitK P K C fI cda cc qual params body scope fd flds) (hg : hp.Ns mainGlobals mg) (hsm : mg "super" = none) (hb : ∃ mb, hp.Ns builtinsNs mb ∧ ∀ x : Str, x ≠ "__name__" → mb x = bootBuiltins x)
    (F : Fr hp L s.heap m) (X₀ : K.In hp) (hx : s.heap.get? x = some (excObj C t none .none)) (hxL : x ≠ L) (hxn : hp.get? x = none) (hself : m "self" = some (.ref x))
    (h : ∀ t' h' tk, Fr hp L h' m → h'.get? x = some (excObj C t' none .none) → Q .next { s with heap := h', toks := tk }) :
    _root_.PySem.wpAt (model P w) A (.func body (ksEnv qual scope L fI (.ref cda) cc)) (exec (supStmt msg j p0 p1 p2 p3 p4 p5) (ksEnv qual scope L fI (.ref cda) cc)) Q E s := by
  obtain ⟨oc, od, osl, nm, dV, kV, doc, pm, an, ct, rfl, lk⟩ := IK.lk
  obtain ⟨ccl, cdd, vs, ccs, file, tf, c1, c2, c3⟩ := IK.code
  obtain ⟨cl, cld, csl, c4⟩ := IK.cell
  obtain ⟨ar, a1, a2⟩ := IK.hp
  have N : News hp L s.heap [(x, excObj C t none .none)] := fun p hp => by
    simp only [List.mem_singleton] at hp
    subst hp
    exact ⟨hx, hxL, hxn⟩
  have X : K.In s.heap := X₀.keeps F.keep
  have I : InstAt s.heap x (excObj C t none .none) C none := ⟨hx, rfl, rfl, trivial⟩
  obtain ⟨mb, hb1, hb2⟩ := hb
  obtain ⟨pl, hev⟩ := hev
  unfold supStmt
  refine ks_wpAt_Expr_any (ks_wpAt_MethodCall ?_ hev) (by simp [interactive, IK.kd]) rfl
  obtain ⟨hh, g, d, tk, os⟩ := s
  obtain ⟨cdC, hcd⟩ : ∃ cdC, clsIn K C = some cdC := by
    cases hc : clsIn K C with
    | none => have := EK.sup; unfold ks_superIn at this; rw [hc] at this; cases this
    | some cdC => exact ⟨cdC, rfl⟩
  obtain ⟨oD, hD1, hD2⟩ : ∃ oD, hh.get? C = some oD ∧ oD.data = .cls cdC := by
    unfold clsIn at hcd
    split at hcd
    · rename_i c d cd' sl ho
      cases hcd
      exact ⟨_, X _ _ ho, rfl⟩
    · cases hcd
  refine ks_wpAt_super_base (env := ksEnv qual scope L fI (.ref cda) cc) IK.sp IK.cl (by decide) rfl (X _ _ lk) rfl a1 rfl (X _ _ c1) rfl c2 c3 EK.top ?_
  refine ks_loadName_global IK.kd IK.sp (loadGlobal_builtin (env := ksEnv qual scope L fI (.ref cda) cc) (hg.keeps F.keep) hsm (hb1.keeps F.keep) ((hb2 _ (by decide)).trans (by exact PyProof.Rows.Boot.«super»)) ⟨rfl, ?_⟩)
  refine wpAny_loadName_free IK.kd IK.cl rfl ⟨_, X _ _ c4, rfl⟩ ?_
  rw [a2]
  refine wpAny_loadName_local IK.kd (IK.loc "self" (by simp)) F.ns hself ?_
  refine ks_wpAny_isType_cls hD1 hD2 ⟨rfl, ?_⟩
  refine ks_wpAny_call_super hD1 hD2 I.at_ I.cls (fun c e => ?_) (looks_mroIn X EK.own) (fun h' e k => ?_)
  · cases e
  have F1 : Fr hp L h' m := ⟨F.ns.keeps k, fun b o z => k b o (F.keep b o z), F.above⟩
  have X1 : K.In h' := X₀.keeps F1.keep
  have hx1 : h'.get? x = some (excObj C t none .none) := k _ _ hx
  have nsz : hp.get? hh.objs.size = none := by
    cases z : hp.get? hh.objs.size with
    | none => rfl
    | some o => exact absurd (Heap.lt_size (F.keep _ _ z)) (Nat.lt_irrefl _)
  have nL : hh.objs.size ≠ L := Nat.ne_of_gt F.ns.lt
  have N1 : News hp L h' [(hh.objs.size, ks_superObj C x C), (x, excObj C t none .none)] := fun p hp => by
    simp only [List.mem_cons, List.not_mem_nil, or_false] at hp
    rcases hp with rfl | rfl
    · exact ⟨e, nL, nsz⟩
    · exact ⟨hx1, hxL, hxn⟩
  have I1 : InstAt h' x (excObj C t none .none) C none := ⟨hx1, rfl, rfl, trivial⟩
  refine kxs_method (s := ⟨h', g, d, tk, os⟩) EK.KF F1 X₀ N1 (by simp) I1 EK.opq EK.sup EK.sub (by decide) fun q h2 F2 N2 lt2 => ?_
  refine kxs_callWith1 (s := ⟨h2, g, d, tk + 1, os⟩) (i := i) (x := x) N2 (List.mem_cons_self) (spliced_cons ?_) rfl rfl
  show wpAny _ _ (eval (.Constant (.str msg) j p3) _) _ _ _
  refine Calls.Constant_str (spliced_nil ⟨kxs_at N2 (List.mem_cons_self), ?_⟩)
  have hqx : q ≠ x := fun z => by
    have := lt2 (x, excObj C t none .none) (by simp)
    rw [z] at this
    exact absurd this (Nat.lt_irrefl _)
  have hsx : hh.objs.size ≠ x := fun z => by
    have := Heap.lt_size hx
    rw [← z] at this
    exact absurd this (Nat.lt_irrefl _)
  refine kxs_call (s := ⟨h2, g, d, tk + 1 + 1, os⟩) (x := x) (t := t) (dv := none) (c2 := .none) F2 X₀ N2 EK.FB EK.q (by simp) (.tail hqx (.tail hsx (.head (by simp)))) (by simp [sizeLine_eq]) fun t' h3 F3 N3 _ => ?_
  exact h t' h3 _ F3 (N3 (x, excObj C t' none .none) (by simp)).1
theorem run_fld0 {f : Str} {p6 p7 p8 p9 : Pos} {t : Addr} {u : Value} {Q : Flow → Shared → Prop} (EK : ErrK P K C fI B i newId bmB) (kd : scope.kind = .function) (ls : scope.names.lookup ("self" : Str) = some .local) (lf : scope.names.lookup f = some .local) (ht : takerIn K C f = some none) (hdf : (f == ("__debug__" : Str)) = false)
    (F : Fr hp L s.heap m) (X₀ : K.In hp) (hx : s.heap.get? x = some (excObj C t none .none)) (hxL : x ≠ L) (hxn : hp.get? x = none) (hself : m "self" = some (.ref x)) (hu : m f = some u)
    (h : ∀ dx h' tk, Fr hp L h' m → h'.get? x = some (excObj C t (some dx) .none) → h'.get? dx = some (dictOf [⟨PyData.keyHash w.params f, .str f (s.toks + 1), u⟩] 1) → dx ≠ L → hp.get? dx = none → dx ≠ x → Q .next { s with heap := h', toks := tk }) :
    _root_.PySem.wpAt (model P w) A (.func body (ksEnv qual scope L fI (.ref cda) cc)) (exec (fldStmt f p6 p7 p8 p9) (ksEnv qual scope L fI (.ref cda) cc)) Q E s := by
  unfold fldStmt
  refine ks_wpAt_Assign_Attr (wpAt_of_wpAny (ESX.ldL F.ns hu (ESX.ldL F.ns hself ?_ kd ls (by decide)) kd lf hdf)) rfl
  have N : News hp L s.heap [(x, excObj C t none .none)] := fun p hp => by
    simp only [List.mem_singleton] at hp
    subst hp
    exact ⟨hx, hxL, hxn⟩
  refine set_exc0 EK.SF F X₀ N (by simp) EK.st EK.ov ht EK.hh rfl (.head (by simp)) (by simp [putL]) fun dx h' F' N' lt => ?_
  have n1 := N' (dx, _) (List.mem_cons_self)
  have n2 := N' (x, excObj C t (some dx) .none) (by simp)
  have hl := lt (x, excObj C t none .none) (by simp)
  exact h dx h' _ F' n2.1 n1.1 n1.2.1 n1.2.2 (Nat.ne_of_gt hl)
theorem run_fldD {f : Str} {p6 p7 p8 p9 : Pos} {t dx : Addr} {u : Value} {en : List DictEntry} {n : Nat} {Q : Flow → Shared → Prop} (EK : ErrK P K C fI B i newId bmB) (kd : scope.kind = .function) (ls : scope.names.lookup ("self" : Str) = some .local) (lf : scope.names.lookup f = some .local) (ht : takerIn K C f = some none) (hdf : (f == ("__debug__" : Str)) = false)
    (hen : (getL f en).isSome = true) (hln : (putL f (PyData.keyHash w.params f) (.str f (s.toks + 1)) u en).length ≤ 1000)
    (F : Fr hp L s.heap m) (X₀ : K.In hp) (hx : s.heap.get? x = some (excObj C t (some dx) .none)) (hd : s.heap.get? dx = some (dictOf en n)) (hdx : dx ≠ x) (hxL : x ≠ L) (hxn : hp.get? x = none) (hdL : dx ≠ L) (hdn : hp.get? dx = none) (hself : m "self" = some (.ref x)) (hu : m f = some u)
    (h : ∀ h' tk, Fr hp L h' m → h'.get? x = some (excObj C t (some dx) .none) → h'.get? dx = some (dictOf (putL f (PyData.keyHash w.params f) (.str f (s.toks + 1)) u en) (putN f en n)) → Q .next { s with heap := h', toks := tk }) :
    _root_.PySem.wpAt (model P w) A (.func body (ksEnv qual scope L fI (.ref cda) cc)) (exec (fldStmt f p6 p7 p8 p9) (ksEnv qual scope L fI (.ref cda) cc)) Q E s := by
  unfold fldStmt
  refine ks_wpAt_Assign_Attr (wpAt_of_wpAny (ESX.ldL F.ns hu (ESX.ldL F.ns hself ?_ kd ls (by decide)) kd lf hdf)) rfl
  have N : News hp L s.heap [(dx, dictOf en n), (x, excObj C t (some dx) .none)] := fun p hp => by
    simp only [List.mem_cons, List.not_mem_nil, or_false] at hp
    rcases hp with rfl | rfl
    · exact ⟨hd, hdL, hdn⟩
    · exact ⟨hx, hxL, hxn⟩
  refine set_excD (t := t) (c2 := .none) EK.SF F X₀ N (by simp) EK.st EK.ov ht EK.hh List.mem_cons_self hen rfl (.head (fun p hp => by simp only [List.mem_singleton] at hp; subst hp; exact Ne.symm hdx)) hln fun h' F' N' => ?_
  exact h h' _ F' (N' (x, excObj C t (some dx) .none) (by simp)).1 (N' (dx, _) List.mem_cons_self).1
def InitRuns (P : Program) (w : World) (K : Frag) (mg : Str → Option Value) (C fI : Addr) (flds : List Str) : Prop :=
  ∀ (A : Around) (hp : Heap) (g : Array GenState) (d : Drawn) (t : Nat) (os : OsState) (us : List Value) (R : Result → Shared → Prop), us.length = flds.length → A.depth < recursionLimit → K.In hp → hp.Ns mainGlobals mg → (∃ mb, hp.Ns builtinsNs mb ∧ ∀ x : Str, x ≠ "__name__" → mb x = bootBuiltins x) → hp.NoLimit →
    (∀ h' tk dx t' mA, (∀ b o, hp.get? b = some o → h'.get? b = some o) → h'.get? (hp.objs.size + 1) = some (excObj C t' (some dx) .none) → h'.Ns1 dx mA → (∀ f, mA f = (flds.zip us).lookup f) → hp.get? dx = none → R (.ok (.ret .none)) ⟨h', g, d, tk, os⟩) →
    codeAny (model P w) A (.call (.ref fI) ⟨.ref (hp.objs.size + 1) :: us, []⟩) R ⟨(hp.push (kdv_tup us)).push (excObj C hp.objs.size none .none), g, d, t, os⟩
theorem ns1_one {h : Heap} {dx : Addr} {f : Str} {k : Int} {tk : Tok} {u : Value} {n : Nat} (e : h.get? dx = some (dictOf [⟨k, .str f tk, u⟩] n)) : h.Ns1 dx (fun y => if y = f then some u else none) := by
  refine ⟨_, _, _, e, rfl, fun en hen => ?_, ?_, fun name => ?_⟩
  · simp at hen
    subst hen
    exact ⟨_, _, rfl⟩
  · simp [UniqKeys]
  · simp only [nsFind, findBy, Value.isStr]
    by_cases hn : name = f
    · subst hn; simp
    · have : (f == name) = false := beq_eq_false_iff_ne.mpr (Ne.symm hn)
      simp [hn, this]
theorem ns1_two {h : Heap} {dx : Addr} {f f2 : Str} {k k2 : Int} {tk tk2 : Tok} {u u2 : Value} {n : Nat} (hne : f ≠ f2) (e : h.get? dx = some (dictOf [⟨k, .str f tk, u⟩, ⟨k2, .str f2 tk2, u2⟩] n)) : h.Ns1 dx (fun y => if y = f then some u else if y = f2 then some u2 else none) := by
  refine ⟨_, _, _, e, rfl, fun en hen => ?_, ?_, fun name => ?_⟩
  · simp at hen
    rcases hen with rfl | rfl <;> exact ⟨_, _, rfl⟩
  · simp only [UniqKeys, List.pairwise_cons, List.mem_singleton, forall_eq, List.not_mem_nil, false_implies, implies_true, List.Pairwise.nil, and_true, Value.isStr, beq_iff_eq]
    intro n h1 h2
    exact hne (h1.trans h2.symm)
  · simp only [nsFind, findBy, Value.isStr]
    by_cases hn : name = f
    · subst hn; simp
    · have h1 : (f == name) = false := beq_eq_false_iff_ne.mpr (Ne.symm hn)
      by_cases hn2 : name = f2
      · subst hn2; simp [hn, h1]
      · have h2 : (f2 == name) = false := beq_eq_false_iff_ne.mpr (Ne.symm hn2)
        simp [hn, hn2, h1, h2]
theorem init1 {f msg : Str} {j : Nat} {p0 p1 p2 p3 p4 p5 p6 p7 p8 p9 : Pos} (EK : ErrK P K C fI B i newId bmB) (IK : InitK P K C fI cda cc qual params [supStmt msg j p0 p1 p2 p3 p4 p5, fldStmt f p6 p7 p8 p9] scope fd [f]) (hsm : mg "super" = none) (ht : takerIn K C f = some none) (hdf : (f == ("__debug__" : Str)) = false) (hfs : f ≠ "self")
    (hev : ∀ L, SupEv msg j p0 p1 p2 p3 p4 (ksEnv qual scope L fI (.ref cda) cc)) : InitRuns P w K mg C fI [f] := by
  intro A hp g d t os us R hl hroom X₀ hg hb hlim hR
  have hsf : (("self" : Str) == f) = false := beq_eq_false_iff_ne.mpr (Ne.symm hfs)
  match us, hl with
  | [u], _ =>
    obtain ⟨oc, od, osl, nm, dV, kV, doc, pm, an, ct, hfd, lk⟩ := IK.lk
    have kk : ∀ b o, hp.get? b = some o → ((hp.push (kdv_tup [u])).push (excObj C hp.objs.size none .none)).get? b = some o := fun b o e => Heap.get?_push_of_some _ (Heap.get?_push_of_some _ e)
    have hget : ((hp.push (kdv_tup [u])).push (excObj C hp.objs.size none .none)).get? (hp.objs.size + 1) = some (excObj C hp.objs.size none .none) := by heap_get
    have hxn : hp.get? (hp.objs.size + 1) = none := Heap.get?_none_of_le (Nat.le_succ _)
    have X2 : K.In ((hp.push (kdv_tup [u])).push (excObj C hp.objs.size none .none)) := X₀.keeps kk
    have bd := IK.bd ⟨(hp.push (kdv_tup [u])).push (excObj C hp.objs.size none .none), g, d, t, os⟩ [.ref (hp.objs.size + 1), u] X2 rfl
    subst hfd
    refine ks_codeAny_call_defAt hroom (X2 _ _ lk) rfl (hlim.keeps kk) (codeRec_of X2 IK.hcd) rfl bd IK.nc (fun y hy => ?_) (fun h₁ hns hk₁ => ?_) IK.co IK.gen IK.kd
    · have : y = (("self" : Str), Value.ref (hp.objs.size + 1)) ∨ y = (f, u) := by simpa using hy
      rcases this with rfl | rfl
      · exact IK.loc _ (by simp)
      · exact IK.loc _ (by simp)
    have hsz : ((hp.push (kdv_tup [u])).push (excObj C hp.objs.size none .none)).objs.size = hp.objs.size + 1 + 1 := by rw [Heap.size_push, Heap.size_push]
    generalize hL : ((hp.push (kdv_tup [u])).push (excObj C hp.objs.size none .none)).objs.size = L at hns ⊢
    rw [hL] at hsz
    have F1 : Fr hp L h₁ _ := ⟨hns, fun b o e => hk₁ b o (kk b o e), by omega⟩
    have hxL : hp.objs.size + 1 ≠ L := by omega
    refine ks_wpAt_execs_cons (run_sup (hev L) EK IK hg hsm hb F1 X₀ (hk₁ _ _ hget) hxL hxn ?_ fun t' h2 tk F2 hx2 => ?_)
    · simp [List.lookup, hsf]
    refine ks_wpAt_execs_cons (run_fld0 (u := u) EK IK.kd (IK.loc _ (by simp)) (IK.loc _ (by simp)) ht hdf F2 X₀ hx2 hxL hxn ?_ ?_ fun dx h3 tk3 F3 hx3 hd3 hdL hdn hdx => ?_)
    · simp [List.lookup, hsf]
    · simp [List.lookup]
    refine wpAt_of_wpAny (wpAny_execs_nil ?_)
    refine hR h3 tk3 dx t' _ F3.keep hx3 (ns1_one hd3) (fun y => ?_) hdn
    by_cases hy : y = f
    · subst hy; simp [List.lookup]
    · have : (y == f) = false := beq_eq_false_iff_ne.mpr hy
      simp [List.lookup, hy, this]
theorem init2 {f f2 msg : Str} {j : Nat} {p0 p1 p2 p3 p4 p5 p6 p7 p8 p9 q6 q7 q8 q9 : Pos} (EK : ErrK P K C fI B i newId bmB) (IK : InitK P K C fI cda cc qual params [supStmt msg j p0 p1 p2 p3 p4 p5, fldStmt f p6 p7 p8 p9, fldStmt f2 q6 q7 q8 q9] scope fd [f, f2]) (hsm : mg "super" = none) (ht : takerIn K C f = some none) (ht2 : takerIn K C f2 = some none) (hdf : (f == ("__debug__" : Str)) = false) (hdf2 : (f2 == ("__debug__" : Str)) = false) (hfs : f ≠ "self") (hfs2 : f2 ≠ "self") (hne : f ≠ f2)
    (hev : ∀ L, SupEv msg j p0 p1 p2 p3 p4 (ksEnv qual scope L fI (.ref cda) cc)) : InitRuns P w K mg C fI [f, f2] := by
  intro A hp g d t os us R hl hroom X₀ hg hb hlim hR
  have hsf : (("self" : Str) == f) = false := beq_eq_false_iff_ne.mpr (Ne.symm hfs)
  have hsf2 : (("self" : Str) == f2) = false := beq_eq_false_iff_ne.mpr (Ne.symm hfs2)
  have hff : (f == f2) = false := beq_eq_false_iff_ne.mpr hne
  match us, hl with
  | [u, u2], _ =>
    obtain ⟨oc, od, osl, nm, dV, kV, doc, pm, an, ct, hfd, lk⟩ := IK.lk
    have kk : ∀ b o, hp.get? b = some o → ((hp.push (kdv_tup [u, u2])).push (excObj C hp.objs.size none .none)).get? b = some o := fun b o e => Heap.get?_push_of_some _ (Heap.get?_push_of_some _ e)
    have hget : ((hp.push (kdv_tup [u, u2])).push (excObj C hp.objs.size none .none)).get? (hp.objs.size + 1) = some (excObj C hp.objs.size none .none) := by heap_get
    have hxn : hp.get? (hp.objs.size + 1) = none := Heap.get?_none_of_le (Nat.le_succ _)
    have X2 : K.In ((hp.push (kdv_tup [u, u2])).push (excObj C hp.objs.size none .none)) := X₀.keeps kk
    have bd := IK.bd ⟨(hp.push (kdv_tup [u, u2])).push (excObj C hp.objs.size none .none), g, d, t, os⟩ [.ref (hp.objs.size + 1), u, u2] X2 rfl
    subst hfd
    refine ks_codeAny_call_defAt hroom (X2 _ _ lk) rfl (hlim.keeps kk) (codeRec_of X2 IK.hcd) rfl bd IK.nc (fun y hy => ?_) (fun h₁ hns hk₁ => ?_) IK.co IK.gen IK.kd
    · have : y = (("self" : Str), Value.ref (hp.objs.size + 1)) ∨ y = (f, u) ∨ y = (f2, u2) := by simpa using hy
      rcases this with rfl | rfl | rfl
      · exact IK.loc _ (by simp)
      · exact IK.loc _ (by simp)
      · exact IK.loc _ (by simp)
    have hsz : ((hp.push (kdv_tup [u, u2])).push (excObj C hp.objs.size none .none)).objs.size = hp.objs.size + 1 + 1 := by rw [Heap.size_push, Heap.size_push]
    generalize hL : ((hp.push (kdv_tup [u, u2])).push (excObj C hp.objs.size none .none)).objs.size = L at hns ⊢
    rw [hL] at hsz
    have F1 : Fr hp L h₁ _ := ⟨hns, fun b o e => hk₁ b o (kk b o e), by omega⟩
    have hxL : hp.objs.size + 1 ≠ L := by omega
    refine ks_wpAt_execs_cons (run_sup (hev L) EK IK hg hsm hb F1 X₀ (hk₁ _ _ hget) hxL hxn ?_ fun t' h2 tk F2 hx2 => ?_)
    · simp [List.lookup, hsf, hsf2]
    refine ks_wpAt_execs_cons (run_fld0 (u := u) EK IK.kd (IK.loc _ (by simp)) (IK.loc _ (by simp)) ht hdf F2 X₀ hx2 hxL hxn ?_ ?_ fun dx h3 tk3 F3 hx3 hd3 hdL hdn hdx => ?_)
    · simp [List.lookup, hsf, hsf2]
    · simp [List.lookup, hff]
    have hput : ∀ (k0 : Int) (t0 : Tok) k tk v, putL f2 k (.str f2 tk) v [⟨k0, .str f t0, u⟩] = [⟨k0, .str f t0, u⟩, ⟨k, .str f2 tk, v⟩] := fun k0 t0 k tk v => by
      simp [putL, Value.isStr, hff]
    refine ks_wpAt_execs_cons (run_fldD (u := u2) EK IK.kd (IK.loc _ (by simp)) (IK.loc _ (by simp)) ht2 hdf2 (by simp [getL, Value.isStr, hff, DictEntry.refKey]) (by rw [hput]; simp) F3 X₀ hx3 hd3 hdx hxL hxn hdL hdn ?_ ?_ fun h4 tk4 F4 hx4 hd4 => ?_)
    · simp [List.lookup, hsf, hsf2]
    · simp [List.lookup]
    refine wpAt_of_wpAny (wpAny_execs_nil ?_)
    rw [hput] at hd4
    refine hR h4 tk4 dx t' _ F4.keep hx4 (ns1_two hne hd4) (fun y => ?_) hdn
    by_cases hy : y = f
    · subst hy; simp [List.lookup]
    · have h1 : (y == f) = false := beq_eq_false_iff_ne.mpr hy
      by_cases hy2 : y = f2
      · subst hy2; simp [List.lookup, hy, h1]
      · have h2 : (y == f2) = false := beq_eq_false_iff_ne.mpr hy2
        simp [List.lookup, hy, hy2, h1, h2]
end
end FC
end
section
set_option Elab.async false
set_option linter.all false
set_option maxRecDepth 100000
set_option maxHeartbeats 4000000
namespace FC
open PySem PySem.Spec PySem.Calls PyProof.Rows PySem.W L2
theorem zip_relO (f : Str) : ∀ (flds : List Str) {vs : List V} {us : List Value}, Vals vs us → RelO ((flds.zip vs).lookup f) ((flds.zip us).lookup f)
  | [], _, _, _ => by simp [RelO]
  | y :: flds, _, _, .nil => by simp [RelO]
  | y :: flds, _, _, .cons (a := v) (b := u) r t => by
    simp only [List.zip_cons_cons, List.lookup]
    cases h : f == y with
    | true => exact r
    | false => exact zip_relO f flds t
theorem pmk_err {X : Cx} {x : Str} {C fI : Addr} {B i newId : String} {bmB : List Value} {flds : List Str} {e : Expr} {es : List Expr} {ta : TA} {p pos : Pos} {k : Nat} (EK : ErrK X.prog X.K C fI B i newId bmB) (IR : InitRuns X.prog X.w X.K X.mg C fI flds) (hf : flds.length ≤ 1000) (hr : Room (k + 1) X.A)
    (hg : Gl X x) (hm : X.mg x = some (.ref C)) (ha : PA X (e :: es) ta) (hdb : (x == ("__debug__" : Str)) = false) (he : starEach (e :: es) X.env = (false, eval e X.env) :: starEach es X.env) (hpl : (backTo pos (starEach es X.env)).any (·.1) = false) :
    PMk X (.Call (.Name x p) (e :: es) [] pos) (fun σ H Q => ta σ H fun vs H1 => vs.length = flds.length ∧ ∀ dx, H1 dx = none → Q (.ref C) (some dx) (upd H1 dx (.xd (flds.zip vs)))) := by
  intro pins s σ H Q I h
  refine wpAny_Call_Name_kw (ld_glob I hg hm ?_ hdb)
  refine PySem.W.callWith_K (h₀ := X.base) I.ok.mod.kin EK.kC (thn (ha.run pos pins s σ H _ I h) fun us s1 ⟨vs, H1, I1, r1, hz, q1⟩ => ⟨I1.kIn, ?_⟩) he hpl
  show wpAny _ _ (call (.ref C) us) _ _ _
  obtain ⟨hp, g, dr, tk, os⟩ := s1
  obtain ⟨nm, N, qn, bs, bm, hdct, sn, sub, ab, col, dd, k0, k1, k2, k3, k5, hC, hT⟩ := excInit_of I1.kIn EK.q
  have hlen : us.length = flds.length := by rw [← Paired.length r1]; exact hz
  have hus : us.length ≤ sizeLine := by rw [hlen, sizeLine_eq]; omega
  obtain ⟨mb, hb1, hb2⟩ := I1.mod.blt
  refine wpAny_call (PySem.HandSPX.call_own EK.FB hT hC (looks_findIn I1.kIn EK.iC) (fun self => bind_fn I1.kIn self EK.tI) hus
    (IR _ hp g dr tk os us _ hlen (hr.make C us []).depth I1.kIn (I1.mod.glob.keeps I1.bk) ⟨mb, hb1.keeps I1.bk, hb2⟩ (I1.mod.nolimit.keeps I1.bk) fun h' tk' dx t' mA kept hx hns hmA hdn => ⟨rfl, ?_⟩))
  have hn : H1 dx = none := I1.hok.gone hdn
  have hen : hp.get? (hp.objs.size + 1) = none := Heap.get?_none_of_le (Nat.le_succ _)
  have hne : H1 (hp.objs.size + 1) = none := I1.hok.gone hen
  have hdx : dx ≠ hp.objs.size + 1 := fun z => by
    obtain ⟨o, es', ep, e1, e2, _⟩ := hns
    rw [z, hx] at e1
    cases e1
    cases e2
  obtain ⟨G, g1', g2'⟩ := restrict h' fun b => decide (b ≠ hp.objs.size + 1)
  have gk : ∀ b, b ≠ hp.objs.size + 1 → G.get? b = h'.get? b := fun b hb => g1' b (decide_eq_true hb)
  have ge : G.get? (hp.objs.size + 1) = none := g2' _ (by simp)
  have kG : ∀ b o, hp.get? b = some o → G.get? b = some o := fun b o e => by
    rw [gk b fun z => by rw [z, hen] at e; cases e]
    exact kept b o e
  have J : Inv X pins σ (upd H1 dx (.xd (flds.zip vs))) ⟨G, g, dr, tk', os⟩ := I1.laidN (t' := tk') kG hdn hn ⟨mA, hns.at fun o y => (gk dx hdx).trans y, fun f => by rw [hmA]; exact zip_relO f flds r1⟩
  refine ⟨hp.objs.size + 1, _, _, ⟨G, g, dr, tk', os⟩, _, .ref C, some dx, rfl, J, fun b o z => ?_, ge, hx, ⟨rfl, rfl⟩, rfl, rfl, ?_, rfl, J.bare, raises_own EK.exC EK.tyC, q1 dx hn⟩
  · by_cases hb : b = hp.objs.size + 1
    · rw [hb, ge] at z
      cases z
    · exact (gk b hb).symm.trans z
  · rw [upd_ne (Ne.symm hdx)]
    exact hne
end FC
end
section
set_option Elab.async false
set_option linter.all false
set_option maxRecDepth 100000
set_option maxHeartbeats 4000000
namespace FC
open PySem PySem.Spec PySem.Calls PyProof.Rows PySem.W L2
theorem checkArgs_free {id : String} {sig : Manifest.Signature} {p : List Value} {kws : List (Str × Value)} (h : sig.machinery = .any ∨ sig.machinery = .hand) : Bind.checkArgs id sig { pos := p, kw := kws } = Bind.checkArgs id sig { pos := p } := by
  unfold Bind.checkArgs
  rcases h with h | h
  · simp only [h]
    unfold Bind.check
    simp only [h]
  · simp only [h]
    unfold Bind.check
    simp only [h]
theorem checkNew_kw {id B : String} {sig : Manifest.Signature} {p : List Value} {kws : List (Str × Value)} (hs : Manifest.signature? id = some sig) (h : sig.machinery = .any) (hk : builtinKind id = some .builtinFn) (hp : splitId id = some (B, "__new__")) : checkBuiltinCall id { pos := p, kw := kws } = checkBuiltinCall id { pos := p } := by
  unfold checkBuiltinCall
  simp only [hs, hk, hp, checkArgs_free (p := p) (kws := kws) (.inl h)]
theorem tc_mach : (match Manifest.signature? "type.__call__" with | some s => (match s.machinery with | .hand => true | _ => false) | none => false) = true := by decide +kernel
theorem checkType_kw {p : List Value} {kws : List (Str × Value)} : checkBuiltinCall "type.__call__" { pos := p, kw := kws } = checkBuiltinCall "type.__call__" { pos := p } := by
  have hm := tc_mach
  split at hm
  · rename_i sig hs
    have h : sig.machinery = .hand := by
      split at hm
      · assumption
      · cases hm
    unfold checkBuiltinCall
    simp only [hs, tc_kind, tc_split, checkArgs_free (p := p) (kws := kws) (.inr h)]
  · cases hm
section
variable {prog : Program} {w : World} {A : Around} {h : Heap} {g : Array GenState} {d : Drawn} {t : Nat} {os : OsState} {nm q : Str} {C N : Addr} {bs bm bmB : List Value} {hdct : Bool} {sn : List Str} {sub : List Value} {ab : Bool} {col : Option Bool} {dd : Option Addr} {k0 k1 k2 k3 k5 : Option Value} {B newId initId : String}
theorem new_ownK {R : Result → Shared → Prop} (F : ExcBaseFacts B newId initId bmB) (hT : ∀ X : String, bm.contains (Value.type X) = bmB.contains (Value.type X)) {kws : List (Str × Value)} (hC : h.get? C = some (excClassObj nm q C N bs bm hdct sn sub ab col dd k0 k1 k2 k3 k5 newId))
    (hq : R (.ok (.ret (.ref (h.objs.size + 1)))) { heap := (h.push { cls := .type "tuple", data := .seq #[] }).push { cls := .ref C, data := .fields #[.ref h.objs.size, .none, .none, .none, .bool false, .none] }, gens := g, drawn := d, toks := t, os := os }) :
    codeAny (model prog w) A (.builtin newId { pos := [.ref C], kw := kws }) R { heap := h, gens := g, drawn := d, toks := t, os := os } := by
  have hends := F.ends
  have hcB : (Value.ref C :: bm).contains (.type B) = true := by rw [List.contains_cons, hT B, F.hasB, Bool.or_true]
  have hcA : (Value.ref C :: bm).contains (.type "AttributeError") = false := by rw [List.contains_cons, hT, F.noAttr]; rfl
  have hcN : (Value.ref C :: bm).contains (.type "NameError") = false := by rw [List.contains_cons, hT, F.noName]; rfl
  refine codeAny_builtinAt F.entry ?_
  refine PySem.wpAt_bind (PySem.wpAt_bind (PySem.wpAt_stack fun p below => wpAt_of_wpAny (wpAny_ite_true (by simp [hends]) (wpAny_pure (wpAt_of_wpAny ?_)))))
  rw [F.owner]
  refine wpAny_bind (wpAny_bind (wpAny_loadPart_at hC (wpAny_pure (wpAny_ite_false (by rfl) (wpAny_bind (wpAny_isSubtype_exc hC ?_))))))
  rw [hcB]
  refine wpAny_ite_false (by rfl) (wpAny_bind (wpAny_madeHere_exc F.canon hC (wpAny_bind ?_)))
  refine wpAny_bind (wpAny_isSubtype_exc hC ?_)
  rw [hcA]
  refine wpAny_ite_false (by rfl) (wpAny_bind (wpAny_isSubtype_exc hC ?_))
  rw [hcN]
  refine wpAny_ite_false (by rfl) (wpAny_pure ?_)
  refine wpAny_bind (wpAny_newTuple ?_ (by simp [sizeLine_eq]))
  refine wpAny_bind ?_
  unfold newObj
  refine wpAny_ite_false (by simp [sizeLine_eq]) ?_
  unfold newObjAsIs
  refine wpAny_bind (wpAny_alloc' ?_)
  refine wpAny_bind ?_
  unfold classHasDel
  refine wpAny_bind (wpAny_load' (Heap.get?_push_of_some _ (Heap.get?_push_of_some _ hC)) (wpAny_pure ?_))
  refine wpAny_ite_false (by rfl) ?_
  refine wpAny_pure ?_
  refine wpAny_pure ?_
  show R (.ok (.ret (.ref (h.push { cls := .type "tuple", data := .seq #[] }).objs.size))) _
  rw [Heap.size_push]
  exact hq
theorem type_call_ownK {E : Value → Shared → Prop} (F : ExcBaseFacts B newId initId bmB) (hT : ∀ X : String, bm.contains (Value.type X) = bmB.contains (Value.type X)) {kws : List (Str × Value)} {fI : Addr} {Q : PySem.Fin → Shared → Prop} (hC : h.get? C = some (excClassObj nm q C N bs bm hdct sn sub ab col dd k0 k1 k2 k3 k5 newId))
    (hi : Looks (model prog w) h (typeLookup (.ref C) "__init__") (some (.ref fI))) (hb : ∀ self : Value, Looks (model prog w) h (bindSpecial (.ref fI) self) (.ref fI, [self]))
    (hq : codeAny (model prog w) A (.call (.ref fI) { pos := [.ref (h.objs.size + 1)], kw := kws }) (fun r s' => match r with
      | .ok (.ret v) => v = .none ∧ Q (.done (.ret (.ref (h.objs.size + 1)))) s'
      | .ok _ => False
      | .error e => E e s') { heap := (h.push (kdv_tup [])).push (HandSPX.excO C h.objs.size), gens := g, drawn := d, toks := t, os := os }) :
    wpAny (model prog w) A (Builtin.«type.__call__» { pos := [.ref C], kw := kws }) Q E { heap := h, gens := g, drawn := d, toks := t, os := os } := by
  unfold Builtin.«type.__call__»
  refine wpAny_ite_false (by rfl) ?_
  refine wpAny_bind ?_
  refine wpAny_bind (wpAny_bind (wpAny_load' hC (wpAny_pure (wpAny_pure ?_))))
  refine wpAny_ite_false (by rfl) ?_
  refine wpAny_bind (wpAny_madeBy_exc hC ?_)
  refine wpAny_bind (wpAny_pure ?_)
  refine wpAny_bind (wpAny_holding (wpAny_call (codeAny_call_builtin_code (Code.quiet_builtin _ F.quiet) ?_)))
  rw [checkNew_kw F.newRow rfl F.newKind F.newSplit]
  refine HandSPX.check_new_own F hT hC (new_ownK F hT hC ?_)
  have k : ∀ b o, h.get? b = some o → ((h.push (kdv_tup [])).push (HandSPX.excO C h.objs.size)).get? b = some o := fun b o e => Heap.get?_push_of_some _ (Heap.get?_push_of_some _ e)
  have hC₁ := k C _ hC
  have hget : ((h.push (kdv_tup [])).push (HandSPX.excO C h.objs.size)).get? (h.objs.size + 1) = some (HandSPX.excO C h.objs.size) := Heap.get?_push_at (by rw [Heap.size_push]) rfl
  have hcC : (Value.ref C :: bm).contains (.ref C) = true := by simp
  have i1 := Looks.keeps hi k
  have b1 := Looks.keeps (hb (.ref (h.objs.size + 1))) k
  show wpAny _ _ _ _ _ _
  refine wpAny_bind ?_
  refine wpAny_bind (wpAny_bind (wpAny_loadPart_at hget (wpAny_pure (wpAny_isSubtype_exc hC₁ ?_))))
  rw [hcC]
  refine wpAny_ite_false (by rfl) (wpAny_bind (wpAny_holding (wpAny_bind (wpAny_bind (wpAny_bind (wpAny_loadPart_at hget (wpAny_pure ?_)))))))
  refine i1.at (wpAny_holding (wpAny_bind (b1.at (wpAny_bind (wpAny_call (codeAny_mono hq fun r s' z => ?_))))))
  match r, z with
  | .error e, z => exact z
  | .ok (.ret v), z =>
    obtain ⟨rfl, z⟩ := z
    refine wpAny_pure ?_
    refine wpAny_ite_false (by rfl) ?_
    exact wpAny_pure z
theorem call_ownK {R : Result → Shared → Prop} (F : ExcBaseFacts B newId initId bmB) (hT : ∀ X : String, bm.contains (Value.type X) = bmB.contains (Value.type X)) {kws : List (Str × Value)} {fI : Addr} (hC : h.get? C = some (excClassObj nm q C N bs bm hdct sn sub ab col dd k0 k1 k2 k3 k5 newId))
    (hi : Looks (model prog w) h (typeLookup (.ref C) "__init__") (some (.ref fI))) (hb : ∀ self : Value, Looks (model prog w) h (bindSpecial (.ref fI) self) (.ref fI, [self]))
    (hq : codeAny (model prog w) (A.under (.builtin "type.__call__" { pos := [.ref C], kw := kws })) (.call (.ref fI) { pos := [.ref (h.objs.size + 1)], kw := kws }) (InitBack (h.objs.size + 1) R) { heap := (h.push (kdv_tup [])).push (HandSPX.excO C h.objs.size), gens := g, drawn := d, toks := t, os := os }) :
    codeAny (model prog w) A (.call (.ref C) { pos := [], kw := kws }) R { heap := h, gens := g, drawn := d, toks := t, os := os } := by
  have f1 := tc_lookup
  have f2 := tc_bind (.ref C)
  have hTy : (⟨h, g, d, t, os⟩ : Shared).TypeIs (.ref C) "type" := ⟨_, hC, rfl⟩
  refine codeAny_of_tree ?_
  refine wpAny_bind (wpAny_load' hC ?_)
  refine wpAny_bind (wpAny_specialOf hTy f1 (wpAny_bind (wpAny_of_eq f2 (wpAny_bind ?_))))
  refine wpAny_pure (wpAny_ite_true (by rfl) ?_)
  refine wpAny_pure ⟨rfl, ?_⟩
  refine codeAny_call_builtin_at (Code.quiet_builtin _ (by decide +kernel)) entry_typeCall ?_
  show wpAny _ _ (checkBuiltinCall "type.__call__" { pos := [.ref C], kw := kws }) _ _ _
  rw [checkType_kw]
  refine wpAny_check_type_call_sub hC ?_
  refine type_call_ownK F hT hC hi hb (codeAny_mono hq fun r s' z => ?_)
  match r, z with
  | .error e, z => exact z
  | .ok (.ret v), z => exact z
end
end FC
end
section
set_option Elab.async false
set_option linter.all false
set_option maxRecDepth 100000
set_option maxHeartbeats 4000000
namespace FC
open PySem PySem.Spec PySem.Calls PyProof.Rows PySem.W L2
def KwOk (flds : List Str) (us : List Value) (kws : List (Str × Value)) : Prop := kws = flds.zip us ∨ kws = (flds.zip us).reverse
def InitRunsK (P : Program) (w : World) (K : Frag) (mg : Str → Option Value) (C fI : Addr) (flds : List Str) : Prop :=
  ∀ (A : Around) (hp : Heap) (g : Array GenState) (d : Drawn) (t : Nat) (os : OsState) (us : List Value) (kws : List (Str × Value)) (R : Result → Shared → Prop), us.length = flds.length → KwOk flds us kws → A.depth < recursionLimit → K.In hp → hp.Ns mainGlobals mg → (∃ mb, hp.Ns builtinsNs mb ∧ ∀ x : Str, x ≠ "__name__" → mb x = bootBuiltins x) → hp.NoLimit →
    (∀ h' tk dx t' mA, (∀ b o, hp.get? b = some o → h'.get? b = some o) → h'.get? (hp.objs.size + 1) = some (excObj C t' (some dx) .none) → h'.Ns1 dx mA → (∀ f, mA f = (flds.zip us).lookup f) → hp.get? dx = none → R (.ok (.ret .none)) ⟨h', g, d, tk, os⟩) →
    codeAny (model P w) A (.call (.ref fI) ⟨[.ref (hp.objs.size + 1)], kws⟩) R ⟨(hp.push (kdv_tup [])).push (excObj C hp.objs.size none .none), g, d, t, os⟩
structure Bas where
  B : String
  i : String
  n : String
  bm : List Value
def basV : Bas := ⟨"ValueError", "ValueError.__init__", "ValueError.__new__", [.type "ValueError", .type "Exception", .type "BaseException", .type "object"]⟩
def basO : Bas := ⟨"OverflowError", "OverflowError.__init__", "OverflowError.__new__", [.type "OverflowError", .type "ArithmeticError", .type "Exception", .type "BaseException", .type "object"]⟩
def basR : Bas := ⟨"RuntimeError", "RuntimeError.__init__", "RuntimeError.__new__", [.type "RuntimeError", .type "Exception", .type "BaseException", .type "object"]⟩
def basOf (cl : Nat) : Bas := if cl = 10 then basO else if cl = 11 then basR else basV
theorem bas_ok (cl : Nat) : PySem.ExcBaseFacts (basOf cl).B (basOf cl).n (basOf cl).i (basOf cl).bm ∧ PySem.StoreFacts (basOf cl).B (basOf cl).bm "object.__setattr__" "object" ∧ PySem.W.KxsFacts (basOf cl).B (basOf cl).i := by
  unfold basOf
  split
  · exact ⟨PySem.F.excBase_OverflowError, PySem.F.store_OverflowError, PySem.W.kxs_OverflowError⟩
  · split
    · exact ⟨PySem.F.excBase_RuntimeError, PySem.F.store_RuntimeError, PySem.W.kxs_RuntimeError⟩
    · exact ⟨PySem.F.excBase_ValueError, PySem.F.store_ValueError, PySem.W.kxs_ValueError⟩
end FC
end
section
set_option Elab.async false
set_option linter.all false
set_option maxRecDepth 100000
set_option maxHeartbeats 4000000
namespace FC
open PySem PySem.Spec PySem.Calls PyProof.Rows PySem.W L2
def perF (rev : Bool) {α : Type} (vs : List α) : List α := if rev then vs.reverse else vs
def ErrV (C : Addr) (flds : List Str) (vs : List V) (H : Hp) (Q : VK) : Prop := vs.length = flds.length ∧ ∀ dx e, H dx = none → H e = none → dx ≠ e → Q (.ref e) (upd (upd H dx (.xd (flds.zip vs))) e (ExX (.ref C) (some dx) e))
section
variable {X : Cx} {C fI : Addr} {B i newId : String} {bmB : List Value} {flds : List Str} {k : Nat}
theorem err_back {pins : List (Addr × Obj)} {σ : L2.St} {H : Hp} {hp h' : Heap} {g : Array GenState} {dr : Drawn} {tk tk' : Nat} {os : OsState} {dx t' : Addr} {mA : Str → Option Value} {us : List Value} {vs : List V} {Q : VK} (I : Inv X pins σ H ⟨hp, g, dr, tk, os⟩) (r : Vals vs us) (hl : vs.length = flds.length)
    (kept : ∀ b o, hp.get? b = some o → h'.get? b = some o) (hx : h'.get? (hp.objs.size + 1) = some (excObj C t' (some dx) .none)) (hns : h'.Ns1 dx mA) (hmA : ∀ f, mA f = (flds.zip us).lookup f) (hdn : hp.get? dx = none) (q : ErrV C flds vs H Q) :
    EP X pins σ Q (.ref (hp.objs.size + 1)) ⟨h', g, dr, tk', os⟩ := by
  have hn : H dx = none := I.hok.gone hdn
  have hen : hp.get? (hp.objs.size + 1) = none := Heap.get?_none_of_le (Nat.le_succ _)
  have hne : H (hp.objs.size + 1) = none := I.hok.gone hen
  have hdx : dx ≠ hp.objs.size + 1 := fun z => by
    obtain ⟨o, es', ep, e1, e2, _⟩ := hns
    rw [z, hx] at e1
    cases e1
    cases e2
  obtain ⟨G, g1', g2'⟩ := restrict h' fun b => decide (b ≠ hp.objs.size + 1)
  have gk : ∀ b, b ≠ hp.objs.size + 1 → G.get? b = h'.get? b := fun b hb => g1' b (decide_eq_true hb)
  have ge : G.get? (hp.objs.size + 1) = none := g2' _ (by simp)
  have kG : ∀ b o, hp.get? b = some o → G.get? b = some o := fun b o e => by
    rw [gk b fun z => by rw [z, hen] at e; cases e]
    exact kept b o e
  have J : Inv X pins σ (upd H dx (.xd (flds.zip vs))) ⟨G, g, dr, tk', os⟩ := I.laidN (t' := tk') kG hdn hn ⟨mA, hns.at fun o y => (gk dx hdx).trans y, fun f => by rw [hmA]; exact zip_relO f flds r⟩
  have hn2 : upd H dx (.xd (flds.zip vs)) (hp.objs.size + 1) = none := by rw [upd_ne (Ne.symm hdx)]; exact hne
  have kG2 : ∀ b o, G.get? b = some o → h'.get? b = some o := fun b o e => by
    have hb : b ≠ hp.objs.size + 1 := fun z => by rw [z, ge] at e; cases e
    rw [← gk b hb]; exact e
  have ox : ObjOk X.prog X.w (upd (upd H dx (.xd (flds.zip vs))) (hp.objs.size + 1) (ExX (.ref C) (some dx) (hp.objs.size + 1))) h' (hp.objs.size + 1) (ExX (.ref C) (some dx) (hp.objs.size + 1)) := by
    refine ⟨⟨_, _, hx, ⟨rfl, rfl⟩, rfl⟩, ⟨_, hx⟩, fun h1 h2 ⟨oe, ws, e1, e2, e3⟩ kk => ⟨oe, ws, kk _ e1, e2, e3⟩⟩
  have J2 := J.laidN (t' := tk') kG2 ge hn2 ox
  exact ⟨.ref (hp.objs.size + 1), _, J2, rfl, q.2 dx (hp.objs.size + 1) hn hne hdx⟩
theorem pe_errV {x : Str} {e : Expr} {es : List Expr} {ta : TA} {p pos : Pos} (EK : ErrK X.prog X.K C fI B i newId bmB) (IR : InitRuns X.prog X.w X.K X.mg C fI flds) (hf : flds.length ≤ 1000) (hr : Room (k + 1) X.A)
    (hg : Gl X x) (hm : X.mg x = some (.ref C)) (ha : PA X (e :: es) ta) (hdb : (x == ("__debug__" : Str)) = false) (he : starEach (e :: es) X.env = (false, eval e X.env) :: starEach es X.env) (hpl : (backTo pos (starEach es X.env)).any (·.1) = false) :
    PE X (.Call (.Name x p) (e :: es) [] pos) (fun σ H Q => ta σ H fun vs H1 => ErrV C flds vs H1 Q) := by
  refine ⟨fun pins s σ H Q I h => ?_⟩
  refine wpAny_Call_Name_kw (ld_glob I hg hm ?_ hdb)
  refine PySem.W.callWith_K (h₀ := X.base) I.ok.mod.kin EK.kC (thn (ha.run pos pins s σ H _ I h) fun us s1 ⟨vs, H1, I1, r1, q1⟩ => ⟨I1.kIn, ?_⟩) he hpl
  show wpAny _ _ (call (.ref C) us) _ _ _
  obtain ⟨hp, g, dr, tk, os⟩ := s1
  obtain ⟨nm, N, qn, bs, bm, hdct, sn, sub, ab, col, dd, k0, k1, k2, k3, k5, hC, hT⟩ := excInit_of I1.kIn EK.q
  have hlen : us.length = flds.length := by rw [← Paired.length r1]; exact q1.1
  have hus : us.length ≤ sizeLine := by rw [hlen, sizeLine_eq]; omega
  obtain ⟨mb, hb1, hb2⟩ := I1.mod.blt
  refine wpAny_call (PySem.HandSPX.call_own EK.FB hT hC (looks_findIn I1.kIn EK.iC) (fun self => bind_fn I1.kIn self EK.tI) hus
    (IR _ hp g dr tk os us _ hlen (hr.make C us []).depth I1.kIn (I1.mod.glob.keeps I1.bk) ⟨mb, hb1.keeps I1.bk, hb2⟩ (I1.mod.nolimit.keeps I1.bk) fun h' tk' dx t' mA kept hx hns hmA hdn => ⟨rfl, ?_⟩))
  exact err_back I1 r1 q1.1 kept hx hns hmA hdn q1
theorem vals_app : ∀ {a c : List V} {b d : List Value}, Vals a b → Vals c d → Vals (a ++ c) (b ++ d)
  | _, _, _, _, .nil, q => q
  | _, _, _, _, .cons r t, q => .cons r (vals_app t q)
theorem vals_rev : ∀ {a : List V} {b : List Value}, Vals a b → Vals a.reverse b.reverse
  | _, _, .nil => .nil
  | _, _, .cons r t => by
    rw [List.reverse_cons, List.reverse_cons]
    exact vals_app (vals_rev t) (.cons r .nil)
theorem kw_names {pos : Pos} {env : Env} : ∀ kws : List Keyword, (backToKw pos (keywordEach kws env)).map (·.1) = kws.map (·.arg)
  | [] => rfl
  | k :: ks => by
    have ih := kw_names (pos := pos) (env := env) ks
    obtain ⟨a, e, p⟩ := k
    show (a :: (backToKw pos (keywordEach ks env)).map (·.1)) = _
    rw [ih]
    rfl
theorem kw_all {pos : Pos} {env : Env} {kws : List Keyword} (h : (kws.map (·.arg)).all (·.isSome) = true) : (backToKw pos (keywordEach kws env)).all (fun x => x.fst.isSome) = true := by
  have e := kw_names (pos := pos) (env := env) kws
  rw [← e, List.all_map] at h
  exact h
theorem kw_fm {pos : Pos} {env : Env} {kws : List Keyword} : (backToKw pos (keywordEach kws env)).filterMap (fun x => x.fst) = (kws.map (·.arg)).filterMap id := by
  rw [← kw_names (pos := pos) (env := env) kws, List.filterMap_map]
  rfl
theorem callWith_K0W {A : Around} {E : Value → Shared → Prop} {s : Shared} {K : Frag} {M : Model} {env : Env} {pos : Pos} {f : Value} {Q : Value → Shared → Prop} {kws : List Keyword} (hk : keepIn K f = true) (hall : (kws.map (·.arg)).all (·.isSome) = true)
    (h : wpAny M A (evalAll ((backToKw pos (keywordEach kws env)).map (·.2))) (fun ks s₂ => K.In s₂.heap ∧ wpAny M A (call f [] (((kws.map (·.arg)).filterMap id).zip ks)) Q E s₂) E s) :
    wpAny M A (callWith pos f [] (backTo pos (starEach [] env)) (backToKw pos (keywordEach kws env))) Q E s := by
  have ha := kw_all (pos := pos) (env := env) hall
  refine callWith_of ?_ (keeps_K hk) (evalArgs_kw2_nil ha ?_)
  · rw [show ((backTo pos (starEach [] env)).any fun x => x.fst) = false from rfl, Bool.false_or, List.any_eq_false]
    intro x hx
    have := List.all_eq_true.mp ha x hx
    cases h : x.fst with
    | none => rw [h] at this; cases this
    | some _ => simp
  · rw [kw_fm]
    exact h
theorem pe_errVK {x : Str} {kws : List Keyword} {tk : TA} {p pos : Pos} {rev : Bool} (EK : ErrK X.prog X.K C fI B i newId bmB) (IR : InitRunsK X.prog X.w X.K X.mg C fI flds) (hf : flds.length ≤ 1000) (hr : Room (k + 1) X.A)
    (hg : Gl X x) (hm : X.mg x = some (.ref C)) (hk : PK X kws tk) (hdb : (x == ("__debug__" : Str)) = false) (hn : kws.map (·.arg) = (perF rev flds).map some) :
    PE X (.Call (.Name x p) [] kws pos) (fun σ H Q => tk σ H fun vs H1 => ErrV C flds (perF rev vs) H1 Q) := by
  refine ⟨fun pins s σ H Q I h => ?_⟩
  have hfm : (kws.map (·.arg)).filterMap id = perF rev flds := by rw [hn, List.filterMap_map]; simp
  refine wpAny_Call_Name_kw (ld_glob I hg hm (callWith_K0W EK.kC (by rw [hn]; simp) (thn (hk.run pos pins s σ H _ I h) fun us s1 ⟨vs, H1, I1, r1, q1⟩ => ⟨I1.kIn, ?_⟩)) hdb)
  rw [hfm]
  show wpAny _ _ (call (.ref C) [] ((perF rev flds).zip us)) _ _ _
  obtain ⟨hp, g, dr, tk, os⟩ := s1
  obtain ⟨nm, N, qn, bs, bm, hdct, sn, sub, ab, col, dd, k0, k1, k2, k3, k5, hC, hT⟩ := excInit_of I1.kIn EK.q
  have hlv : vs.length = flds.length := by
    have := q1.1
    unfold perF at this
    split at this
    · rw [List.length_reverse] at this; exact this
    · exact this
  have hlu : us.length = flds.length := by rw [← Paired.length r1]; exact hlv
  have hlen : (perF rev us).length = flds.length := by
    unfold perF
    split
    · rw [List.length_reverse]; exact hlu
    · exact hlu
  have hk2 : KwOk flds (perF rev us) ((perF rev flds).zip us) := by
    unfold perF
    cases rev with
    | false => exact .inl rfl
    | true =>
      right
      show flds.reverse.zip us = (flds.zip us.reverse).reverse
      have e := List.reverse_zipWith (f := Prod.mk) (l := flds) (l' := us.reverse) (by rw [List.length_reverse]; exact hlu.symm)
      rw [List.reverse_reverse] at e
      exact e.symm
  have rv : Vals (perF rev vs) (perF rev us) := by
    unfold perF
    cases rev with
    | false => exact r1
    | true => exact vals_rev r1
  obtain ⟨mb, hb1, hb2⟩ := I1.mod.blt
  refine wpAny_call (call_ownK EK.FB hT hC (looks_findIn I1.kIn EK.iC) (fun self => bind_fn I1.kIn self EK.tI)
    (IR _ hp g dr tk os (perF rev us) _ _ hlen hk2 ?_ I1.kIn (I1.mod.glob.keeps I1.bk) ⟨mb, hb1.keeps I1.bk, hb2⟩ (I1.mod.nolimit.keeps I1.bk) fun h' tk' dx t' mA kept hx hns hmA hdn => ⟨rfl, ?_⟩))
  · exact (hr.make C [] _).depth
  · exact err_back I1 rv q1.1 kept hx hns hmA hdn q1
end
end FC
end
section
set_option Elab.async false
set_option linter.all false
set_option maxRecDepth 100000
set_option maxHeartbeats 2000000
namespace FC
open PySem L2 PyProof.Rows
variable [EA]
theorem PE.imp {X : Cx} {e : Expr} {t t' : TE} (h : PE X e t) (f : ∀ σ H Q, t' σ H Q → t σ H Q) : PE X e t' := ⟨fun ps s σ H Q I q => h.run ps s σ H Q I (f _ _ _ q)⟩
theorem PT.imp {X : Cx} {e : Expr} {t t' : TT} (h : PT X e t) (f : ∀ σ H Q, t' σ H Q → t σ H Q) : PT X e t' := ⟨fun ps s σ H Q I q => h.run ps s σ H Q I (f _ _ _ q)⟩
theorem PA.imp {X : Cx} {e : List Expr} {t t' : TA} (h : PA X e t) (f : ∀ σ H Q, t' σ H Q → t σ H Q) : PA X e t' := ⟨fun pos ps s σ H Q I q => h.run pos ps s σ H Q I (f _ _ _ q)⟩
theorem PS.imp {X : Cx} {e : Stmt} {t t' : TS} (h : PS X e t) (f : ∀ D σ H, t' D σ H → t D σ H) : PS X e t' := ⟨fun ps s σ H D I q => h.run ps s σ H D I (f _ _ _ q)⟩
theorem PSs.imp {X : Cx} {e : List Stmt} {t t' : TS} (h : PSs X e t) (f : ∀ D σ H, t' D σ H → t D σ H) : PSs X e t' := ⟨fun ps s σ H D I q => h.run ps s σ H D I (f _ _ _ q)⟩
def PoF (ea : Nat → Addr) (c : Cfg) (H : Hp) (r : R PV) (Q : VK) (E : XK) : Prop :=
  match r with
  | .ok v os => ∀ (x : V) (H' : Hp) (c' : Cfg), Step c H c' H' → c'.os = os → Rpv H' c'.fz c'.om x v → Q x H'
  | .er ex os => ∀ (cls : Value) (d : Option Addr) (H' : Hp) (c' : Cfg), Step c H c' H' → c'.os = os → RpX ea c' H' cls d ex → E cls d H'
  | .st => False
inductive RpB (c : Cfg) (H : Hp) : List Bool → List V → List PV → Prop
  | nil {bs : List Bool} : RpB c H bs [] []
  | cons {bs : List Bool} {v : V} {vs : List V} {x : PV} {xs : List PV} : RvA (bs.headD false) c H v x → RpB c H bs.tail vs xs → RpB c H bs (v :: vs) (x :: xs)
def spF (call : CallT) (ea : Nat → Addr) (bs : List Bool) (f : Nat) : Sp := fun vs H Q E => ∃ (c : Cfg) (args : List PV), WF H c ∧ RpB c H bs vs args ∧ PoF ea c H (call f args c.os) Q E
def bltNames : List Str := ["len", "repr", "sorted", "all", "any", "sum", "min", "max", "list", "tuple", "str", "isinstance", "int", "bool", "range", "enumerate", "zip", "set", "dict"]
structure ErrX (K : PySem.W.Frag) (mg : Str → Option Value) (exc : Str → Option Nat) (ea : Nat → Addr) : Prop where
  cls : ∀ cl, clsOk cl = true → ExcC K (ea cl) ∧ ∀ f ∈ fldN cl, PySem.W.findIn K (.ref (ea cl)) f = some none
  nm : ∀ x c, exc x = some c → mg x = some (.ref (ea c)) ∧ clsOk c = true
  kit : ∀ cl c, clsOk cl = true → clsOk c = true → PySem.W.kitOne K (.ref (ea cl)) (.ref (ea c)) = some (decide (cl = c))
  exm : ∀ cl c, clsOk cl = true → clsOk c = true → PySem.W.exmOne K (.ref (ea cl)) (.ref (ea c)) = some (decide (cl = c))
def SdOk (G : Glob) (call : CallT) (ea : Nat → Addr) (k : Nat) (W : XK) (X : Cx) : Prop := ∀ (x : Str) (f : Nat), G.sd = some (x, f) → G.ax = true → ∀ (params : Arguments) (body : Expr) (scope : Scope) (lpos p pos : Pos) (e : Ex), glB X.env.scope x = true → lamB X.N X.env.scope scope params = true → isBor e = false →
  (∀ (A : Around) (outer : List Env) (s : Shared) (H : Hp) (E : XK) (fa c' : Addr), Room k (A.deeper (LamX.lamEnv X scope s.heap.objs.size fa c')) → A.guards = some [] → PE (LamX.lamCx X A outer s H E scope fa c') body (tE call ea E e)) →
  PE X (.Call (.Name x p) [.Lambda params body scope lpos] [] pos) (tE call ea W (.said f e))
theorem SdOk.nsd {G : Glob} {call : CallT} {ea : Nat → Addr} {k : Nat} {W : XK} {X : Cx} : SdOk G.nsd call ea k W X := fun x f h => by cases h
theorem SdOk.off {G : Glob} {call : CallT} {ea : Nat → Addr} {k : Nat} {W : XK} {X : Cx} : SdOk G.off call ea k W X := fun x f h => by cases h
def MkF (P : Program) (w : World) (K : PySem.W.Frag) (mg : Str → Option Value) (C : Addr) (cl : Nat) : Prop := ∃ (fI : Addr) (B i newId : String) (bmB : List Value), ErrK P K C fI B i newId bmB ∧ InitRuns P w K mg C fI (fldN cl) ∧ InitRunsK P w K mg C fI (fldN cl)
structure FamX (K : PySem.W.Frag) (mg : Str → Option Value) (ea : Nat → Addr) : Prop where
  fam : ∃ D, mg "FallError" = some (.ref D) ∧ PySem.W.keepIn K (.ref D) = true ∧ PySem.W.excIn K D basV.bm basV.n = true ∧ ExcC K D ∧ PySem.W.kitOne K (.ref D) (.type "ValueError") = some true ∧ ∀ cl, clsOk cl = true → PySem.W.kitOne K (.ref (ea cl)) (.ref D) = some (famD 0 cl)
  bi : ∀ cl, clsOk cl = true → PySem.W.kitOne K (.ref (ea cl)) (.type "ValueError") = some (famD 1 cl) ∧ PySem.W.kitOne K (.ref (ea cl)) (.type "OverflowError") = some (famD 2 cl) ∧ PySem.W.kitOne K (.ref (ea cl)) (.type "RuntimeError") = some (famD 3 cl)
  no : mg "ValueError" = none ∧ mg "OverflowError" = none ∧ mg "RuntimeError" = none
structure MkG (G : Glob) (X : Cx) : Prop where
  fam : FamX X.K X.mg EA.ea
  cls : ∀ x cl, G.exc x = some cl → X.mg x = some (.ref (EA.ea cl)) ∧ MkF X.prog X.w X.K X.mg (EA.ea cl) cl
  rm : ∃ j, Room (j + 1) X.A
structure Gd (G : Glob) (call : CallT) (ea : Nat → Addr) (k : Nat) (W : XK) (X : Cx) : Prop where
  calm : X.calm = true
  nd : X.N.Nodup
  gu : X.A.guards = some []
  rm : Room k X.A
  cst : ∀ x d, G.cst x = some d → ∃ v u, X.mg x = some u ∧ RelV v u ∧ ∀ H fz, Rp H fz v d
  blt : ∀ x, x ∈ bltNames → X.mg x = none
  fns : ∀ x f, G.fn x = some f → ∃ fa fd ps, X.mg x = some (.ref fa) ∧ PySem.W.keepIn X.K (.ref fa) = true ∧ Binds X.K fd ps [] ∧ FnG X.prog X.w X.K X.mg X.base k fa fd ps (spF call ea (G.bs f) f)
  tk : Takes X (fun cls d _ H => W cls d H)
  er : G.ax = true → ErrX X.K X.mg G.exc EA.ea
  sd : SdOk G call ea k W X
  dct : ∀ x kvs, G.dct x = some kvs → ∃ a, X.mg x = some (.ref a) ∧ DctK X.K X.w a kvs ∧ (kvs.map (·.1)).Nodup ∧ kvs.length ≤ sizeLine
  mke : G.mke = true → MkG G X
section
variable {G : Glob} {call : CallT} {ea : Nat → Addr} {k : Nat} {W : XK} {X : Cx}
theorem Gd.hu (g : Gd G call ea k W X) : X.A.units + 66 < cLine := by have := g.rm.un; omega
theorem glB_gl {sc : Scope} {x : Str} (h : glB sc x = true) : sc.names.lookup x = some .globalImplicit ∧ (x == ("__debug__" : Str)) = false ∧ x ≠ "__name__" := by
  simp only [glB, Bool.and_eq_true, Bool.not_eq_true', beq_eq_false_iff_ne] at h
  obtain ⟨⟨h1, h2⟩, h3⟩ := h
  refine ⟨?_, beq_eq_false_iff_ne.mpr h2, h3⟩
  split at h1
  · assumption
  · cases h1
theorem varB_ok {N : List Str} {sc : Scope} {i : Nat} {x : Str} (h : varB N sc i x = true) : N[i]? = some x ∧ Vis sc x ∧ (x == ("__debug__" : Str)) = false ∧ (x == ("__classdict__" : Str)) = false := by
  simp only [varB, okN, Bool.and_eq_true, Bool.not_eq_true', decide_eq_true_eq] at h
  obtain ⟨⟨h1, h2⟩, h3, h4⟩ := h
  refine ⟨h1, ?_, h3, h4⟩
  unfold visB at h2
  split at h2
  · exact .inl (by assumption)
  · exact .inr (.inl (by assumption))
  · exact .inr (.inr (by assumption))
  · cases h2
theorem s_var {i : Nat} {x : Str} {pos : Pos} (h : varB X.N X.env.scope i x = true) : PE X (.Name x pos) (tE call ea W (.var i)) := by
  obtain ⟨h1, h2, h3, h4⟩ := varB_ok h
  refine PE.imp (pe_var h1 h2 h3 h4) fun σ H Q ⟨c, rel, q⟩ => ?_
  simp only [ev] at q
  split at q
  · rename_i pv e
    obtain ⟨v, e1, r⟩ := rel.slot i _ e
    exact ⟨v, e1, q v H c (Step.refl rel.wf) rfl rfl r⟩
  · exact q.elim
theorem s_bor {i : Nat} {x : Str} {pos : Pos} (h : varB X.N X.env.scope i x = true) : PE X (.Name x pos) (tE call ea W (.bor i)) := by
  obtain ⟨h1, h2, h3, h4⟩ := varB_ok h
  refine PE.imp (pe_var h1 h2 h3 h4) fun σ H Q ⟨c, rel, q⟩ => ?_
  simp only [ev] at q
  split at q
  · rename_i d e
    obtain ⟨a, e1, nf, no, r⟩ := rel.slot i _ e
    exact ⟨.ref a, e1, q _ H c (Step.refl rel.wf) rfl rfl ⟨d, rfl, .inr ⟨a, rfl, no, r⟩⟩⟩
  · rename_i d e
    obtain ⟨v, e1, r⟩ := rel.slot i _ e
    exact ⟨v, e1, q _ H c (Step.refl rel.wf) rfl rfl ⟨d, rfl, r⟩⟩
  · exact q.elim
theorem s_tC {d : PyData} {e : Expr} {v : V} (hv : ∀ H fz, Rp H fz v d) (h : PE X e (tC v)) : PE X e (tE call ea W (.cst d)) :=
  PE.imp h fun σ H Q ⟨c, rel, q⟩ => q v H c (Step.refl rel.wf) rfl rfl (hv H c.fz)
theorem s_cst {d : PyData} {c : Const} {j : Nat} {pos : Pos} (h : cstB d c = true) : PE X (.Constant c j pos) (tE call ea W (.cst d)) := by
  cases d <;> cases c <;> simp only [cstB] at h <;> try contradiction
  · exact s_tC (fun _ _ => .non) pe_non
  · have e := beq_iff_eq.mp h
    subst e
    exact s_tC (fun _ _ => .bl _) pe_bl
  · have e := of_decide_eq_true h
    subst e
    exact s_tC (fun _ _ => .int _) pe_int
  · have e := of_decide_eq_true h
    subst e
    exact s_tC (fun _ _ => .str _) pe_str
theorem sameD_eq {d e : PyData} (h : sameD d e = true) : d = e := by
  cases d <;> cases e <;> simp only [sameD] at h <;> try contradiction
  · rfl
  · rw [beq_iff_eq.mp h]
  · rw [of_decide_eq_true h]
  · rw [of_decide_eq_true h]
theorem s_glb (g : Gd G call ea k W X) {d d' : PyData} {x : Str} {pos : Pos} (h : glB X.env.scope x = true) (h1 : G.cst x = some d') (h2 : sameD d d' = true) : PE X (.Name x pos) (tE call ea W (.cst d)) := by
  obtain ⟨q1, q2, q3⟩ := glB_gl h
  cases sameD_eq h2
  obtain ⟨v, u, e1, e2, e3⟩ := g.cst x d h1
  exact s_tC e3 (pe_glob q1 e1 e2 q2)
theorem t_op2 {p : P2} {a b : Ex} {σ : L2.St} {H : Hp} {Q : VK} (q : tE call ea W (.op2 p a b) σ H Q) : tOp (r2 p) (tE call ea W a) (tE call ea W b) σ H Q := by
  obtain ⟨c, rel, q⟩ := q
  simp only [ev] at q
  refine tE.dat rel q fun d os x H1 c1 _ s1 e1 o1 rel1 r1 _ q1 => ?_
  rw [← e1, ← o1] at q1
  refine tE.dat rel1 q1 fun d' os' y H2 c2 _ s2 e2 o2 rel2 r2 _ q2 => ?_
  cases hz : d2 p d d' with
  | none => rw [hz] at q2; exact q2.elim
  | some z =>
    rw [hz] at q2
    exact ⟨c2, d, d', z, rel2.wf, (r1.step s2 rel1.wf).ro, r2.ro, hz, q2.po o2⟩
theorem s_bin {p : P2} {op : Operator} {a b : Ex} {a' b' : Expr} {pos : Pos} (h : binOf p = some op) (ha : PE X a' (tE call ea W a)) (hb : PE X b' (tE call ea W b)) : PE X (.BinOp a' op b' pos) (tE call ea W (.op2 p a b)) :=
  PE.imp (pe_op (op2_bin h) ha hb) fun _ _ _ q => t_op2 q
theorem s_cmp (g : Gd G call ea k W X) {p : P2} {op : CmpOp} {a b : Ex} {a' b' : Expr} {pos : Pos} (h : cmpOf p = some op) (hm : behindInMarks op b' = false) (ha : PE X a' (tE call ea W a)) (hb : PE X b' (tE call ea W b)) : PE X (.Compare a' [op] [b'] pos) (tE call ea W (.op2 p a b)) :=
  PE.imp (pe_cmpR (op2_cmp g.hu h) ha hb hm) fun _ _ _ q => t_op2 q
theorem tT_of {e : Ex} {t : TE} (hb : isBor e = false) (h : ∀ σ H Q, tE call ea W e σ H Q → t σ H Q) {σ : L2.St} {H : Hp} {Q : Bool → Hp → Prop} (q : tT call ea W e σ H Q) : t σ H (fun x H1 => ∃ k, x = .bl k ∧ Q k H1) := by
  obtain ⟨c, rel, q⟩ := q
  refine h _ _ _ ⟨c, rel, ?_⟩
  match hv : ev call e c.env c.os, q with
  | .ok (.d (.bool k)) os, q => exact fun x H' c' s e o r => ⟨k, r.roc.ro.bool, q H' c' s e o⟩
  | .er ex os, q => exact q
theorem t_cmp (g : Gd G call ea k W X) {p : P2} {op : CmpOp} {a b : Ex} {a' b' : Expr} {pos : Pos} (h : cmpOf p = some op) (hm : behindInMarks op b' = false) (ha : PE X a' (tE call ea W a)) (hb : PE X b' (tE call ea W b)) : PT X (.Compare a' [op] [b'] pos) (tT call ea W (.op2 p a b)) :=
  PT.imp (pt_cmpR (op2_cmp g.hu h) ha hb hm) fun _ _ _ q => tT_of rfl (fun _ _ _ q => t_op2 q) q
theorem plainIxB_ok {b : Expr} (h : plainIxB b = true) : PlainIx b := by
  cases b <;> simp only [plainIxB] at h <;> first | contradiction | exact fun _ _ => rfl
theorem s_idx (g : Gd G call ea k W X) {a b : Ex} {a' b' : Expr} {pos : Pos} (h : plainIxB b' = true) (ha : PE X a' (tE call ea W a)) (hb : PE X b' (tE call ea W b)) : PE X (.Subscript a' b' pos) (tE call ea W (.op2 .idx a b)) :=
  PE.imp (pe_ix (ix2 g.hu) ha hb (plainIxB_ok h)) fun _ _ _ q => t_op2 q
end
end FC
end
section
set_option Elab.async false
set_option linter.all false
set_option maxRecDepth 100000
set_option maxHeartbeats 4000000
namespace FC
open PySem L2 PyProof.Rows
section
variable [EA]
variable {X : Cx}
theorem pairs_rp {K : PySem.W.Frag} {H : Hp} {fz : Addr → Prop} : ∀ {ds : List PyData} {kd : List (PyData × PyData)} {ys : List V}, pairsD ds = some kd → RpA H fz ys ds →
    ∃ (ps : List Addr) (kvs : List (Key × V)), ys = ps.map V.ref ∧ Paired (fun p (kv : Key × V) => SqT K H p [kV kv.1, kv.2]) ps kvs ∧ RpK H fz kvs kd
  | [], kd, ys, e, r => by
    cases e
    cases r
    exact ⟨[], [], rfl, .nil, .nil⟩
  | .tuple [k, v] :: ds, kd, ys, e, r => by
    simp only [pairsD] at e
    split at e
    · rename_i hk
      simp only [Option.map_eq_some_iff] at e
      obtain ⟨kd', e1, rfl⟩ := e
      cases r with
      | cons r t =>
        obtain ⟨ps, kvs, h1, h2, h3⟩ := pairs_rp (K := K) e1 t
        cases r with
        | tup ha rr =>
          cases rr with
          | cons rk rr =>
            cases rr with
            | cons rv rr =>
              cases rr
              obtain ⟨kk, rfl⟩ := isKey_key hk
              have hx := Ro.key (.inl rk)
              subst hx
              exact ⟨_ :: ps, (kk, _) :: kvs, by rw [h1]; rfl, .cons ha.sq h2, .cons rv h3⟩
    · cases e
  | .none :: _, _, _, e, _ => by simp [pairsD] at e
  | .bool _ :: _, _, _, e, _ => by simp [pairsD] at e
  | .int _ :: _, _, _, e, _ => by simp [pairsD] at e
  | .str _ :: _, _, _, e, _ => by simp [pairsD] at e
  | .list _ :: _, _, _, e, _ => by simp [pairsD] at e
  | .dict _ :: _, _, _, e, _ => by simp [pairsD] at e
  | .tuple [] :: _, _, _, e, _ => by simp [pairsD] at e
  | .tuple [_] :: _, _, _, e, _ => by simp [pairsD] at e
  | .tuple (_ :: _ :: _ :: _) :: _, _, _, e, _ => by simp [pairsD] at e
theorem c1_dict (hc : X.calm = true) : CallR X (.type "dict") (r1 .dict) := by
  intro ps sh sl H xs us Q I r ⟨c, x, d, z, e, w, hd, hz, hq⟩
  subst e
  cases d with
  | list ds =>
    obtain ⟨a, ys, rfl, h1, r1⟩ := hd.list
    simp only [d1] at hz
    split at hz
    · simp only [Option.map_eq_some_iff] at hz
      obtain ⟨kd, e1, rfl⟩ := hz
      obtain ⟨Ts, kvs, rfl, h2, h3⟩ := pairs_rp (K := X.K) e1 r1
      exact call_dictP hc ps sh sl H _ us Q I r ⟨a, Ts, kvs, rfl, SqL.of h1, h2, hq.dct w (RpK.merge .nil h3)⟩
    · cases hz
  | _ => simp [d1] at hz
end
end FC
end
section
set_option Elab.async false
set_option linter.all false
set_option maxRecDepth 100000
set_option maxHeartbeats 2000000
namespace FC
open PySem L2 PyProof.Rows
variable [EA]
section
variable {G : Glob} {call : CallT} {ea : Nat → Addr} {k : Nat} {W : XK} {X : Cx}
theorem star_no {e : Expr} (h : stE e = false) (es : List Expr) (env : Env) : starEach (e :: es) env = (false, eval e env) :: starEach es env := by
  cases e <;> first | rfl | (simp [stE] at h)
theorem back_no {pos : Pos} : ∀ {es : List Expr} {env : Env}, (∀ e ∈ es, stE e = false) → (backTo pos (starEach es env)).any (·.1) = false
  | [], _, _ => rfl
  | e :: es, env, h => by
    rw [star_no (h e (by simp))]
    show (false || (backTo pos (starEach es env)).any (·.1)) = false
    rw [back_no fun x hx => h x (by simp [hx])]
    rfl
theorem t_op1 {p : P1} {a : Ex} {σ : L2.St} {H : Hp} {Q : VK} (q : tE call ea W (.op1 p a) σ H Q) : tE call ea W a σ H (fun x H1 => r1 p [x] H1 Q) := by
  obtain ⟨c, rel, q⟩ := q
  simp only [ev] at q
  refine tE.dat rel q fun d os x H1 c1 _ s1 e1 o1 rel1 r1 _ q1 => ?_
  cases hz : d1 p d with
  | none => rw [hz] at q1; exact q1.elim
  | some z =>
    rw [hz] at q1
    exact ⟨c1, x, d, z, rfl, rel1.wf, r1.ro, hz, q1.po o1⟩
theorem un2 : UnR X (unaryOp .USub) (fun x H Q => r1 .neg [x] H Q) := by
  intro ps sh sl H x v Q I rx ⟨c, x', d, z, e, w, hd, hz, hq⟩
  cases e
  cases d <;> simp only [d1] at hz <;> try contradiction
  cases hz
  obtain rfl := hd.int
  exact un_neg ps sh sl H _ v Q I rx ⟨_, rfl, hq.here w (.int _)⟩
theorem s_neg {a : Ex} {a' : Expr} {pos : Pos} (ha : PE X a' (tE call ea W a)) : PE X (.UnaryOp .USub a' pos) (tE call ea W (.op1 .neg a)) :=
  PE.imp (pe_un un2 ha) fun _ _ _ q => t_op1 q
theorem pa_one {e : Expr} {t : TE} (h : PE X e t) (hs : stE e = false) : PA X [e] (tCons t tNil) := pa_cons h pa_nil (star_no hs _ _)
theorem s_call1 (g : Gd G call ea k W X) {p : P1} {a : Ex} {a' : Expr} {f : Str} {fp pos : Pos} (hg : glB X.env.scope f = true) (hp : blt1 p = some f ∨ typ1 p = some f) (hs : stE a' = false) (ha : PE X a' (tE call ea W a)) :
    PE X (.Call (.Name f fp) [a'] [] pos) (tE call ea W (.op1 p a)) := by
  obtain ⟨q1, q2, q3⟩ := glB_gl hg
  have fin : ∀ {t : TE}, PE X (.Call (.Name f fp) [a'] [] pos) t → (∀ σ H Q, tE call ea W a σ H (fun x H1 => r1 p [x] H1 Q) → t σ H Q) → PE X (.Call (.Name f fp) [a'] [] pos) (tE call ea W (.op1 p a)) := fun h1 h2 => PE.imp h1 fun _ _ _ q => h2 _ _ _ (t_op1 q)
  have hst := star_no hs [] X.env
  have m : f ∈ bltNames → X.mg f = none := g.blt f
  rcases hp with hp | hp
  · cases p <;> simp only [blt1] at hp <;> (try contradiction) <;> cases hp
    · exact fin (pe_callB c1_len q1 (m (by decide)) boot_len (pa_one ha hs) q3 q2 hst rfl) fun _ _ _ q => q
    · exact fin (pe_callB (c1_repr g.gu g.hu) q1 (m (by decide)) boot_repr (pa_one ha hs) q3 q2 hst rfl) fun _ _ _ q => q
    · exact fin (pe_callB (c1_sorted g.hu) q1 (m (by decide)) boot_sorted (pa_one ha hs) q3 q2 hst rfl) fun _ _ _ q => q
    · exact fin (pe_callB (c1_all g.calm) q1 (m (by decide)) boot_all (pa_one ha hs) q3 q2 hst rfl) fun _ _ _ q => q
    · exact fin (pe_callB (c1_any g.calm) q1 (m (by decide)) boot_any (pa_one ha hs) q3 q2 hst rfl) fun _ _ _ q => q
    · exact fin (pe_callB (c1_sum g.calm) q1 (m (by decide)) boot_sum (pa_one ha hs) q3 q2 hst rfl) fun _ _ _ q => q
    · exact fin (pe_callB (c1_min g.calm) q1 (m (by decide)) boot_min (pa_one ha hs) q3 q2 hst rfl) fun _ _ _ q => q
    · exact fin (pe_callB (c1_max g.calm) q1 (m (by decide)) boot_max (pa_one ha hs) q3 q2 hst rfl) fun _ _ _ q => q
  · cases p <;> simp only [typ1] at hp <;> (try contradiction) <;> cases hp
    · exact fin (pe_callTy (c1_list g.calm) q1 (m (by decide)) boot_list (pa_one ha hs) q3 q2 hst rfl) fun _ _ _ q => q
    · exact fin (pe_callTy c1_tuple q1 (m (by decide)) boot_tuple (pa_one ha hs) q3 q2 hst rfl) fun _ _ _ q => q
    · exact fin (pe_callTy c1_str q1 (m (by decide)) boot_str (pa_one ha hs) q3 q2 hst rfl) fun _ _ _ q => q
    · exact fin (pe_callTy (c1_dict g.calm) q1 (m (by decide)) boot_dict (pa_one ha hs) q3 q2 hst rfl) fun _ _ _ q => q
theorem s_isi (g : Gd G call ea k W X) {T : String} {a : Ex} {a' : Expr} {f t : Str} {fp tp pos : Pos} (hg : glB X.env.scope f = true) (hgt : glB X.env.scope t = true) (hf : f = "isinstance") (ht : t = Str.ofString T) (hT : T = "int" ∨ T = "bool" ∨ T = "tuple" ∨ T = "str" ∨ T = "list") (hs : stE a' = false) (ha : PE X a' (tE call ea W a)) :
    PE X (.Call (.Name f fp) [a', .Name t tp] [] pos) (tE call ea W (.op1 (.isi T) a)) := by
  obtain ⟨q1, q2, q3⟩ := glB_gl hg
  obtain ⟨u1, u2, u3⟩ := glB_gl hgt
  have ht' : ∃ u, bootBuiltins t = some u ∧ u = Value.type T ∧ X.mg t = none := by
    rcases hT with rfl | rfl | rfl | rfl | rfl
    · exact ⟨_, by rw [ht]; exact boot_int, rfl, g.blt t (by rw [ht]; decide)⟩
    · exact ⟨_, by rw [ht]; exact boot_bool, rfl, g.blt t (by rw [ht]; decide)⟩
    · exact ⟨_, by rw [ht]; exact boot_tuple, rfl, g.blt t (by rw [ht]; decide)⟩
    · exact ⟨_, by rw [ht]; exact boot_str, rfl, g.blt t (by rw [ht]; decide)⟩
    · exact ⟨_, by rw [ht]; exact boot_list, rfl, g.blt t (by rw [ht]; decide)⟩
  obtain ⟨u, b1, b2, b3⟩ := ht'
  subst b2
  have pT : PE X (.Name t tp) (tC (.ty T)) := pe_bltn u1 b3 b1 rfl u3 u2
  have hm : X.mg f = none := g.blt f (by rw [hf]; decide)
  have hb : bootBuiltins f = some (.builtin "isinstance") := by rw [hf]; exact boot_isinstance
  refine PE.imp (pe_callB (c1_isi T) q1 hm hb (pa_cons ha (pa_one pT rfl) (star_no hs _ _)) q3 q2 (star_no hs _ _) rfl) fun σ H Q ⟨c, rel, q⟩ => ?_
  simp only [ev] at q
  refine tE.dat rel q fun d os x H1 c1 _ s1 e1 o1 rel1 r1 _ q1 => ?_
  cases hz : isiD T d with
  | none => simp only [d1, hz] at q1; exact q1.elim
  | some b =>
    simp only [d1, hz] at q1
    exact ⟨c1, x, d, b, rfl, rel1.wf, r1.ro, hz, (q1.po o1).here rel1.wf (.bl b)⟩
theorem s_call2 (g : Gd G call ea k W X) {p : P2} {a b : Ex} {a' b' : Expr} {f : Str} {fp pos : Pos} (hg : glB X.env.scope f = true) (hp : blt2 p = some f) (hs : stE a' = false) (hs2 : stE b' = false) (ha : PE X a' (tE call ea W a)) (hb : PE X b' (tE call ea W b)) :
    PE X (.Call (.Name f fp) [a', b'] [] pos) (tE call ea W (.op2 p a b)) := by
  obtain ⟨q1, q2, q3⟩ := glB_gl hg
  have m : f ∈ bltNames → X.mg f = none := g.blt f
  have hst := star_no hs [b'] X.env
  have hbk : (backTo pos (starEach [b'] X.env)).any (·.1) = false := back_no fun x hx => by simp at hx; subst hx; exact hs2
  have conv : ∀ σ H Q, tE call ea W (.op2 p a b) σ H Q → tE call ea W a σ H fun x H1 => tE call ea W b σ H1 fun y H2 => ∃ (c : Cfg) (x' y' : V) (d e z : PyData), [x, y] = [x', y'] ∧ WF H2 c ∧ Ro H2 c.fz x' d ∧ Ro H2 c.fz y' e ∧ d2 p d e = some z ∧ Po c H2 z Q := fun σ H Q q => by
    have z := t_op2 q
    obtain ⟨c, rel, z⟩ := z
    refine ⟨c, rel, z.mono fun x H1 ⟨c1, rel1, z1⟩ => ⟨c1, rel1, z1.mono fun y H2 ⟨c2, d, e, zz, w, h1, h2, h3, h4⟩ => ⟨c2, x, y, d, e, zz, rfl, w, h1, h2, h3, h4⟩⟩⟩
  cases p <;> simp only [blt2] at hp <;> (try contradiction) <;> cases hp
  · exact PE.imp (pe_callB (c2_min g.calm) q1 (m (by decide)) boot_min (pa_cons ha (pa_one hb hs2) hst) q3 q2 hst hbk) conv
  · exact PE.imp (pe_callB (c2_max g.calm) q1 (m (by decide)) boot_max (pa_cons ha (pa_one hb hs2) hst) q3 q2 hst hbk) conv
theorem tE.o {e : Option Ex} {e' : Option Expr} (h : ∀ a a', e = some a → e' = some a' → PE X a' (tE call ea W a)) (hn : e.isSome = e'.isSome) :
    PO X e' (fun σ H Q => ∃ c, Rel c σ H ∧ match evO call e c.env c.os with
      | .ok v os => ∀ (H' : Hp) (c' : Cfg), Step c H c' H' → c'.env = c.env → c'.os = os → Q v H'
      | .er ex os => ∀ (cls : Value) (d : Option Addr) (H' : Hp) (c' : Cfg), Step c H c' H' → c'.env = c.env → c'.os = os → RpX ea c' H' cls d ex → W cls d H'
      | .st => False) := by
  cases e with
  | none =>
    cases e' with
    | none => exact ⟨fun ps s σ H Q I ⟨c, rel, q⟩ => po_none.run ps s σ H Q I (q H c (Step.refl rel.wf) rfl rfl)⟩
    | some _ => cases hn
  | some a =>
    cases e' with
    | none => cases hn
    | some a' =>
      refine ⟨fun ps s σ H Q I ⟨c, rel, q⟩ => (po_some (h a a' rfl rfl)).run ps s σ H Q I ⟨c, rel, ?_⟩⟩
      simp only [evO] at q
      match hv : ev call a c.env c.os, q with
      | .ok (.d (.int i)) os, q => exact fun x H' c' s e o r => ⟨i, r.roc.ro.int, q H' c' s e o⟩
      | .er ex os, q => exact q
theorem s_slc {a : Ex} {lo hi : Option Ex} {a' : Expr} {lo' hi' : Option Expr} {p2 pos : Pos} (ha : PE X a' (tE call ea W a)) (h1 : ∀ b b', lo = some b → lo' = some b' → PE X b' (tE call ea W b)) (n1 : lo.isSome = lo'.isSome)
    (h2 : ∀ b b', hi = some b → hi' = some b' → PE X b' (tE call ea W b)) (n2 : hi.isSome = hi'.isSome) : PE X (.Subscript a' (.Slice lo' hi' none p2) pos) (tE call ea W (.slc a lo hi)) := by
  refine PE.imp (pe_slice sl2 ha (tE.o h1 n1) (tE.o h2 n2)) fun σ H Q ⟨c, rel, q⟩ => ?_
  simp only [ev] at q
  refine tE.dat rel q fun d os x H1 c1 _ s1 e1 o1 rel1 r1 _ q1 => ⟨c1, rel1, ?_⟩
  rw [← e1, ← o1] at q1
  cases hl : evO call lo c1.env c1.os with
  | ok l os2 =>
    rw [hl] at q1
    refine fun H2 c2 s2 e2 o2 => ⟨c2, rel1.step s2 e2, ?_⟩
    have q2 := q1.after s2 e2
    rw [← e2, ← o2] at q2
    simp only [R.bind] at q2
    cases hh : evO call hi c2.env c2.os with
    | ok h os3 =>
      rw [hh] at q2
      refine fun H3 c3 s3 e3 o3 => ?_
      have q3 := q2.after s3 e3
      have r3 : RoC c3 H3 x d := (r1.step s2 rel1.wf).step s3 s2.wf
      refine ⟨c3, d, s3.wf, r3.ro, ?_⟩
      cases d with
      | list xs => exact .inl ⟨xs, rfl, PoE.po q3 o3⟩
      | tuple xs => exact .inr ⟨xs, rfl, PoE.po q3 o3⟩
      | _ => exact q3.elim
    | er ex os3 =>
      rw [hh] at q2
      exact q2
    | st => rw [hh] at q2; exact q2
  | er ex os2 => rw [hl] at q1; exact q1
  | st => rw [hl] at q1; exact q1
theorem t_chain {p q : P2} {a b d : Ex} {σ : L2.St} {H : Hp} {Q : VK} (h : tE call ea W (.chain p q a b d) σ H Q) (hb : ∀ x y z, d2 p x y = some z → ∃ k, z = .bool k) : tChain (r2 p) (r2 q) (tE call ea W a) (tE call ea W b) (tE call ea W d) σ H Q := by
  obtain ⟨c, rel, h⟩ := h
  simp only [ev] at h
  refine tE.dat rel h fun x os vx H1 c1 _ s1 e1 o1 rel1 r1 _ h1 => ?_
  rw [← e1, ← o1] at h1
  refine tE.dat rel1 h1 fun y os2 vy H2 c2 _ s2 e2 o2 rel2 r2 _ h2 => ?_
  cases hz : d2 p x y with
  | none => rw [hz] at h2; exact h2.elim
  | some z =>
    obtain ⟨kb, rfl⟩ := hb x y z hz
    refine ⟨c2, x, y, _, rel2.wf, (r1.step s2 rel1.wf).ro, r2.ro, hz, fun v H3 c3 s3 e3 o3 r3 => ?_⟩
    rw [hz] at h2
    cases r3
    refine ⟨kb, rfl, ?_⟩
    cases kb with
    | false =>
      rw [if_neg Bool.false_ne_true]
      exact h2 _ H3 c3 s3 e3 (o3.trans o2) (.bl false)
    | true =>
      rw [if_pos rfl]
      have h3 := PoE.after s3 e3 h2
      rw [← e2] at h3
      have hr3 := rel2.step s3 e3
      rw [← e3, ← o2, ← o3] at h3
      refine tE.dat hr3 h3 fun w os4 vw H4 c4 _ s4 e4 o4 rel4 r4 _ h4 => ?_
      cases hq : d2 q y w with
      | none => rw [hq] at h4; exact h4.elim
      | some z =>
        rw [hq] at h4
        exact ⟨c4, y, w, z, rel4.wf, ((r2.step s3 rel2.wf).step s4 hr3.wf).ro, r4.ro, hq, h4.po o4⟩
theorem cmp_bool {p : P2} {op : CmpOp} (h : cmpOf p = some op) : ∀ x y z, d2 p x y = some z → ∃ k, z = .bool k := by
  intro x y z hz
  cases p <;> simp only [cmpOf] at h <;> try contradiction
  · simp only [d2] at hz; split at hz <;> cases hz; exact ⟨_, rfl⟩
  · simp only [d2] at hz; split at hz <;> cases hz; exact ⟨_, rfl⟩
  · simp only [d2, Option.map_eq_some_iff] at hz; obtain ⟨b, _, rfl⟩ := hz; exact ⟨b, rfl⟩
  · cases x <;> cases y <;> simp only [d2] at hz <;> (try contradiction) <;> cases hz <;> exact ⟨_, rfl⟩
  · unfold d2 at hz; split at hz <;> (try contradiction) <;> cases hz <;> exact ⟨_, rfl⟩
  · cases x <;> cases y <;> simp only [d2] at hz <;> (try contradiction) <;> cases hz <;> exact ⟨_, rfl⟩
  · simp only [d2, Option.map_eq_some_iff] at hz; obtain ⟨b, _, rfl⟩ := hz; exact ⟨b, rfl⟩
  · simp only [d2, Option.map_eq_some_iff] at hz; obtain ⟨b, _, rfl⟩ := hz; exact ⟨_, rfl⟩
theorem s_chain (g : Gd G call ea k W X) {p q : P2} {o1 o2 : CmpOp} {a b d : Ex} {a' b' d' : Expr} {pos : Pos} (h1 : cmpOf p = some o1) (h2 : cmpOf q = some o2) (hm : lastMarks [o1, o2] [b', d'] = false) (ha : PE X a' (tE call ea W a)) (hb : PE X b' (tE call ea W b)) (hd : PE X d' (tE call ea W d)) :
    PE X (.Compare a' [o1, o2] [b', d'] pos) (tE call ea W (.chain p q a b d)) ∧ PT X (.Compare a' [o1, o2] [b', d'] pos) (tT call ea W (.chain p q a b d)) :=
  ⟨PE.imp (pe_chain (op2_cmp g.hu h1) (op2_cmp g.hu h2) ha hb hd hm) fun _ _ _ q => t_chain q (cmp_bool h1),
   PT.imp (pt_chain (op2_cmp g.hu h1) (op2_cmp g.hu h2) ha hb hd hm) fun _ _ _ q => tT_of rfl (fun _ _ _ q => t_chain q (cmp_bool h1)) q⟩
end
end FC
end
section
set_option Elab.async false
set_option linter.all false
set_option maxRecDepth 100000
set_option maxHeartbeats 2000000
namespace FC
open PySem L2 PyProof.Rows
variable [EA]
section
variable {G : Glob} {call : CallT} {ea : Nat → Addr} {k : Nat} {W : XK} {X : Cx}
theorem PoE.bl {σ : L2.St} {c : Cfg} {H : Hp} {Q : VK} {b : Bool} {os : Objs} (w : WF H c) (e : c.os = os) (h : PoE ea W false σ c H (.ok (.d (.bool b)) os) Q) : Q (.bl b) H := h _ H c (Step.refl w) rfl e (.bl b)
theorem s_nt {a : Ex} {a' : Expr} {pos : Pos} (ha : PE X a' (tE call ea W a)) : PE X (.UnaryOp .Not a' pos) (tE call ea W (.nt a)) :=
  PE.imp (pe_not ha) fun σ H Q ⟨c, rel, q⟩ => by
    simp only [ev] at q
    exact tE.bool rel q fun kb os H' c' s e o rel' q' => PoE.bl rel'.wf o q'
theorem t_nt {a : Ex} {a' : Expr} {pos : Pos} (ha : PT X a' (tT call ea W a)) : PT X (.UnaryOp .Not a' pos) (tT call ea W (.nt a)) :=
  PT.imp (pt_not ha) fun σ H Q ⟨c, rel, q⟩ => by
    refine ⟨c, rel, ?_⟩
    simp only [ev] at q
    match hv : ev call a c.env c.os, q with
    | .ok (.d (.bool kb)) os, q => exact fun H' c' s e o => q H' c' s e o
    | .er ex os, q => exact q
theorem t_anV {a b : Ex} {σ : L2.St} {H : Hp} {Q : VK} (q : tE call ea W (.an a b) σ H Q) : tAndV (tE call ea W a) (fun σ H Q => tE call ea W b σ H (fun x H1 => ∃ kb, x = .bl kb ∧ Q x H1)) σ H Q := by
  obtain ⟨c, rel, q⟩ := q
  simp only [ev] at q
  refine tE.bool rel q fun kb os H1 c1 s e o rel1 q1 => ?_
  cases kb with
  | false => rw [if_neg Bool.false_ne_true]; exact PoE.bl rel1.wf o q1
  | true =>
    rw [if_pos rfl] at q1 ⊢
    rw [← e, ← o] at q1
    have z := tE.bool rel1 q1 (Q' := fun kb H' => Q (.bl kb) H') fun kb os H2 c2 s2 e2 o2 rel2 q2 => PoE.bl rel2.wf o2 q2
    obtain ⟨c', r', z⟩ := z
    exact ⟨c', r', z.mono fun x H' ⟨kb, e, h⟩ => ⟨kb, e, by rw [e]; exact h⟩⟩
theorem t_orV {a b : Ex} {σ : L2.St} {H : Hp} {Q : VK} (q : tE call ea W (.orr a b) σ H Q) : tOrV (tE call ea W a) (fun σ H Q => tE call ea W b σ H (fun x H1 => ∃ kb, x = .bl kb ∧ Q x H1)) σ H Q := by
  obtain ⟨c, rel, q⟩ := q
  simp only [ev] at q
  refine tE.bool rel q fun kb os H1 c1 s e o rel1 q1 => ?_
  cases kb with
  | true => rw [if_pos rfl]; exact PoE.bl rel1.wf o q1
  | false =>
    rw [if_neg Bool.false_ne_true] at q1 ⊢
    rw [← e, ← o] at q1
    have z := tE.bool rel1 q1 (Q' := fun kb H' => Q (.bl kb) H') fun kb os H2 c2 s2 e2 o2 rel2 q2 => PoE.bl rel2.wf o2 q2
    obtain ⟨c', r', z⟩ := z
    exact ⟨c', r', z.mono fun x H' ⟨kb, e, h⟩ => ⟨kb, e, by rw [e]; exact h⟩⟩
theorem PE.weak {e : Expr} {b : Ex} (h : PE X e (tE call ea W b)) : PE X e (fun σ H Q => tE call ea W b σ H (fun x H1 => ∃ kb, x = .bl kb ∧ Q x H1)) :=
  PE.imp h fun σ H Q ⟨c, r, q⟩ => ⟨c, r, q.mono fun _ _ ⟨_, _, h⟩ => h⟩
theorem s_an {a b : Ex} {a' b' : Expr} {rest : List Expr} {pos : Pos} (ha : PE X a' (tE call ea W a)) (hb : PE X (.BoolOp .And (b' :: rest) pos) (tE call ea W b)) : PE X (.BoolOp .And (a' :: b' :: rest) pos) (tE call ea W (.an a b)) :=
  PE.imp (pe_and ha (PE.weak hb)) fun _ _ _ q => t_anV q
theorem s_or {a b : Ex} {a' b' : Expr} {rest : List Expr} {pos : Pos} (ha : PE X a' (tE call ea W a)) (hb : PE X (.BoolOp .Or (b' :: rest) pos) (tE call ea W b)) : PE X (.BoolOp .Or (a' :: b' :: rest) pos) (tE call ea W (.orr a b)) :=
  PE.imp (pe_or ha (PE.weak hb)) fun _ _ _ q => t_orV q
theorem tT.two {a : Ex} {r : R PV} {f : Bool → Objs → R PV} {σ : L2.St} {H : Hp} {c : Cfg} {Q Q' : Bool → Hp → Prop} (rel : Rel c σ H) (q : PoT ea W σ c H ((ev call a c.env c.os).bool f) Q)
    (hk : ∀ kb os H1 c1, Step c H c1 H1 → c1.env = c.env → c1.os = os → Rel c1 σ H1 → PoT ea W σ c1 H1 (f kb os) Q → Q' kb H1) : tT call ea W a σ H Q' := by
  refine ⟨c, rel, ?_⟩
  match hv : ev call a c.env c.os, q with
  | .ok (.d (.bool kb)) os, q => exact fun H' c' s e o => hk kb os H' c' s e o (rel.step s e) (q.after s e)
  | .er ex os, q => exact q
theorem PW.imp {X : Cx} {e : Expr} {t t' : TT} (h : PW X e t) (f : ∀ σ H Q, t' σ H Q → t σ H Q) : PW X e t' := ⟨fun wh ps s σ H Q I q => h.run wh ps s σ H Q I (f _ _ _ q)⟩
theorem PoT.bl {σ : L2.St} {c : Cfg} {H : Hp} {Q : Bool → Hp → Prop} {b : Bool} {os : Objs} (w : WF H c) (e : c.os = os) (h : PoT ea W σ c H (.ok (.d (.bool b)) os) Q) : Q b H := h H c (Step.refl w) rfl e
theorem tT.last {b : Ex} {σ : L2.St} {H : Hp} {c : Cfg} {Q : Bool → Hp → Prop} (rel : Rel c σ H) (q : PoT ea W σ c H ((ev call b c.env c.os).bool fun y os2 => .ok (.d (.bool y)) os2) Q) : tT call ea W b σ H Q :=
  tT.two (r := .st) rel q fun kb os H1 c1 s e o rel1 q1 => PoT.bl rel1.wf o q1
theorem t_an {a b : Ex} {a' b' : Expr} {rest : List Expr} {pos : Pos} (ha : PT X a' (tT call ea W a)) (hb : PW X (.BoolOp .And (b' :: rest) pos) (tT call ea W b)) : PW X (.BoolOp .And (a' :: b' :: rest) pos) (tT call ea W (.an a b)) :=
  PW.imp (pw_and ha hb) fun σ H Q ⟨c, rel, q⟩ => by
    simp only [ev] at q
    refine tT.two (r := .st) rel q fun kb os H1 c1 s e o rel1 q1 => ?_
    cases kb with
    | false => rw [if_neg Bool.false_ne_true] at q1 ⊢; exact PoT.bl rel1.wf o q1
    | true =>
      rw [if_pos rfl] at q1 ⊢
      rw [← e, ← o] at q1
      exact tT.last rel1 q1
theorem t_or {a b : Ex} {a' b' : Expr} {rest : List Expr} {pos : Pos} (ha : PT X a' (tT call ea W a)) (hb : PW X (.BoolOp .Or (b' :: rest) pos) (tT call ea W b)) : PW X (.BoolOp .Or (a' :: b' :: rest) pos) (tT call ea W (.orr a b)) :=
  PW.imp (pw_or ha hb) fun σ H Q ⟨c, rel, q⟩ => by
    simp only [ev] at q
    refine tT.two (r := .st) rel q fun kb os H1 c1 s e o rel1 q1 => ?_
    cases kb with
    | true => rw [if_pos rfl] at q1 ⊢; exact PoT.bl rel1.wf o q1
    | false =>
      rw [if_neg Bool.false_ne_true] at q1 ⊢
      rw [← e, ← o] at q1
      exact tT.last rel1 q1
theorem s_ite {a b d : Ex} {a' b' d' : Expr} {pos : Pos} (h1 : isBor a = false) (h2 : isBor b = false) (hd : PT X d' (tT call ea W d)) (ha : PE X a' (tE call ea W a)) (hb : PE X b' (tE call ea W b)) : PE X (.IfExp d' a' b' pos) (tE call ea W (.ite d a b)) :=
  PE.imp (pe_ifExp hd ha hb) fun σ H Q ⟨c, rel, q⟩ => by
    simp only [ev] at q
    refine tT.bool rel q fun kb os H1 c1 s e o rel1 q1 => ?_
    cases kb with
    | true =>
      rw [if_pos rfl] at q1 ⊢
      exact tE.set rel1 e o (by rw [h1]; exact q1)
    | false =>
      rw [if_neg Bool.false_ne_true] at q1 ⊢
      exact tE.set rel1 e o (by rw [h2]; exact q1)
theorem RoC.isN {c : Cfg} {H : Hp} {x : V} {d : PyData} (h : RoC c H x d) : decide (x = .non) = isNoneD d := by
  rcases h with h | ⟨a, rfl, _, h⟩
  · cases h <;> rfl
  · cases d <;> first | rfl | exact h.elim
theorem tE.nul {e : Ex} {f : Bool → Objs → R PV} {c : Cfg} {σ : L2.St} {H : Hp} {Q : VK} (rel : Rel c σ H) (h : PoE ea W false σ c H ((ev call e c.env c.os).nul f) Q) {Q' : VK}
    (hk : ∀ (k : Bool) os x H' c', Step c H c' H' → c'.env = c.env → c'.os = os → Rel c' σ H' → decide (x = .non) = k → PoE ea W false σ c' H' (f k os) Q → Q' x H') : tE call ea W e σ H Q' := by
  refine ⟨c, rel, ?_⟩
  cases hv : ev call e c.env c.os with
  | ok v os =>
    rw [hv] at h
    cases v with
    | d d =>
      intro x H' c' s e1 o r
      exact hk _ os x H' c' s e1 o (rel.step s e1) r.roc.isN (h.after s e1)
    | o n =>
      intro x H' c' s e1 o r
      have hx : ∃ a, x = .ref a := by
        cases hb : isBor e with
        | true => rw [hb] at r; obtain ⟨d, z, _⟩ := r; cases z
        | false => rw [hb] at r; obtain ⟨a, _, rfl⟩ := r; exact ⟨a, rfl⟩
      obtain ⟨a, rfl⟩ := hx
      exact hk false os (.ref a) H' c' s e1 o (rel.step s e1) rfl (h.after s e1)
    | s n => exact h.elim
    | x n m => exact h.elim
    | xs n => exact h.elim
  | er ex os => rw [hv] at h; exact h
  | st => rw [hv] at h; exact h
theorem tN_eq {a : Ex} {σ : L2.St} {H : Hp} {Q : VK} (q : tE call ea W (.isN a) σ H Q) : tIsN (tE call ea W a) σ H Q := by
  obtain ⟨c, rel, q⟩ := q
  simp only [ev] at q
  refine tE.nul rel q fun k os x H1 c1 s1 e1 o1 rel1 r1 q1 => ?_
  rw [r1]
  exact PoE.bl rel1.wf o1 q1
theorem tN_ne {a : Ex} {σ : L2.St} {H : Hp} {Q : VK} (q : tE call ea W (.nN a) σ H Q) : tNotN (tE call ea W a) σ H Q := by
  obtain ⟨c, rel, q⟩ := q
  simp only [ev] at q
  refine tE.nul rel q fun k os x H1 c1 s1 e1 o1 rel1 r1 q1 => ?_
  rw [r1]
  exact PoE.bl rel1.wf o1 q1
theorem s_isN {a : Ex} {a' : Expr} {j : Nat} {p pos : Pos} (ha : PE X a' (tE call ea W a)) : PE X (.Compare a' [.Is] [.Constant .none j p] pos) (tE call ea W (.isN a)) ∧ PT X (.Compare a' [.Is] [.Constant .none j p] pos) (tT call ea W (.isN a)) :=
  ⟨PE.imp (pe_cmp (pc_isN ha)) fun _ _ _ q => tN_eq q, PT.imp (pt_cmp (pc_isN ha)) fun _ _ _ q => tT_of rfl (fun _ _ _ q => tN_eq q) q⟩
theorem s_nN {a : Ex} {a' : Expr} {j : Nat} {p pos : Pos} (ha : PE X a' (tE call ea W a)) : PE X (.Compare a' [.IsNot] [.Constant .none j p] pos) (tE call ea W (.nN a)) ∧ PT X (.Compare a' [.IsNot] [.Constant .none j p] pos) (tT call ea W (.nN a)) :=
  ⟨PE.imp (pe_cmp (pc_notN ha)) fun _ _ _ q => tN_ne q, PT.imp (pt_cmp (pc_notN ha)) fun _ _ _ q => tT_of rfl (fun _ _ _ q => tN_ne q) q⟩
theorem s_nil : PA X [] (tA call ea W []) := PA.imp pa_nil fun σ H Q ⟨c, rel, q⟩ => q [] H c (Step.refl rel.wf) rfl rfl .nil
theorem evs_cons {a : Ex} {as : List Ex} {env : PEnv} {os : Objs} (h : isStar a = false) : evs call (a :: as) env os = (ev call a env os).bind fun x os1 => (evs call as env os1).bind fun xs os2 => .ok (x :: xs) os2 := by
  cases a <;> first | rfl | (simp [isStar] at h)
theorem s_cons {a : Ex} {as : List Ex} {e : Expr} {es : List Expr} (hs : isStar a = false) (hb : isBor a = false) (hst : stE e = false) (ha : PE X e (tE call ea W a)) (hr : PA X es (tA call ea W as)) : PA X (e :: es) (tA call ea W (a :: as)) := by
  refine PA.imp (pa_cons ha hr (star_no hst _ _)) fun σ H Q ⟨c, rel, q⟩ => ⟨c, rel, ?_⟩
  rw [evs_cons hs] at q
  cases hv : ev call a c.env c.os with
  | ok v os =>
    rw [hv] at q
    intro x H1 c1 s1 e1 o1 r1
    rw [hb] at r1
    have rel1 := rel.step s1 e1
    have q1 := q.after s1 e1
    simp only [R.bind] at q1
    rw [← e1, ← o1] at q1
    refine ⟨c1, rel1, ?_⟩
    cases hw : evs call as c1.env c1.os with
    | ok vs os2 =>
      rw [hw] at q1
      exact fun xs H2 c2 s2 e2 o2 r2 => q1 (x :: xs) H2 c2 s2 e2 o2 (.cons (Rpv.step s2 rel1.wf r1) r2)
    | er ex os2 => rw [hw] at q1; exact q1
    | st => rw [hw] at q1; exact q1
  | er ex os => rw [hv] at q; exact q
  | st => rw [hv] at q; exact q
theorem s_star {a : Ex} {as : List Ex} {e : Expr} {es : List Expr} {p : Pos} (ha : PE X e (tE call ea W a)) (hr : PA X es (tA call ea W as)) : PA X (.Starred e p :: es) (tA call ea W (.star a :: as)) := by
  refine PA.imp (StX.pa_star ha hr) fun σ H Q ⟨c, rel, q⟩ => ⟨c, rel, ?_⟩
  simp only [evs] at q
  match hv : ev call a c.env c.os, q with
  | .ok (.d d) os, q =>
    intro x H1 c1 s1 e1 o1 r1
    have rel1 := rel.step s1 e1
    have q1 := q.after s1 e1
    cases hq : seqD d with
    | none => simp only [R.dat, hq] at q1; exact q1.elim
    | some ds =>
      simp only [R.dat, hq] at q1
      rw [← e1, ← o1] at q1
      have hx : ∃ a xs, x = .ref a ∧ (SqT X.K H1 a xs ∨ SqL X.K H1 a xs) ∧ RpA H1 c1.fz xs ds := by
        cases d <;> simp only [seqD] at hq <;> (try contradiction) <;> cases hq
        · obtain ⟨a, xs, e, h, r⟩ := r1.roc.ro.list; exact ⟨a, xs, e, .inr (SqL.of h), r⟩
        · obtain ⟨a, xs, e, h, r⟩ := r1.roc.ro.tup; exact ⟨a, xs, e, .inl h.sq, r⟩
      obtain ⟨ad, xs, ex, hsq, rx⟩ := hx
      refine ⟨ad, xs, ex, hsq, c1, rel1, ?_⟩
      cases hw : evs call as c1.env c1.os with
      | ok vs os2 =>
        rw [hw] at q1
        exact fun ys H2 c2 s2 e2 o2 r2 => q1 (xs ++ ys) H2 c2 s2 e2 o2 ((RpL.of (RpA.keep (s2.kp rel1.wf) rx)).append r2)
      | er ex os2 => rw [hw] at q1; exact q1
      | st => rw [hw] at q1; exact q1
  | .er ex os, q => exact q
theorem tA.dat {es : List Ex} {σ : L2.St} {c : Cfg} {H : Hp} {b : Bool} {Q : VK} {Q' : List V → Hp → Prop} {f : List PV → Objs → R PV} (rel : Rel c σ H) (h : PoE ea W b σ c H ((evs call es c.env c.os).bind f) Q)
    (hk : ∀ vs os xs H' c', Step c H c' H' → c'.env = c.env → c'.os = os → Rel c' σ H' → RpL c' H' xs vs → PoE ea W b σ c' H' (f vs os) Q → Q' xs H') : tA call ea W es σ H Q' := by
  refine ⟨c, rel, ?_⟩
  cases hv : evs call es c.env c.os with
  | ok v os =>
    rw [hv] at h
    intro x H' c' s e1 o r
    exact hk v os x H' c' s e1 o (rel.step s e1) r (h.after s e1)
  | er ex os => rw [hv] at h; exact h
  | st => rw [hv] at h; exact h
theorem s_tup {as : List Ex} {es : List Expr} {j : Nat} {pos : Pos} (h : PA X es (tA call ea W as)) : PE X (.Tuple es j pos) (tE call ea W (.tup as)) :=
  PE.imp (pe_tupF h) fun σ H Q ⟨c, rel, q⟩ => by
    simp only [ev] at q
    refine tA.dat rel q fun vs os xs H1 c1 s e o rel1 r q1 => ?_
    cases hd : dataAll vs with
    | none => rw [hd] at q1; exact q1.elim
    | some ds =>
      rw [hd] at q1
      dsimp only at q1
      split at q1
      · rename_i hf
        have ra := r.data hd
        exact ⟨by rw [ra.length]; exact fit_le hf, (q1.po o).tupF rel1.wf ra⟩
      · exact q1.elim
theorem s_lst {as : List Ex} {es : List Expr} {pos : Pos} (h : PA X es (tA call ea W as)) : PE X (.List es pos) (tE call ea W (.lst as)) :=
  PE.imp (pe_lst h) fun σ H Q ⟨c, rel, q⟩ => by
    simp only [ev] at q
    refine tA.dat rel q fun vs os xs H1 c1 s e o rel1 r q1 => ?_
    cases hd : dataAll vs with
    | none => rw [hd] at q1; exact q1.elim
    | some ds =>
      rw [hd] at q1
      dsimp only at q1
      split at q1
      · rename_i hf
        have ra := r.data hd
        exact ⟨by rw [ra.length]; exact fit_le hf, (q1.po o).lst rel1.wf ra⟩
      · exact q1.elim
theorem s_dic0 {pos : Pos} : PE X (.Dict [] [] pos) (tE call ea W .dic0) :=
  PE.imp pe_dnewK fun σ H Q ⟨c, rel, q⟩ => (PoE.po q rfl).dct rel.wf .nil
theorem passes_W (g : Gd G call ea k W X) : Passes (L2.CX X.prog X.w) X W := passes_call g.tk fun _ _ _ _ h => h
theorem Step.env {c c' : Cfg} {H H' : Hp} (s : Step c H c' H') (env : PEnv) : Step c H { c' with env := env } H' :=
  ⟨⟨s.wf.nd, s.wf.len, s.wf.obj, s.wf.sep, s.wf.dom, s.wf.sm, s.wf.tab⟩, s.fz, s.fzn, s.om, s.keep, s.tbl⟩
def PoB (ea : Nat → Addr) (W : XK) (bs : List Bool) (c : Cfg) (H : Hp) (r : R (List PV)) (Q : List V → Hp → Prop) : Prop :=
  match r with
  | .ok v os => ∀ (x : List V) (H' : Hp) (c' : Cfg), Step c H c' H' → c'.env = c.env → c'.os = os → RpB c' H' bs x v → Q x H'
  | .er ex os => ∀ (cls : Value) (d : Option Addr) (H' : Hp) (c' : Cfg), Step c H c' H' → c'.env = c.env → c'.os = os → RpX ea c' H' cls d ex → W cls d H'
  | .st => False
theorem PoB.after {bs : List Bool} {c c1 : Cfg} {H H1 : Hp} {r : R (List PV)} {Q : List V → Hp → Prop} (s : Step c H c1 H1) (e : c1.env = c.env) (h : PoB ea W bs c H r Q) : PoB ea W bs c1 H1 r Q := by
  cases r with
  | ok v os => exact fun x H' c' s' e' o r => h x H' c' (s.trans s') (e'.trans e) o r
  | er ex os => exact fun x d H' c' s' e' o r => h x d H' c' (s.trans s') (e'.trans e) o r
  | st => exact h
def tB (call : CallT) (ea : Nat → Addr) (W : XK) (bs : List Bool) (es : List Ex) : TA := fun σ H Q => ∃ c, Rel c σ H ∧ PoB ea W bs c H (evs call es c.env c.os) Q
theorem b_nil {bs : List Bool} : PA X [] (tB call ea W bs []) := PA.imp pa_nil fun σ H Q ⟨c, rel, q⟩ => q [] H c (Step.refl rel.wf) rfl rfl .nil
theorem RvB.any {b : Bool} {c : Cfg} {H : Hp} {x : V} {v : PV} {e : Ex} (hb : isBor e = true → b = true) (h : RvB (isBor e) c H x v) : RvA b c H x v := by
  cases hb1 : isBor e with
  | true => rw [hb1] at h; exact .inr ⟨hb hb1, h⟩
  | false => rw [hb1] at h; exact .inl h
theorem b_cons {bs : List Bool} {a : Ex} {as : List Ex} {e : Expr} {es : List Expr} (hs : isStar a = false) (hb : isBor a = true → bs.headD false = true) (hst : stE e = false) (ha : PE X e (tE call ea W a)) (hr : PA X es (tB call ea W bs.tail as)) :
    PA X (e :: es) (tB call ea W bs (a :: as)) := by
  refine PA.imp (pa_cons ha hr (star_no hst _ _)) fun σ H Q ⟨c, rel, q⟩ => ⟨c, rel, ?_⟩
  rw [evs_cons hs] at q
  cases hv : ev call a c.env c.os with
  | ok v os =>
    rw [hv] at q
    intro x H1 c1 s1 e1 o1 r1
    have rel1 := rel.step s1 e1
    have q1 := q.after s1 e1
    simp only [R.bind] at q1
    rw [← e1, ← o1] at q1
    refine ⟨c1, rel1, ?_⟩
    cases hw : evs call as c1.env c1.os with
    | ok vs os2 =>
      rw [hw] at q1
      exact fun xs H2 c2 s2 e2 o2 r2 => q1 (x :: xs) H2 c2 s2 e2 o2 (.cons ((RvB.any hb r1).step s2 rel1.wf) r2)
    | er ex os2 => rw [hw] at q1; exact q1
    | st => rw [hw] at q1; exact q1
  | er ex os => rw [hv] at q; exact q
  | st => rw [hv] at q; exact q
theorem spF_of {bs : List Bool} {c : Cfg} {σ : L2.St} {H : Hp} {f : Nat} {xs : List V} {vs : List PV} {Q : VK} (rel : Rel c σ H) (r : RpB c H bs xs vs) (h : PoE ea W false σ c H (call f vs c.os) Q) : spF call ea bs f xs H Q W := by
  refine ⟨c, vs, rel.wf, r, ?_⟩
  cases hv : call f vs c.os with
  | ok v os => rw [hv] at h; exact fun x H' c' s o r => h x H' { c' with env := c.env } (s.env c.env) rfl o r
  | er ex os => rw [hv] at h; exact fun x d H' c' s o r => h x d H' { c' with env := c.env } (s.env c.env) rfl o r
  | st => rw [hv] at h; exact h
theorem tB.dat {bs : List Bool} {es : List Ex} {σ : L2.St} {c : Cfg} {H : Hp} {b : Bool} {Q : VK} {Q' : List V → Hp → Prop} {f : List PV → Objs → R PV} (rel : Rel c σ H) (h : PoE ea W b σ c H ((evs call es c.env c.os).bind f) Q)
    (hk : ∀ vs os xs H' c', Step c H c' H' → c'.env = c.env → c'.os = os → Rel c' σ H' → RpB c' H' bs xs vs → PoE ea W b σ c' H' (f vs os) Q → Q' xs H') : tB call ea W bs es σ H Q' := by
  refine ⟨c, rel, ?_⟩
  cases hv : evs call es c.env c.os with
  | ok v os =>
    rw [hv] at h
    intro x H' c' s e1 o r
    exact hk v os x H' c' s e1 o (rel.step s e1) r (h.after s e1)
  | er ex os => rw [hv] at h; exact h
  | st => rw [hv] at h; exact h
theorem s_call (g : Gd G call ea k W X) {f : Nat} {as : List Ex} {es : List Expr} {x : Str} {p pos : Pos} (hg : glB X.env.scope x = true) (hf : G.fn x = some f) (hst : ∀ e ∈ es, stE e = false) (h0 : es = [] → as = []) (ha : PA X es (tB call ea W (G.bs f) as)) : PE X (.Call (.Name x p) es [] pos) (tE call ea W (.call f as)) := by
  obtain ⟨q1, q2, q3⟩ := glB_gl hg
  obtain ⟨fa, fd, ps, m1, m2, m3, m4⟩ := g.fns x f hf
  have conv : ∀ σ H Q, tE call ea W (.call f as) σ H Q → tB call ea W (G.bs f) as σ H fun vs H1 => spF call ea (G.bs f) f (vs ++ []) H1 Q W := fun σ H Q ⟨c, rel, q⟩ => by
    simp only [ev] at q
    refine tB.dat rel q fun vs os xs H1 c1 s e o rel1 r q1 => ?_
    rw [List.append_nil]
    rw [← o] at q1
    exact spF_of rel1 r q1
  cases es with
  | nil =>
    refine PE.imp (pe_callG0 m4 g.rm g.gu q1 m1 m2 m3 .nil (passes_W g) q2) fun σ H Q q => ?_
    obtain ⟨c, rel, z⟩ := conv σ H Q q
    rw [h0 rfl] at z
    exact z [] H c (Step.refl rel.wf) rfl rfl .nil
  | cons e es => exact PE.imp (pe_callG m4 g.rm g.gu q1 m1 m2 m3 .nil (passes_W g) ha q2 (star_no (hst e (by simp)) _ _) (back_no fun y hy => hst y (by simp [hy]))) conv
theorem t_oget {a : Ex} {s : Str} {σ : L2.St} {H : Hp} {Q : VK} (hb : isBor a = false) (q : tE call ea W (.oget a s) σ H Q) : tE call ea W a σ H fun x H1 => ∃ ad v, x = .ref ad ∧ DGet H1 ad (.str s) (some v) ∧ Q v H1 := by
  obtain ⟨c, rel, q⟩ := q
  refine ⟨c, rel, ?_⟩
  simp only [ev] at q
  match hv : ev call a c.env c.os, q with
  | .ok (.o n) os, q =>
    intro x H1 c1 s1 e1 o1 r1
    rw [hb] at r1
    obtain ⟨ad, ea1, rfl⟩ := r1
    have q1 := q.after s1 e1
    cases hz : ogetO os n s with
    | none => simp only [hz] at q1; exact q1.elim
    | some z =>
      simp only [hz] at q1
      have w1 := s1.wf
      unfold ogetO at hz
      split at hz
      · rename_i kvs hk
        obtain ⟨vs, e2, r2⟩ := w1.obj n ad _ ea1 (by rw [o1]; exact hk)
        rcases r2.find (.inr s) with ⟨h1, _⟩ | ⟨d, v, h1, h2, h3⟩
        · rw [show valD (keyD (.inr s)) kvs = valD (.str s) kvs from rfl, hz] at h1
          cases h1
        · rw [show valD (keyD (.inr s)) kvs = valD (.str s) kvs from rfl, hz] at h1
          cases h1
          refine ⟨ad, v, rfl, ?_, (PoE.po q1 o1).here w1 h3⟩
          rw [← h2]
          exact DGet.k (k := .inr s) e2
      · cases hz
  | .er ex os, q => exact q
theorem s_oget (g : Gd G call ea k W X) {a : Ex} {a' : Expr} {s : Str} {j : Nat} {p pos : Pos} (hb : isBor a = false) (ha : PE X a' (tE call ea W a)) : PE X (.Subscript a' (.Constant (.str s) j p) pos) (tE call ea W (.oget a s)) := by
  refine PE.imp (pe_dget (by have := g.hu; omega) ha pe_str (fun _ _ => rfl)) fun σ H Q q => ?_
  obtain ⟨c, rel, z⟩ := t_oget hb q
  exact ⟨c, rel, z.mono fun x H1 ⟨ad, v, e, h1, h2⟩ => ⟨ad, v, e, h1, h2⟩⟩
end
end FC
end
section
set_option Elab.async false
set_option linter.all false
set_option maxRecDepth 100000
set_option maxHeartbeats 4000000
namespace FC
open PySem L2 PyProof.Rows
variable [EA]
abbrev tupIt (t : Addr) : Obj := { cls := .type "tuple_iterator", data := .fields #[.ref t, .int 0 0] }
abbrev enumOb (it : Addr) : Obj := { cls := .type "enumerate", data := .fields #[.none, .bool false, .ref it, rawInt 0, .none, .none] }
theorem enum_tup_new (t : Addr) (items : Array Value) : Meets (Builtin.«enumerate.__new__» ⟨[.type "enumerate", .ref t], []⟩) (fun _ R s => s.heap.IsTuple t items ∧
    R (.ok (.ret (.ref (s.heap.push (tupIt t)).objs.size))) { s with heap := (s.heap.push (tupIt t)).push (enumOb s.heap.objs.size) }) :=
  .of_wp fun prog w A R s hh => by
    obtain ⟨hp, gs, dr, tk, os⟩ := s
    obtain ⟨ht, hR⟩ := hh
    have hsub := sub_enumerate
    have it1 : ∀ {A' : Around} {E : Value → Shared → Prop} {Q : Value → Shared → Prop}, Q (.ref hp.objs.size) ⟨hp.push (tupIt t), gs, dr, tk, os⟩ → wpAny (model prog w) A' (pyIter (.ref t)) Q E ⟨hp, gs, dr, tk, os⟩ :=
      fun q => (begins_tuple t items).iter prog w _ _ ⟨hp, gs, dr, tk, os⟩ _ ht q
    wp_walk using it1
    refine wpAny_stack_any fun st => wpAny_pure ?_
    split
    · rename_i cc _ _ _ _ _
      cases (cc == Value.type "enumerate") <;> (wp_walk using it1; exact ⟨_, rfl, hR⟩)
    · wp_walk using it1
      exact ⟨_, rfl, hR⟩
section
variable {prog : Program} {w : World} {A : Around} {E : Value → Shared → Prop} {s : Shared}
theorem enum_tup_call {t : Addr} {items : Array Value} {Q : Value → Shared → Prop} (ht : s.heap.IsTuple t items)
    (h : ∀ h', IsEnum h' (s.heap.objs.size + 1) s.heap.objs.size 0 .none → h'.IsTupleIter s.heap.objs.size t 0 → (∀ b o, s.heap.get? b = some o → h'.get? b = some o) → Q (.ref (s.heap.objs.size + 1)) { s with heap := h' }) :
    wpAny (model prog w) A (PySem.call (.type "enumerate") [.ref t]) Q E s := by
  refine callType_new F.called_enumerate (by decide) (F.typeCall_enumerate_1 _) (F.newCall_enumerate_1 _) (fun obj => F.args_object_init_2 obj _) F.entry_enumerate_new (enum_tup_new t items) ⟨ht, ?_⟩
  have sz : (s.heap.push (tupIt t)).objs.size = s.heap.objs.size + 1 := Heap.size_push ..
  show _ ∧ _
  rw [sz]
  have en : IsEnum ((s.heap.push (tupIt t)).push (enumOb s.heap.objs.size)) (s.heap.objs.size + 1) s.heap.objs.size 0 .none := by
    have q := Heap.get?_push_size (s.heap.push (tupIt t)) (o := enumOb s.heap.objs.size) rfl
    rw [sz] at q
    exact q
  exact ⟨⟨_, en, rfl⟩, h _ en ⟨_, Heap.get?_push_of_some _ (Heap.get?_push_size _ rfl), rfl, rfl⟩ fun b o x => Heap.get?_push_of_some _ (Heap.get?_push_of_some _ x)⟩
end
def IteT (K : PySem.W.Frag) (a : Addr) : L2.It :=
  ⟨fun i H => ∃ (xs : List V) (x : V), SqT K H a xs ∧ xs[i]? = some x, fun i H v H' => ∃ T x, v = .ref T ∧ H T = none ∧ H' = upd H T (.tup [.int (i : Nat), x]) ∧ ∀ xs, SqT K H a xs → xs[i]? = some x, fun i H => ∃ xs : List V, SqT K H a xs ∧ xs.length = i⟩
theorem turn_enT {P : Program} {w : World} {K : PySem.W.Frag} {elts : List Expr} {kk : Nat} {tpos : Pos} (a e it : Addr) :
    Turn P w K (.Tuple elts kk tpos) (IteT K a) [e, it] e (fun i h => (∃ old, IsEnum h e it ((i : Nat) : Int) old) ∧ h.IsTupleIter it a i ∧ e ≠ it ∧ a ≠ it ∧ a ≠ e) where
  mem := List.mem_cons_self
  obj := fun i h st b hb => by
    obtain ⟨⟨old, he⟩, ⟨o, ho, hc, hd⟩, _⟩ := st
    rcases List.mem_cons.mp hb with z | z
    · subst z; exact ⟨_, he, fun v q => nomatch q⟩
    · have z' : b = it := by simpa using z
      subst z'
      exact ⟨o, ho, fun v q => by rw [hd] at q; cases q⟩
  keep := fun i h h' st k => let ⟨⟨old, he⟩, hi, hne⟩ := st; ⟨⟨old, k e (by simp) _ he⟩, hi.at fun o q => k it (by simp) o q, hne⟩
  item := by
    intro X hP hw hK hc i pins s σ H E I hf st hg
    subst hP hw hK
    obtain ⟨⟨old, he⟩, hit, hne, hai, hae⟩ := st
    obtain ⟨xs, x, hq, hx⟩ := hg
    obtain ⟨its, rv, p, hz⟩ := I.tuple hq
    obtain ⟨u, hu, ru⟩ := rv.get hx
    have lte : e < s.heap.objs.size := Heap.lt_size he
    have lti : it < s.heap.objs.size := by obtain ⟨_, q, _⟩ := hit; exact Heap.lt_size q
    have hil : i < its.toArray.size := by
      have := (List.getElem?_eq_some_iff.mp hu).1
      simpa using this
    refine wpAny_pyNext_enum_itemD (Draws.tuple (A := X.A.in1) (I.ok.hd hc) it a hai its.toArray) he ⟨hit, p⟩ hil hne (by simp [hne, Ne.symm hae]) fun y h' tk hy ho hst hT hsz hk => ?_
    have ey : y = u := by
      have h1 : its.toArray[i]? = some u := by simpa using hu
      rw [h1] at hy
      exact (Option.some.inj hy).symm
    subst ey
    refine ⟨_, rfl, wpAny_letOwnedTupleGo_enum (s := { s with heap := h', toks := tk + 1 }) ho fun h'' he' sb => ?_⟩
    have at2 : h''.get? s.heap.objs.size = some { cls := .type "tuple", data := .seq #[.int i tk, y] } := (sb.2 _ (Nat.ne_of_gt lte)).trans hT
    have I1 : Inv X pins σ (upd H s.heap.objs.size (.tup [.int (i : Nat), x])) { s with heap := h'', toks := tk + 1 } :=
      I.turnedNew (ch := [e, it]) (fun b ob hb q => (sb.2 b (fun z => hb (by simp [z]))).trans (hk b ob (fun z => hb (by simp [z])) (fun z => hb (by simp [z])) q)) hf (Nat.le_refl _)
        ⟨by show 2 ≤ sizeLine; decide, [.int i tk, y], .cons ⟨_, rfl⟩ (.cons ru .nil), ⟨_, at2, rfl, _, rfl⟩⟩
    refine ⟨.ref s.heap.objs.size, _, I1, rfl, ⟨_, x, rfl, I.hok.fresh (Nat.le_refl _), rfl, fun ys hy => by rw [I.tuple_inj hy hq]; exact hx⟩, ⟨⟨y, ?_⟩, hst.1.at fun o q => (sb.2 it (Ne.symm hne)).trans q, hne, hai, hae⟩, fun b hb => ?_⟩
    · have e1 : ((i + 1 : Nat) : Int) = (i : Int) + 1 := by omega
      rw [e1]
      exact he'
    · have ltb : b < s.heap.objs.size := by
        rcases List.mem_cons.mp hb with z | z
        · rw [z]; exact lte
        · have z' : b = it := by simpa using z
          rw [z']; exact lti
      rw [upd_ne (Nat.ne_of_lt ltb)]
      exact (hf b hb).1
  done := by
    intro X hP hw hK hc i pins s σ H E I hf st hg
    subst hP hw hK
    obtain ⟨⟨old, he⟩, hit, hne, hai, hae⟩ := st
    obtain ⟨xs, hq, hx⟩ := hg
    obtain ⟨its, rv, p, hz⟩ := I.tuple hq
    obtain ⟨f0, f1, f2, f3, f4, f5⟩ := hf it (by simp)
    have hl := rv.length
    have ei : i = its.toArray.size := by simp; omega
    refine wpAny_pyNext_enum_endD (Draws.tuple (A := X.A.in1) (I.ok.hd hc) it a hai its.toArray) he ⟨by rw [← ei]; exact hit, p⟩ fun h' eb => ⟨rfl, I.turned (t' := s.toks) (fun b o hb q => eb b o hb q) f0 f1 f3 f4 f5⟩
  self := fun A i s Q E st h => let ⟨⟨_, he⟩, _⟩ := st; wpAny_pyIter_enum he h
def iEnumT (K : PySem.W.Frag) (ta : TA) : TI := fun σ H R => ta σ H fun vs H1 => ∃ a xs, vs = [.ref a] ∧ SqT K H1 a xs ∧ R (IteT K a) H1
theorem pi_enT {X : Cx} {e : Expr} {ta : TA} {p pos tpos : Pos} {elts : List Expr} {kk : Nat} (hg : Gl X "enumerate") (hm : X.mg "enumerate" = none) (ha : PA X [e] ta) (hs : starEach [e] X.env = [(false, eval e X.env)]) :
    PI X (.Tuple elts kk tpos) (.Call (.Name "enumerate" p) [e] [] pos) (iEnumT X.K ta) := by
  refine ⟨fun pins s σ H R I h => ?_⟩
  refine Call_ (ld_blt I hg hm boot_enumerate (PyProof.Rows.callWith_type1 (thn (ha.run pos pins s σ H _ I h) fun us s1 ⟨vs, H1, I1, r1, q1⟩ => ?_) hs rfl))
  obtain ⟨a, xs, ex, hq, q⟩ := q1
  subst ex
  obtain ⟨u, rfl, ru⟩ := vals_one r1
  cases ru
  obtain ⟨its, rv, p', hz⟩ := I1.tuple hq
  refine enum_tup_call p' fun h' he hit hk => wpAny_pyIter_enum he ?_
  have lta : a < s1.heap.objs.size := p'.lt
  refine ⟨s1.heap.objs.size + 1, [s1.heap.objs.size + 1, s1.heap.objs.size], _, _, H1, rfl, I1.kept (t' := s1.toks) hk, turn_enT a (s1.heap.objs.size + 1) s1.heap.objs.size,
    ⟨⟨.none, he⟩, hit, Nat.succ_ne_self _, Nat.ne_of_lt lta, Nat.ne_of_lt (Nat.lt_succ_of_lt lta)⟩, fun b hb => ?_, q⟩
  have hle : s1.heap.objs.size ≤ b := by
    rcases List.mem_cons.mp hb with z | z
    · rw [z]; exact Nat.le_succ _
    · have z' : b = s1.heap.objs.size := by simpa using z
      rw [z']; exact Nat.le_refl _
  exact I1.fpOk hle (I1.hok.fresh hle)
end FC
end
section
set_option Elab.async false
set_option linter.all false
set_option maxRecDepth 100000
set_option maxHeartbeats 4000000
namespace FC
open PySem L2 PyProof.Rows
variable [EA]
def ItOk (J : L2.It) (xs : List PyData) (c : Cfg) (H : Hp) : Prop := ∀ (c1 : Cfg) (H1 : Hp), WF H1 c1 → Kp H H1 c.fz c1.fz →
  (∀ (i : Nat) (d : PyData), xs[i]? = some d → J.go i H1 ∧ ∀ x H2, J.yld i H1 x H2 → ∃ c2, Step c1 H1 c2 H2 ∧ c2.env = c1.env ∧ c2.os = c1.os ∧ Rp H2 c2.fz x d) ∧ J.stop xs.length H1
theorem Kp.trans {H H1 H2 : Hp} {a b d : Addr → Prop} (p : Kp H H1 a b) (q : Kp H1 H2 b d) : Kp H H2 a d :=
  ⟨fun x h => q.sub x (p.sub x h), fun x xs h e => q.lst x xs (p.sub x h) (p.lst x xs h e), fun x xs e => q.tup x xs (p.tup x xs e), fun x xs h e => q.dct x xs (p.sub x h) (p.dct x xs h e), fun x a b e => q.exx x a b (p.exx x a b e), fun x a e => q.xd x a (p.xd x a e)⟩
theorem Kp.refl {H : Hp} {a : Addr → Prop} : Kp H H a a := ⟨fun _ h => h, fun _ _ _ h => h, fun _ _ h => h, fun _ _ _ h => h, fun _ _ _ h => h, fun _ _ h => h⟩
section
variable {c : Cfg} {H : Hp} {X : Cx}
theorem it_list {a : Addr} {ys : List V} {xs : List PyData} (ha : c.fz a) (e : H a = some (.lst ys)) (r : RpA H c.fz ys xs) : ItOk (Itl X.K a) xs c H := fun c1 H1 w k => by
  have e1 := k.lst a ys ha e
  have r1 := RpA.keep k r
  refine ⟨fun i d hd => ?_, ys, SqL.of e1, by rw [r.length]; exact Nat.le_refl _⟩
  obtain ⟨y, h1, h2⟩ := r1.get hd
  exact ⟨⟨ys, y, SqL.of e1, h1⟩, fun x H2 ⟨e2, h3⟩ => by
    subst e2
    rw [h3 ys (SqL.of e1)] at h1
    cases h1
    exact ⟨c1, Step.refl w, rfl, rfl, h2⟩⟩
theorem it_tup {a : Addr} {ys : List V} {b : Bool} {xs : List PyData} (e : TupQ H a (ys, b)) (r : RpA H c.fz ys xs) : ItOk (Itt X.K a) xs c H := fun c1 H1 w k => by
  have e1 := k.tup a _ e
  have r1 := RpA.keep k r
  refine ⟨fun i d hd => ?_, ys, e1.sq, by rw [r.length]; exact Nat.le_refl _⟩
  obtain ⟨y, h1, h2⟩ := r1.get hd
  exact ⟨⟨ys, y, e1.sq, h1⟩, fun x H2 ⟨e2, h3⟩ => by
    subst e2
    rw [h3 ys e1.sq] at h1
    cases h1
    exact ⟨c1, Step.refl w, rfl, rfl, h2⟩⟩
theorem it_rng (lo : Int) (n : Nat) : ItOk (Itr lo n) ((List.range n).map fun (k : Nat) => .int (lo + (k : Nat))) c H := fun c1 H1 w _ => by
  refine ⟨fun i d hd => ?_, by show n ≤ _; simp⟩
  rw [List.getElem?_map, Option.map_eq_some_iff] at hd
  obtain ⟨j, h1, rfl⟩ := hd
  obtain ⟨h2, h3⟩ := List.getElem?_eq_some_iff.mp h1
  simp only [List.length_range] at h2
  simp only [List.getElem_range] at h3
  subst h3
  exact ⟨h2, fun x H2 ⟨e2, h4⟩ => by
    subst e2
    subst h4
    exact ⟨c1, Step.refl w, rfl, rfl, .int _⟩⟩
theorem enumL_at {xs : List PyData} {i : Nat} {d : PyData} (h : (enumL xs)[i]? = some d) : ∃ y, xs[i]? = some y ∧ d = .tuple [.int (i : Nat), y] := by
  unfold enumL at h
  rw [List.getElem?_map, Option.map_eq_some_iff] at h
  obtain ⟨⟨y, j⟩, h1, rfl⟩ := h
  rw [List.getElem?_zipIdx, Option.map_eq_some_iff] at h1
  obtain ⟨z, h2, h3⟩ := h1
  cases h3
  exact ⟨_, h2, by simp⟩
theorem enumL_len (xs : List PyData) : (enumL xs).length = xs.length := by simp [enumL]
theorem pair_new {c1 : Cfg} {H1 H2 : Hp} {x y v : V} {d e : PyData} {T : Addr} (w : WF H1 c1) (rx : Rp H1 c1.fz x d) (ry : Rp H1 c1.fz y e) (hv : v = .ref T) (hT : H1 T = none) (h2 : H2 = upd H1 T (.tup [x, y])) (hn : isEs [d, e] = false) : ∃ c2, Step c1 H1 c2 H2 ∧ c2.env = c1.env ∧ c2.os = c1.os ∧ Rp H2 c2.fz v (.tuple [d, e]) := by
  subst hv
  subst h2
  have s := step_tup w hT (.tup [x, y])
  exact ⟨c1, s, rfl, rfl, .tup (.inr ⟨hn, upd_same⟩) (.cons (Rp.keep (s.kp w) rx) (.cons (Rp.keep (s.kp w) ry) .nil))⟩
theorem it_enL {a : Addr} {ys : List V} {xs : List PyData} (ha : c.fz a) (e : H a = some (.lst ys)) (r : RpA H c.fz ys xs) : ItOk (Ite X.K a) (enumL xs) c H := fun c1 H1 w k => by
  have e1 := k.lst a ys ha e
  have r1 := RpA.keep k r
  refine ⟨fun i d hd => ?_, ys, SqL.of e1, by rw [enumL_len, r.length]; exact Nat.le_refl _⟩
  obtain ⟨z, h0, rfl⟩ := enumL_at hd
  obtain ⟨y, h1, h2⟩ := r1.get h0
  exact ⟨⟨ys, y, SqL.of e1, h1⟩, fun x H2 ⟨T, q, k1, k2, k3, k4⟩ => by
    rw [k4 ys (SqL.of e1)] at h1
    cases h1
    exact pair_new w (.int _) h2 k1 k2 k3 rfl⟩
theorem it_enT {a : Addr} {ys : List V} {b : Bool} {xs : List PyData} (e : TupQ H a (ys, b)) (r : RpA H c.fz ys xs) : ItOk (IteT X.K a) (enumL xs) c H := fun c1 H1 w k => by
  have e1 := k.tup a _ e
  have r1 := RpA.keep k r
  refine ⟨fun i d hd => ?_, ys, e1.sq, by rw [enumL_len, r.length]⟩
  obtain ⟨z, h0, rfl⟩ := enumL_at hd
  obtain ⟨y, h1, h2⟩ := r1.get h0
  exact ⟨⟨ys, y, e1.sq, h1⟩, fun x H2 ⟨T, q, k1, k2, k3, k4⟩ => by
    rw [k4 ys e1.sq] at h1
    cases h1
    exact pair_new w (.int _) h2 k1 k2 k3 rfl⟩
theorem zipL_at {xs ys : List PyData} {i : Nat} {d : PyData} (h : (zipL xs ys)[i]? = some d) : ∃ x y, xs[i]? = some x ∧ ys[i]? = some y ∧ d = .tuple [x, y] := by
  unfold zipL at h
  rw [List.getElem?_map, Option.map_eq_some_iff] at h
  obtain ⟨⟨x, y⟩, h1, rfl⟩ := h
  rw [List.getElem?_zip_eq_some] at h1
  exact ⟨x, y, h1.1, h1.2, rfl⟩
theorem zipL_len (xs ys : List PyData) : (zipL xs ys).length = min xs.length ys.length := by simp [zipL]
theorem noEE_at {xs ys : List PyData} {i : Nat} {x y : PyData} (h : noEE xs ys = true) (hx : xs[i]? = some x) (hy : ys[i]? = some y) : isEs [x, y] = false := by
  simp only [noEE, Bool.or_eq_true, List.all_eq_true, Bool.not_eq_true'] at h
  rcases h with h | h
  · have := h x (List.mem_of_getElem? hx)
    simp [isEs, this]
  · have := h y (List.mem_of_getElem? hy)
    simp [isEs, this]
theorem it_zipL {a b : Addr} {us vs : List V} {xs ys : List PyData} (ha : c.fz a) (hb : c.fz b) (e : H a = some (.lst us)) (f : H b = some (.lst vs)) (r : RpA H c.fz us xs) (s : RpA H c.fz vs ys) (hz : noEE xs ys = true) : ItOk (Itz X.K a b) (zipL xs ys) c H := fun c1 H1 w k => by
  have e1 := k.lst a us ha e
  have f1 := k.lst b vs hb f
  have r1 := RpA.keep k r
  have s1 := RpA.keep k s
  refine ⟨fun i d hd => ?_, us, vs, SqL.of e1, SqL.of f1, by rw [zipL_len, r.length, s.length]; omega⟩
  obtain ⟨z1, z2, h0, h0', rfl⟩ := zipL_at hd
  obtain ⟨y, h1, h2⟩ := r1.get h0
  obtain ⟨y', h1', h2'⟩ := s1.get h0'
  exact ⟨⟨us, vs, y, y', SqL.of e1, SqL.of f1, h1, h1'⟩, fun x H2 ⟨T, q, q', k1, k2, k3, k4, k5⟩ => by
    rw [k4 us (SqL.of e1)] at h1
    rw [k5 vs (SqL.of f1)] at h1'
    cases h1
    cases h1'
    exact pair_new w h2 h2' k1 k2 k3 (noEE_at hz h0 h0')⟩
theorem it_zipT {a b : Addr} {us vs : List V} {xs ys : List PyData} {b1 b2 : Bool} (e : TupQ H a (us, b1)) (f : TupQ H b (vs, b2)) (r : RpA H c.fz us xs) (s : RpA H c.fz vs ys) (hz : noEE xs ys = true) : ItOk (RZ.ItzT X.K a b) (zipL xs ys) c H := fun c1 H1 w k => by
  have e1 := k.tup a _ e
  have f1 := k.tup b _ f
  have r1 := RpA.keep k r
  have s1 := RpA.keep k s
  refine ⟨fun i d hd => ?_, us, vs, e1.sq, f1.sq, by rw [zipL_len, r.length, s.length]; omega⟩
  obtain ⟨z1, z2, h0, h0', rfl⟩ := zipL_at hd
  obtain ⟨y, h1, h2⟩ := r1.get h0
  obtain ⟨y', h1', h2'⟩ := s1.get h0'
  exact ⟨⟨us, vs, y, y', e1.sq, f1.sq, h1, h1'⟩, fun x H2 ⟨T, q, q', k1, k2, k3, k4, k5⟩ => by
    rw [k4 us e1.sq] at h1
    rw [k5 vs f1.sq] at h1'
    cases h1
    cases h1'
    exact pair_new w h2 h2' k1 k2 k3 (noEE_at hz h0 h0')⟩
end
def PoI (ea : Nat → Addr) (W : XK) (c : Cfg) (H : Hp) (r : R (List PyData)) (Q : L2.It → Hp → Prop) : Prop :=
  match r with
  | .ok xs os => ∀ (J : L2.It) (H' : Hp) (c' : Cfg), Step c H c' H' → c'.env = c.env → c'.os = os → ItOk J xs c' H' → Q J H'
  | .er ex os => ∀ (cls : Value) (d : Option Addr) (H' : Hp) (c' : Cfg), Step c H c' H' → c'.env = c.env → c'.os = os → RpX ea c' H' cls d ex → W cls d H'
  | .st => False
theorem PoI.after {ea : Nat → Addr} {W : XK} {c c1 : Cfg} {H H1 : Hp} {r : R (List PyData)} {Q : L2.It → Hp → Prop} (s : Step c H c1 H1) (e : c1.env = c.env) (h : PoI ea W c H r Q) : PoI ea W c1 H1 r Q := by
  cases r with
  | ok v os => exact fun x H' c' s' e' o r => h x H' c' (s.trans s') (e'.trans e) o r
  | er ex os => exact fun x d H' c' s' e' o r => h x d H' c' (s.trans s') (e'.trans e) o r
  | st => exact h
def tI (call : CallT) (ea : Nat → Addr) (W : XK) (it : It) : TI := fun σ H R => ∃ c, Rel c σ H ∧ PoI ea W c H (evI call it c.env c.os) R
theorem PI.imp {X : Cx} {tg e : Expr} {t t' : TI} (h : PI X tg e t) (f : ∀ σ H R, t' σ H R → t σ H R) : PI X tg e t' := ⟨fun ps s σ H Q I q => h.run ps s σ H Q I (f _ _ _ q)⟩
section
variable {G : Glob} {call : CallT} {ea : Nat → Addr} {k : Nat} {W : XK} {X : Cx}
theorem tE.datI {e : Ex} {f : PyData → Objs → R (List PyData)} {c : Cfg} {σ : L2.St} {H : Hp} {R : L2.It → Hp → Prop} (rel : Rel c σ H) (h : PoI ea W c H ((ev call e c.env c.os).dat f) R) {Q' : VK}
    (hk : ∀ d os x H' c', Step c H c' H' → c'.env = c.env → c'.os = os → Rel c' σ H' → RoC c' H' x d → (isBor e = false → Rp H' c'.fz x d) → PoI ea W c' H' (f d os) R → Q' x H') : tE call ea W e σ H Q' := by
  refine ⟨c, rel, ?_⟩
  match hv : ev call e c.env c.os, h with
  | .ok (.d d) os, h =>
    intro x H' c' s e1 o r
    refine hk d os x H' c' s e1 o (rel.step s e1) r.roc (fun hb => ?_) (h.after s e1)
    rw [hb] at r
    exact r
  | .er ex os, h => exact h
theorem s_seq {e : Ex} {e' tg : Expr} (hb : isBor e = false) (h : PE X e' (tE call ea W e)) : PI X tg e' (tI call ea W (.seq e)) := by
  refine ⟨fun ps sh σ H R I ⟨c, rel, q⟩ => ?_⟩
  simp only [evI] at q
  match hv : ev call e c.env c.os, q with
  | .ok (.d (.list xs)) os, q =>
    refine (pi_list h).run ps sh σ H R I ⟨c, rel, ?_⟩
    rw [hv]
    intro x H1 c1 s1 e1 o1 r1
    rw [hb] at r1
    cases r1 with
    | lst ha hx rx => exact ⟨_, rfl, ⟨_, SqL.of hx⟩, q _ H1 c1 s1 e1 o1 (it_list ha hx rx)⟩
  | .ok (.d (.tuple xs)) os, q =>
    refine (pi_tup h).run ps sh σ H R I ⟨c, rel, ?_⟩
    rw [hv]
    intro x H1 c1 s1 e1 o1 r1
    rw [hb] at r1
    cases r1 with
    | tup hx rx => exact ⟨_, rfl, ⟨_, hx.sq⟩, q _ H1 c1 s1 e1 o1 (it_tup hx rx)⟩
  | .er ex os, q =>
    refine (pi_list h).run ps sh σ H R I ⟨c, rel, ?_⟩
    rw [hv]
    exact q
theorem s_rng1 (g : Gd G call ea k W X) {a : Ex} {a' tg : Expr} {f : Str} {p pos : Pos} (hg : glB X.env.scope f = true) (hf : f = "range") (hs : stE a' = false) (h : PE X a' (tE call ea W a)) : PI X tg (.Call (.Name f p) [a'] [] pos) (tI call ea W (.rng1 a)) := by
  obtain ⟨q1, q2, q3⟩ := glB_gl hg
  subst hf
  refine PI.imp (pi_range1 q1 (g.blt _ (by decide)) (pa_one h hs) (star_no hs _ _)) fun σ H R ⟨c, rel, q⟩ => ?_
  simp only [evI] at q
  refine tE.datI rel q fun d os x H1 c1 s1 e1 o1 rel1 r1 _ q1 => ?_
  cases d with
  | int i =>
    dsimp only at q1
    split at q1
    · rename_i hr
      simp only [rngOk, Bool.and_eq_true, decide_eq_true_eq] at hr
      refine ⟨i, by rw [r1.ro.int], hr.1, hr.2, q1 _ H1 c1 (Step.refl rel1.wf) rfl o1 ?_⟩
      have z := it_rng (c := c1) (H := H1) 0 i.toNat
      unfold rngL
      rw [Int.sub_zero]
      exact z
    · exact q1.elim
  | _ => exact q1.elim
theorem s_rng2 (g : Gd G call ea k W X) {a b : Ex} {a' b' tg : Expr} {f : Str} {p pos : Pos} (hg : glB X.env.scope f = true) (hf : f = "range") (hs : stE a' = false) (hs2 : stE b' = false) (h : PE X a' (tE call ea W a)) (h2 : PE X b' (tE call ea W b)) : PI X tg (.Call (.Name f p) [a', b'] [] pos) (tI call ea W (.rng2 a b)) := by
  obtain ⟨q1, q2, q3⟩ := glB_gl hg
  subst hf
  refine PI.imp (pi_range2 q1 (g.blt _ (by decide)) (pa_cons h (pa_one h2 hs2) (star_no hs _ _)) (by rw [star_no hs, star_no hs2]; rfl) (by rw [star_no hs2]; rfl)) fun σ H R ⟨c, rel, q⟩ => ?_
  simp only [evI] at q
  refine tE.datI rel q fun d os x H1 c1 s1 e1 o1 rel1 r1 _ q1 => ?_
  rw [← e1, ← o1] at q1
  refine tE.datI rel1 q1 fun d2 os2 y H2 c2 s2 e2 o2 rel2 r2 _ q2 => ?_
  cases d with
  | int i =>
    cases d2 with
    | int j =>
      dsimp only at q2
      split at q2
      · rename_i hr
        simp only [rngOk, Bool.and_eq_true, decide_eq_true_eq] at hr
        refine ⟨i, j, by rw [(r1.step s2 rel1.wf).ro.int, r2.ro.int], ⟨hr.1.1, hr.1.2, hr.2.1, hr.2.2⟩, q2 _ H2 c2 (Step.refl rel2.wf) rfl o2 ?_⟩
        exact it_rng (c := c2) (H := H2) i (j - i).toNat
      · exact q2.elim
    | _ => exact q2.elim
  | _ => exact q2.elim
theorem s_enum (g : Gd G call ea k W X) {a : Ex} {a' : Expr} {elts : List Expr} {kk : Nat} {tpos : Pos} {f : Str} {p pos : Pos} (hg : glB X.env.scope f = true) (hf : f = "enumerate") (hs : stE a' = false) (hb : isBor a = false) (h : PE X a' (tE call ea W a)) : PI X (.Tuple elts kk tpos) (.Call (.Name f p) [a'] [] pos) (tI call ea W (.enum a)) := by
  obtain ⟨q1, q2, q3⟩ := glB_gl hg
  subst hf
  have m := g.blt "enumerate" (by decide)
  have hst := star_no hs [] X.env
  refine ⟨fun ps sh σ H R I ⟨c, rel, q⟩ => ?_⟩
  simp only [evI] at q
  match hv : ev call a c.env c.os, q with
  | .ok (.d (.list xs)) os, q =>
    refine (pi_enum q1 m (pa_one h hs) hst).run ps sh σ H R I ⟨c, rel, ?_⟩
    rw [hv]
    intro x H1 c1 s1 e1 o1 r1
    rw [hb] at r1
    cases r1 with
    | lst ha hx rx => exact ⟨_, _, rfl, SqL.of hx, q _ H1 c1 s1 e1 o1 (it_enL ha hx rx)⟩
  | .ok (.d (.tuple xs)) os, q =>
    refine (pi_enT q1 m (pa_one h hs) hst).run ps sh σ H R I ⟨c, rel, ?_⟩
    rw [hv]
    intro x H1 c1 s1 e1 o1 r1
    rw [hb] at r1
    cases r1 with
    | tup hx rx => exact ⟨_, _, rfl, hx.sq, q _ H1 c1 s1 e1 o1 (it_enT hx rx)⟩
  | .er ex os, q =>
    refine (pi_enum q1 m (pa_one h hs) hst).run ps sh σ H R I ⟨c, rel, ?_⟩
    rw [hv]
    exact q
end
end FC
end
section
set_option Elab.async false
set_option linter.all false
set_option maxRecDepth 100000
set_option maxHeartbeats 4000000
namespace FC
open PySem L2 PyProof.Rows
variable [EA]
section
variable {c : Cfg} {σ : L2.St} {H : Hp}
theorem get_set {α : Type} {l : List α} {i j : Nat} {x y : α} (h : (l.set i x)[j]? = some y) : (j = i ∧ y = x) ∨ (j ≠ i ∧ l[j]? = some y) := by
  by_cases e : j = i
  · subst e
    by_cases hl : j < l.length
    · rw [List.getElem?_set_self hl] at h
      exact .inl ⟨rfl, (Option.some.inj h).symm⟩
    · rw [List.getElem?_eq_none (by simpa using hl)] at h
      cases h
  · rw [List.getElem?_set_ne (Ne.symm e)] at h
    exact .inr ⟨e, h⟩
theorem slotOk.env {x : Option (Option V)} {sl : Sl} (env : PEnv) (h : slotOk H c x sl) : slotOk H { c with env := env } x sl := by
  cases sl with
  | un => trivial
  | v pv => exact h
  | m d => exact h
  | b d => exact h
theorem WF.env (w : WF H c) (env : PEnv) : WF H { c with env := env } := ⟨w.nd, w.len, w.obj, w.sep, w.dom, w.sm, w.tab⟩
theorem Rel.setv (rel : Rel c σ H) {i : Nat} {v : V} {pv : PV} (r : Rpv H c.fz c.om v pv) (hi : i < c.env.length) : Rel { c with env := c.env.set i (.v pv) } (σ.set i (some v)) H := by
  have hs : i < σ.length := by rw [rel.len]; exact hi
  refine ⟨rel.wf.env _, by simp [rel.len], fun j sl h => ?_, fun j j' d d' a h1 h2 h3 h4 => ?_⟩
  · rcases get_set h with ⟨rfl, rfl⟩ | ⟨hne, h⟩
    · exact ⟨v, List.getElem?_set_self hs, r⟩
    · have := rel.slot j sl h
      rw [List.getElem?_set_ne (Ne.symm hne)]
      exact this.env _
  · rcases get_set h1 with ⟨rfl, e⟩ | ⟨n1, h1⟩
    · cases e
    · rcases get_set h2 with ⟨rfl, e⟩ | ⟨n2, h2⟩
      · cases e
      · rw [List.getElem?_set_ne (Ne.symm n1)] at h3
        rw [List.getElem?_set_ne (Ne.symm n2)] at h4
        exact rel.dif j j' d d' a h1 h2 h3 h4
theorem Rel.forget (rel : Rel c σ H) (i : Nat) : Rel { c with env := c.env.set i .un } (σ.set i none) H := by
  refine ⟨rel.wf.env _, by simp [rel.len], fun j sl h => ?_, fun j j' d d' a h1 h2 h3 h4 => ?_⟩
  · rcases get_set h with ⟨rfl, rfl⟩ | ⟨hne, h⟩
    · trivial
    · have := rel.slot j sl h
      rw [List.getElem?_set_ne (Ne.symm hne)]
      exact this.env _
  · rcases get_set h1 with ⟨rfl, e⟩ | ⟨n1, h1⟩
    · cases e
    · rcases get_set h2 with ⟨rfl, e⟩ | ⟨n2, h2⟩
      · cases e
      · rw [List.getElem?_set_ne (Ne.symm n1)] at h3
        rw [List.getElem?_set_ne (Ne.symm n2)] at h4
        exact rel.dif j j' d d' a h1 h2 h3 h4
theorem Rel.wipe (rel : Rel c σ H) : ∀ vs : List Nat, Rel { c with env := clrL c.env vs } (L2.wipe σ vs) H
  | [] => rel
  | v :: vs => (Rel.wipe rel vs).forget v
end
def tG (t : Tgt) : TG := fun v σ H Q => ∃ (c : Cfg) (d : PyData) (env' : PEnv), Rel c σ H ∧ Rp H c.fz v d ∧ bindT t d c.env = some env' ∧ ∀ σ', Rel { c with env := env' } σ' H → (∀ vs, (∀ i ∈ tgtIx t, i ∈ vs) → L2.wipe σ' vs = L2.wipe σ vs) → Q σ' H
def tGs (ts : List Tgt) : TGs := fun vs σ H Q => ∃ (c : Cfg) (ds : List PyData) (env' : PEnv), Rel c σ H ∧ RpA H c.fz vs ds ∧ bindTs ts ds c.env = some env' ∧ ∀ σ', Rel { c with env := env' } σ' H → (∀ ws, (∀ i ∈ tgtsIx ts, i ∈ ws) → L2.wipe σ' ws = L2.wipe σ ws) → Q σ' H
theorem PG.imp {X : Cx} {e : Expr} {t t' : TG} (h : PG X e t) (f : ∀ v σ H Q, t' v σ H Q → t v σ H Q) : PG X e t' := ⟨fun ps s σ H v u Q I r q => h.run ps s σ H v u Q I r (f _ _ _ _ q)⟩
theorem PGs.imp {X : Cx} {e : List Expr} {t t' : TGs} (h : PGs X e t) (f : ∀ v σ H Q, t' v σ H Q → t v σ H Q) : PGs X e t' := ⟨fun ps s σ H v u Q I r q => h.run ps s σ H v u Q I r (f _ _ _ _ q)⟩
theorem wipe_set {σ : L2.St} {i : Nat} {x : Option V} : ∀ {vs : List Nat}, i ∈ vs → L2.wipe (σ.set i x) vs = L2.wipe σ vs
  | [], h => absurd h (by simp)
  | v :: vs, h => by
    by_cases e : i ∈ vs
    · unfold L2.wipe
      rw [wipe_set e]
    · have ev : i = v := by
        rcases List.mem_cons.mp h with q | q
        · exact q
        · exact absurd q e
      subst ev
      unfold L2.wipe
      have : ∀ ws : List Nat, i ∉ ws → L2.wipe (σ.set i x) ws = (L2.wipe σ ws).set i x := by
        intro ws
        induction ws with
        | nil => intro _; rfl
        | cons w ws ih =>
          intro hw
          have h1 : i ≠ w := fun q => hw (by simp [q])
          have h2 : i ∉ ws := fun q => hw (by simp [q])
          unfold L2.wipe
          rw [ih h2, List.set_comm _ _ h1]
      rw [this vs e, List.set_set]
theorem each_len {env : Env} : ∀ es : List Expr, (assignEach es env).length = es.length
  | [] => rfl
  | e :: es => by
    have h := each_len (env := env) es
    cases e <;> simp [assignEach, h]
theorem each_no {env : Env} : ∀ es : List Expr, (∀ e ∈ es, stE e = false) → (assignEach es env).findIdx? (·.1) = none
  | [], _ => rfl
  | e :: es, h => by
    have ih := each_no (env := env) es fun x hx => h x (by simp [hx])
    have he := h e (by simp)
    cases e <;> first | (simp [stE] at he; done) | (simp only [assignEach, List.findIdx?_cons, ih]; rfl)
theorem each_cons {env : Env} {e : Expr} {es : List Expr} (h : stE e = false) : (assignEach (e :: es) env).map (·.2) = assign e env :: (assignEach es env).map (·.2) := by
  cases e <;> first | (simp [stE] at h; done) | rfl
theorem tgtsB_len {N : List Str} {sc : Scope} : ∀ {ts : List Tgt} {es : List Expr}, tgtsB N sc ts es = true → es.length = ts.length ∧ ∀ e ∈ es, stE e = false
  | [], [], _ => ⟨rfl, by simp⟩
  | t :: ts, e :: es, h => by
    simp only [tgtsB, Bool.and_eq_true, Bool.not_eq_true'] at h
    obtain ⟨h1, h2⟩ := tgtsB_len h.2
    refine ⟨by simp [h1], fun x hx => ?_⟩
    rcases List.mem_cons.mp hx with rfl | hx
    · exact h.1.2
    · exact h2 x hx
  | [], _ :: _, h => by simp [tgtsB] at h
  | _ :: _, [], h => by simp [tgtsB] at h
theorem bindTs_len : ∀ {ts : List Tgt} {ds : List PyData} {env env' : PEnv}, bindTs ts ds env = some env' → ds.length = ts.length
  | [], [], _, _, _ => rfl
  | t :: ts, d :: ds, env, env', h => by
    simp only [bindTs] at h
    split at h
    · simp [bindTs_len h]
    · cases h
  | [], _ :: _, _, _, h => by simp [bindTs] at h
  | _ :: _, [], _, _, h => by simp [bindTs] at h
section
variable {X : Cx}
mutual
theorem s_tgt (hc : X.calm = true) (hN : X.N.Nodup) : ∀ (t : Tgt) (e : Expr), (∀ i ∈ tgtIx t, ∀ x, X.N[i]? = some x → X.env.scope.names.lookup x = some .cell → X.fn x = true) → tgtB X.N X.env.scope t e = true → PG X e (tG t)
  | .one i, e, hf, h => by
    cases e <;> simp only [tgtB] at h <;> try contradiction
    rename_i x pos
    simp only [Bool.and_eq_true, decide_eq_true_eq] at h
    obtain ⟨h1, h2⟩ := h
    have hl : Loc X.env.scope x ∧ (X.fn x = true ∨ X.env.scope.names.lookup x = some .local) := by
      unfold locB at h2
      split at h2
      · exact ⟨.inl (by assumption), .inr (by assumption)⟩
      · exact ⟨.inr (by assumption), .inl (hf i (by simp [tgtIx]) x h1 (by assumption))⟩
      · cases h2
    refine PG.imp (pg_name (pos := pos) hN h1 hl.1 hl.2) fun v σ H Q ⟨c, d, env', rel, r, hb, q⟩ => ?_
    simp only [bindT] at hb
    split at hb
    · rename_i hi
      cases hb
      exact q _ (rel.setv (pv := .d d) r (of_decide_eq_true hi)) fun vs hv => wipe_set (hv i (by simp [tgtIx]))
    · cases hb
  | .tup ts, e, hf, h => by
    cases e <;> simp only [tgtB] at h <;> try contradiction
    rename_i es j pos
    obtain ⟨hl, hst⟩ := tgtsB_len h
    refine PG.imp (pg_tup (n := es.length) hc (s_tgts hc hN ts es (fun i hi => hf i (by simpa [tgtIx] using hi)) h) (each_len es) (each_no es hst)) fun v σ H Q ⟨c, d, env', rel, r, hb, q⟩ => ?_
    cases d with
    | tuple ds =>
      simp only [bindT] at hb
      cases r with
      | tup hx rx => exact ⟨_, _, rfl, hx.sq, by rw [rx.length, bindTs_len hb, hl], c, ds, env', rel, rx, hb, fun σ' r' w' => q σ' r' fun vs hv => w' vs fun i hi => hv i (by simpa [tgtIx] using hi)⟩
    | _ => simp [bindT] at hb
theorem s_tgts (hc : X.calm = true) (hN : X.N.Nodup) : ∀ (ts : List Tgt) (es : List Expr), (∀ i ∈ tgtsIx ts, ∀ x, X.N[i]? = some x → X.env.scope.names.lookup x = some .cell → X.fn x = true) → tgtsB X.N X.env.scope ts es = true → PGs X es (tGs ts)
  | [], [], _, _ => PGs.imp pgs_nil fun v σ H Q ⟨c, ds, env', rel, r, hb, q⟩ => by
    cases ds with
    | nil =>
      cases r
      simp only [bindTs] at hb
      cases hb
      exact ⟨rfl, q σ rel fun _ _ => rfl⟩
    | cons _ _ => simp [bindTs] at hb
  | t :: ts, e :: es, hf, h => by
    simp only [tgtsB, Bool.and_eq_true, Bool.not_eq_true'] at h
    refine PGs.imp (pgs_cons (s_tgt hc hN t e (fun i hi => hf i (by simp [tgtsIx, hi])) h.1.1) (s_tgts hc hN ts es (fun i hi => hf i (by simp [tgtsIx, hi])) h.2) (each_cons h.1.2)) fun v σ H Q ⟨c, ds, env', rel, r, hb, q⟩ => ?_
    cases r with
    | nil => simp [bindTs] at hb
    | @cons v1 vs1 d1 ds1 r1 r2 =>
      simp only [bindTs] at hb
      cases hb1 : bindT t d1 c.env with
      | none => rw [hb1] at hb; cases hb
      | some env1 =>
        rw [hb1] at hb
        refine ⟨v1, vs1, rfl, c, d1, env1, rel, r1, hb1, fun σ1 rel1 w1 => ⟨{ c with env := env1 }, ds1, env', rel1, r2, hb, fun σ2 rel2 w2 => q σ2 rel2 fun ws hw => ?_⟩⟩
        rw [w2 ws fun i hi => hw i (by simp [tgtsIx, hi]), w1 ws fun i hi => hw i (by simp [tgtsIx, hi])]
  | [], _ :: _, _, h => by simp [tgtsB] at h
  | _ :: _, [], _, h => by simp [tgtsB] at h
end
end
end FC
end
section
set_option Elab.async false
set_option linter.all false
set_option maxRecDepth 100000
set_option maxHeartbeats 4000000
namespace FC
open PySem L2 PyProof.Rows
variable [EA]
def OwnO : Option HO → Prop
  | some (.lst _) => True
  | some (.dK _) => True
  | _ => False
section
variable {c c' : Cfg} {H H' : Hp} {D : Addr} {o : HO}
theorem Kp.mut (hD : OwnO (H D)) (nf : ¬ c.fz D) : Kp H (upd H D o) c.fz c.fz := by
  have nt : ∀ a p, TupQ H a p → a ≠ D := fun a p e z => by
    rw [z] at e
    rcases e with ⟨o, e, _⟩ | ⟨_, e⟩ <;> (rw [e] at hD; exact hD)
  exact ⟨fun _ h => h, fun a xs h e => by rw [upd_ne (fun z => nf (by rw [← z]; exact h))]; exact e, fun a p e => e.imp fun u eu _ => by rw [upd_ne (nt a p e)]; exact eu, fun a xs h e => by rw [upd_ne (fun z => nf (by rw [← z]; exact h))]; exact e, fun a _ _ e => by rw [upd_ne (fun z => by rw [← z, e] at hD; exact hD)]; exact e, fun a _ e => by rw [upd_ne (fun z => by rw [← z, e] at hD; exact hD)]; exact e⟩
theorem WF.mut (w : WF H c) (hD : OwnO (H D)) (nf : ¬ c.fz D) (no : D ∉ c.om) : WF H c → WF (upd H D o) c := fun _ => by
  refine ⟨w.nd, w.len, fun n a p h1 h2 => ?_, w.sep, fun a h => ?_, ?_, tabs_keep (fun b ps e => ?_) (fun b φ e => ?_) w.tab⟩
  · have q := w.obj n a p h1 h2
    have hne : a ≠ D := fun z => no (by rw [← z]; exact List.mem_of_getElem? h1)
    exact objOk.keep (Kp.mut hD nf) (fun u e => by rw [upd_ne hne]; exact e) q
  · rw [upd_ne (fun z => nf (by rw [← z]; exact h))]
    exact w.dom a h
  · obtain ⟨φ, e⟩ := w.sm
    refine ⟨φ, ?_⟩
    rw [upd_ne (fun z => by rw [← z, e] at hD; exact hD)]
    exact e
  · rw [upd_ne (fun z => by rw [← z, e] at hD; exact hD)]
    exact e
  · rw [upd_ne (fun z => by rw [← z, e] at hD; exact hD)]
    exact e
theorem Step.mut (s : Step c H c' H') (h0 : H D = none) (hD : OwnO (H' D)) (nf : ¬ c'.fz D) (no : D ∉ c'.om) : Step c H c' (upd H' D o) := by
  refine ⟨s.wf.mut hD nf no s.wf, s.fz, s.fzn, s.om, fun a p e hn ht => ?_, fun a ps e => ?_⟩
  · rw [upd_ne (fun z => by rw [z, h0] at e; cases e)]
    exact s.keep a p e hn ht
  · rw [upd_ne (fun z => by rw [z, h0] at e; cases e)]
    exact s.tbl a ps e
theorem own_om (w : WF H c) {xs : List V} (hD : H D = some (.lst xs)) : D ∉ c.om := w.not_om hD OmO.no_lst
theorem WF.fr (w : WF H c) (hD : H D ≠ none) (no : D ∉ c.om) : WF H (c.fr D) := by
  have kp : Kp H H c.fz (c.fr D).fz := ⟨fun _ h => .inl h, fun _ _ _ h => h, fun _ _ h => h, fun _ _ _ h => h, fun _ _ _ h => h, fun _ _ h => h⟩
  refine ⟨w.nd, w.len, fun n a p h1 h2 => ?_, fun a h => ?_, fun a h => ?_, w.sm, w.tab⟩
  · have q := w.obj n a p h1 h2
    exact objOk.keep kp (fun u e => e) q
  · rcases h with h | h
    · exact w.sep a h
    · rw [h]; exact no
  · rcases h with h | h
    · exact w.dom a h
    · rw [h]; exact hD
theorem Step.fr (s : Step c H c' H') (h0 : H D = none) (hD : H' D ≠ none) (no : D ∉ c'.om) : Step c H (c'.fr D) H' :=
  ⟨s.wf.fr hD no, fun a h => .inl (s.fz a h), fun a h => by
    rcases h with h | h
    · exact s.fzn a h
    · exact .inr (by rw [h]; exact h0), s.om, s.keep, s.tbl⟩
end
theorem wipe_wipe (σ : L2.St) : ∀ vs : List Nat, L2.wipe (L2.wipe σ vs) vs = L2.wipe σ vs := by
  have h : ∀ (ws vs : List Nat), (∀ i ∈ ws, i ∈ vs) → L2.wipe (L2.wipe σ ws) vs = L2.wipe σ vs := by
    intro ws
    induction ws with
    | nil => intro vs _; rfl
    | cons w ws ih =>
      intro vs hs
      show L2.wipe ((L2.wipe σ ws).set w none) vs = _
      rw [wipe_set (hs w (by simp))]
      exact ih vs fun i hi => hs i (by simp [hi])
  exact fun vs => h vs vs fun _ h => h
theorem compL_ne {f : PyData → Objs → R (Option PyData)} : ∀ {xs : List PyData} {os : Objs} {e : PExc} {o : Objs}, compL f xs os ≠ .er e o
  | [], _, _, _, h => by simp [compL] at h
  | x :: xs, os, e, o, h => by
    simp only [compL] at h
    cases hv : f x os with
    | ok y os1 =>
      rw [hv] at h
      cases hw : compL f xs os1 with
      | ok ys os2 => simp [R.noer, R.bind, hw] at h
      | er e2 o2 => exact compL_ne hw
      | st => simp [R.noer, R.bind, hw] at h
    | er e2 o2 => rw [hv] at h; simp [R.noer, R.bind] at h
    | st => rw [hv] at h; simp [R.noer, R.bind] at h
theorem compL_cons {f : PyData → Objs → R (Option PyData)} {x : PyData} {xs : List PyData} {os osF : Objs} {zs : List PyData} (h : compL f (x :: xs) os = .ok zs osF) :
    ∃ y os1 ys, f x os = .ok y os1 ∧ compL f xs os1 = .ok ys osF ∧ zs = (match y with | some z => z :: ys | none => ys) := by
  simp only [compL] at h
  cases hv : f x os with
  | ok y os1 =>
    rw [hv] at h
    cases hw : compL f xs os1 with
    | ok ys os2 =>
      simp only [R.noer, R.bind, hw] at h
      cases h
      exact ⟨y, os1, ys, rfl, hw, rfl⟩
    | er e2 o2 => simp [R.noer, R.bind, hw] at h
    | st => simp [R.noer, R.bind, hw] at h
  | er e2 o2 => rw [hv] at h; simp [R.noer, R.bind] at h
  | st => rw [hv] at h; simp [R.noer, R.bind] at h
def W0 : XK := fun _ _ _ => False
section
variable {G : Glob} {call : CallT} {ea : Nat → Addr} {k : Nat} {W : XK} {X : Cx}
def tCo (call : CallT) (ea : Nat → Addr) : Option Ex → TT
  | none => tYes
  | some a => tT call ea W0 a
theorem Gd.blk (g : Gd G call ea k W X) (s : Shared) (H : Hp) (scope : Scope) (cenv : Env) (fp : List Addr) : Gd G.off call ea k W0 (X.blk s H scope cenv fp) :=
  ⟨g.calm, g.nd, g.gu, g.rm, g.cst, g.blt, g.fns, LamX.takes0, g.er, SdOk.off, g.dct, fun h => by cases h⟩
def ownOf (N : List Str) (ix : List Nat) : List (Str × Nat) := ix.filterMap fun i => (N[i]?).map fun x => (x, i)
theorem ownOf_snd {N : List Str} : ∀ {ix : List Nat}, (∀ i ∈ ix, (N[i]?).isSome = true) → (ownOf N ix).map (·.2) = ix
  | [], _ => rfl
  | i :: ix, h => by
    obtain ⟨x, e⟩ := Option.isSome_iff_exists.mp (h i (by simp))
    simp only [ownOf, List.filterMap_cons, e, Option.map_some, List.map_cons]
    rw [show (List.filterMap (fun i => (N[i]?).map fun x => (x, i)) ix).map (·.2) = ix from ownOf_snd fun j hj => h j (by simp [hj])]
theorem blkB_ok {N : List Str} {sc scope : Scope} {own : List Nat} (h : blkB N sc scope own = true) : BlkOk N sc scope (ownOf N own) ∧ (ownOf N own).map (·.2) = own := by
  simp only [blkB, Bool.and_eq_true, List.all_eq_true, Bool.or_eq_true, Bool.not_eq_true', decide_eq_true_eq, List.any_eq_true, Bool.or_eq_false_iff, decide_eq_false_iff_not] at h
  obtain ⟨⟨⟨⟨h1, h2⟩, h3⟩, h4⟩, h5⟩ := h
  refine ⟨⟨?_, h2, fun p hp => ?_, fun y hy e => ?_, fun y hy e => ?_⟩, ownOf_snd h3⟩
  · split at h1
    · assumption
    · cases h1
  · simp only [ownOf, List.mem_filterMap, Option.map_eq_some_iff] at hp
    obtain ⟨i, hi, x, e, rfl⟩ := hp
    exact e
  · rcases h4 y hy with (z | z) | z
    · exact absurd e z
    · exact .inl z
    · exact .inr z
  · rcases h5 y hy with (z | z) | z
    · exact absurd e (fun q => q.elim z.1 z.2)
    · obtain ⟨i, hi, e2⟩ := z
      refine .inl (List.mem_map.mpr ⟨(y.1, i), ?_, rfl⟩)
      simp only [ownOf, List.mem_filterMap, Option.map_eq_some_iff]
      exact ⟨i, hi, y.1, e2, rfl⟩
    · exact .inr (by simpa using z)
def compF (call : CallT) (t : Tgt) (cnd : Option Ex) (el : Ex) (env : PEnv) : PyData → Objs → R (Option PyData) := fun x os2 => match bindT t x (clrL env (tgtIx t)) with
  | some env' => (evC call cnd env' os2).bind fun b os3 => if b then (ev call el env' os3).dat fun y os4 => .ok (some y) os4 else .ok none os3
  | none => .st
theorem ev_comp {t : Tgt} {it : It} {cnd : Option Ex} {el : Ex} {env : PEnv} {os : Objs} : ev call (.comp t it cnd el) env os = (evI call it env os).bind fun xs os1 => (compL (compF call t cnd el env) xs os1).bind fun ys os5 => if fit ys.length then .ok (.d (.list ys)) os5 else .st := by
  simp only [ev]
  rfl
def PoR (ea : Nat → Addr) (W : XK) (c : Cfg) (H : Hp) (r : R PV) (Q : VK) : Prop :=
  match r with
  | .ok (.d d) os => ownD d = true ∧ ∀ (D : Addr) (H' : Hp) (c' : Cfg), Step c H c' H' → c'.env = c.env → c'.os = os → ¬ c'.fz D → D ∉ c'.om → H D = none → ownRp H' c'.fz D d → Q (.ref D) H'
  | .ok _ _ => False
  | .er ex os => ∀ (cls : Value) (d : Option Addr) (H' : Hp) (c' : Cfg), Step c H c' H' → c'.env = c.env → c'.os = os → RpX ea c' H' cls d ex → W cls d H'
  | .st => False
def tR (call : CallT) (ea : Nat → Addr) (W : XK) (e : Ex) : TE := fun σ H Q => ∃ c, Rel c σ H ∧ PoR ea W c H (ev call e c.env c.os) Q
theorem PoR.after {c c1 : Cfg} {H H1 : Hp} {r : R PV} {Q : VK} (s : Step c H c1 H1) (e : c1.env = c.env) (h : PoR ea W c H r Q) : PoR ea W c1 H1 r Q := by
  match r, h with
  | .ok (.d d) os, h => exact ⟨h.1, fun D H' c' s' e' o nf no h0 r => h.2 D H' c' (s.trans s') (e'.trans e) o nf no (s.back h0) r⟩
  | .er ex os, h => exact fun x d H' c' s' e' o r => h x d H' c' (s.trans s') (e'.trans e) o r
theorem own_rp {H : Hp} {c : Cfg} {D : Addr} {d : PyData} (h : ownRp H c.fz D d) : Rp H (c.fr D).fz (.ref D) d := by
  have kp : Kp H H c.fz (c.fr D).fz := ⟨fun _ h => .inl h, fun _ _ _ h => h, fun _ _ h => h, fun _ _ _ h => h, fun _ _ _ h => h, fun _ _ h => h⟩
  cases d with
  | list ds => obtain ⟨xs, e, r⟩ := h; exact .lst (.inr rfl) e (RpA.keep kp r)
  | dict es => obtain ⟨xs, e, r⟩ := h; exact .dct (.inr rfl) e (RpK.keep kp r)
  | _ => exact h.elim
theorem PoE.raw {σ : L2.St} {c : Cfg} {H : Hp} {r : R PV} {Q : VK} (hr : ∀ v os, r = .ok v os → ∃ d, v = .d d ∧ ownD d = true) (h : PoE ea W false σ c H r Q) : PoR ea W c H r Q := by
  cases r with
  | ok v os =>
    obtain ⟨d, rfl, hd⟩ := hr v os rfl
    exact ⟨hd, fun D H' c' s e o nf no h0 r => h (.ref D) H' (c'.fr D) (s.fr h0 r.tracked no) e o (own_rp r)⟩
  | er ex os => exact h
  | st => exact h
theorem t_compR {t : Tgt} {it : It} {cnd : Option Ex} {el : Ex} {σ : L2.St} {H : Hp} {Q : VK} (hbe : isBor el = false) (q : tR call ea W (.comp t it cnd el) σ H Q) : tLc (tI call ea W it) (tG t) (tCo call ea cnd) (tE call ea W0 el) (tgtIx t) σ H Q := by
  obtain ⟨c, rel, q⟩ := q
  refine ⟨c, rel, ?_⟩
  rw [ev_comp] at q
  cases hI : evI call it c.env c.os with
  | st => rw [hI] at q; exact q
  | er ex os => rw [hI] at q; exact q
  | ok xs os1 =>
    rw [hI] at q
    intro J H1 c1 s1 e1 o1 hJ D hD
    generalize hF : compF call t cnd el c.env = F at q
    have hC : ∃ ys osF, compL F xs os1 = .ok ys osF ∧ fit ys.length = true ∧ PoR ea W c H (.ok (.d (.list ys)) osF) Q := by
      cases hv : compL F xs os1 with
      | ok ys osF =>
        have q2 : PoR ea W c H (if fit ys.length then .ok (.d (.list ys)) osF else .st) Q := by
          simp only [R.bind, hv] at q
          exact q
        split at q2
        · exact ⟨ys, osF, rfl, by assumption, q2⟩
        · exact q2.elim
      | er e o => exact absurd hv compL_ne
      | st => simp only [R.bind, hv] at q; exact q.elim
    obtain ⟨ys, osF, hC, hfit, q⟩ := hC
    have w1 := s1.wf
    have rel1 := rel.step s1 e1
    have hfit := fit_le hfit
    refine ⟨fun i m Hi => ∃ (ci : Cfg) (acc : List V) (ds rest : List PyData), Step c1 H1 ci Hi ∧ ci.env = c.env ∧ Hi D = some (.lst acc) ∧ ¬ ci.fz D ∧ RpA Hi ci.fz acc ds ∧ compL F (xs.drop i) ci.os = .ok rest osF ∧ ds ++ rest = ys ∧ m = xs.length - i ∧ i ≤ xs.length, ⟨xs.length, c1, [], [], ys, (step_any w1 hD (.lst [])).1, e1, upd_same, fun z => w1.dom D z hD, .nil, ?_, rfl, by simp, Nat.zero_le _⟩, ?_⟩
    · rw [o1]; exact hC
    rintro i m Hi ⟨ci, acc, ds, rest, si, ei, aD, nf, rA, hr, hy, rfl, hle⟩
    have hJi := hJ ci Hi si.wf (si.kp w1)
    have noD := own_om si.wf aD
    by_cases hlt : i < xs.length
    · right
      have hx : xs[i]? = some xs[i] := List.getElem?_eq_getElem hlt
      obtain ⟨hgo, hyl⟩ := hJi.1 i _ hx
      rw [List.drop_eq_getElem_cons hlt] at hr
      obtain ⟨y, os2, ys2, f1, f2, f3⟩ := compL_cons hr
      refine ⟨hgo, fun H' => ∃ (ci : Cfg) (acc : List V) (ds rest : List PyData), Step c1 H1 ci H' ∧ ci.env = c.env ∧ H' D = some (.lst acc) ∧ ¬ ci.fz D ∧ RpA H' ci.fz acc ds ∧ compL F (xs.drop (i + 1)) ci.os = .ok rest osF ∧ ds ++ rest = ys, fun H' ⟨cj, acc', ds', rest', a1, a2, a3, a4, a5, a6, a7⟩ => ⟨xs.length - (i + 1), by omega, cj, acc', ds', rest', a1, a2, a3, a4, a5, a6, a7, rfl, hlt⟩, fun x H2 hy2 => ?_⟩
      obtain ⟨c2, s2, e2, o2, r2⟩ := hyl x H2 hy2
      have t2 : Step c1 H1 c2 H2 := si.trans s2
      have relW : Rel { c2 with env := clrL c.env (tgtIx t) } (L2.wipe σ (tgtIx t)) H2 := by
        have := (rel1.step t2 ((e2.trans ei).trans e1.symm)).wipe (tgtIx t)
        rw [show c2.env = c.env from e2.trans ei] at this
        exact this
      rw [← hF] at f1
      unfold compF at f1
      cases hb : bindT t xs[i] (clrL c.env (tgtIx t)) with
      | none => rw [hb] at f1; cases f1
      | some env' =>
        rw [hb] at f1
        dsimp only at f1
        refine ⟨{ c2 with env := clrL c.env (tgtIx t) }, xs[i], env', relW, r2, hb, fun σ2 rel2 w2 => ⟨?_, ?_⟩⟩
        · rw [w2 (tgtIx t) fun _ h => h, wipe_wipe]
        have accN : acc.length = ds.length := rA.length
        -- behind the test
        have tail : ∀ (b : Bool) (H3 : Hp) (c3 : Cfg), Step { c2 with env := env' } H2 c3 H3 → c3.env = env' → evC call cnd env' ci.os = .ok b c3.os → Rel c3 σ2 H3 →
            (if b = true then tE call ea W0 el σ2 H3 fun y H4 => ∃ acc, H4 D = some (.lst acc) ∧ acc.length < sizeLine ∧ (∃ (ci : Cfg) (acc' : List V) (ds rest : List PyData), Step c1 H1 ci (upd H4 D (.lst (acc ++ [y]))) ∧ ci.env = c.env ∧ upd H4 D (.lst (acc ++ [y])) D = some (.lst acc') ∧ ¬ ci.fz D ∧ RpA (upd H4 D (.lst (acc ++ [y]))) ci.fz acc' ds ∧ compL F (xs.drop (i + 1)) ci.os = .ok rest osF ∧ ds ++ rest = ys)
              else ∃ (ci : Cfg) (acc : List V) (ds rest : List PyData), Step c1 H1 ci H3 ∧ ci.env = c.env ∧ H3 D = some (.lst acc) ∧ ¬ ci.fz D ∧ RpA H3 ci.fz acc ds ∧ compL F (xs.drop (i + 1)) ci.os = .ok rest osF ∧ ds ++ rest = ys) := by
          intro b H3 c3 s3 e3 hv rel3
          rw [hv] at f1
          simp only [R.bind] at f1
          have s3' : Step c2 H2 c3 H3 := ⟨s3.wf, s3.fz, s3.fzn, s3.om, s3.keep, s3.tbl⟩
          have u3 : Step ci Hi c3 H3 := s2.trans s3'
          have D3 : H3 D = some (.lst acc) := u3.keep D _ aD noD (by simp)
          have nf3 : ¬ c3.fz D := fun z => by
            rcases u3.fzn D z with z | z
            · exact nf z
            · rw [aD] at z; cases z
          have r3 : RpA H3 c3.fz acc ds := RpA.keep (u3.kp si.wf) rA
          cases b with
          | false =>
            rw [if_neg Bool.false_ne_true] at f1 ⊢
            cases f1
            refine ⟨{ c3 with env := c.env }, acc, ds, ys2, (si.trans u3).env _, rfl, D3, nf3, r3, f2, ?_⟩
            rw [← hy, f3]
          | true =>
            rw [if_pos rfl] at f1 ⊢
            refine ⟨c3, rel3, ?_⟩
            rw [e3]
            match hw : ev call el env' c3.os, f1 with
            | .ok (.d z) os4, f1 =>
              simp only [R.dat] at f1
              cases f1
              intro yv H4 c4 s4 e4 o4 r4
              rw [hbe] at r4
              have u4 : Step ci Hi c4 H4 := u3.trans s4
              have D4 : H4 D = some (.lst acc) := u4.keep D _ aD noD (by simp)
              have nf4 : ¬ c4.fz D := fun z => by
                rcases u4.fzn D z with z | z
                · exact nf z
                · rw [aD] at z; cases z
              have own4 : OwnO (H4 D) := by rw [D4]; trivial
              have kp4 : Kp H4 (upd H4 D (.lst (acc ++ [yv]))) c4.fz c4.fz := Kp.mut own4 nf4
              have hlen : acc.length < sizeLine := by
                have : (ds ++ z :: ys2).length = ys.length := by rw [← hy, f3]
                rw [List.length_append, List.length_cons] at this
                omega
              refine ⟨acc, D4, hlen, { c4 with env := c.env }, acc ++ [yv], ds ++ [z], ys2, ((si.trans u4).mut hD own4 nf4 (own_om u4.wf D4)).env _, rfl, upd_same, nf4, (RpA.keep ((u4.kp si.wf).trans kp4) rA).append (.cons (Rp.keep kp4 r4) .nil), by rw [show ({ c4 with env := c.env } : Cfg).os = _ from o4]; exact f2, ?_⟩
              rw [← hy, f3]
              simp
        have os2e : c2.os = ci.os := o2
        cases cnd with
        | none =>
          exact tail true H2 { c2 with env := env' } (Step.refl (t2.wf.env _)) rfl (by simp only [evC]; rw [os2e]) rel2
        | some a =>
          refine ⟨{ c2 with env := env' }, rel2, ?_⟩
          simp only [evC, ← os2e] at f1 tail
          show PoT ea W0 σ2 _ H2 (ev call a env' c2.os) _
          match hw : ev call a env' c2.os, f1 with
          | .ok (.d (.bool b)) os3, f1 =>
            intro H3 c3 s3 e3 o3
            refine tail b H3 c3 s3 e3 ?_ (rel2.step s3 e3)
            rw [hw, o3]
            rfl
    · left
      have ei' : i = xs.length := by omega
      subst ei'
      refine ⟨hJi.2, ?_⟩
      rw [List.drop_of_length_le (Nat.le_refl _)] at hr
      simp only [compL] at hr
      cases hr
      rw [List.append_nil] at hy
      subst hy
      exact q.2 D Hi ci (s1.trans si) ei rfl nf noD (s1.back hD) ⟨acc, aD, rA⟩
theorem comp_dat {t : Tgt} {it : It} {cnd : Option Ex} {el : Ex} {env : PEnv} {os : Objs} : ∀ v o, ev call (.comp t it cnd el) env os = .ok v o → ∃ d, v = .d d ∧ ownD d = true := by
  intro v o h
  rw [ev_comp] at h
  cases h1 : evI call it env os with
  | ok xs o1 =>
    rw [h1] at h
    simp only [R.bind] at h
    split at h
    · split at h
      · cases h; exact ⟨_, rfl, rfl⟩
      · cases h
    · cases h
    · cases h
  | er _ _ => rw [h1] at h; cases h
  | st => rw [h1] at h; cases h
theorem t_comp {t : Tgt} {it : It} {cnd : Option Ex} {el : Ex} {σ : L2.St} {H : Hp} {Q : VK} (hbe : isBor el = false) (q : tE call ea W (.comp t it cnd el) σ H Q) : tLc (tI call ea W it) (tG t) (tCo call ea cnd) (tE call ea W0 el) (tgtIx t) σ H Q := by
  obtain ⟨c, rel, q⟩ := q
  exact t_compR hbe ⟨c, rel, PoE.raw comp_dat q⟩
end
end FC
end
section
set_option Elab.async false
set_option linter.all false
set_option maxRecDepth 100000
set_option maxHeartbeats 4000000
namespace PySem
section
variable {prog : Program} {w : World} {A : Around} {E : Value → Shared → Prop} {s : Shared}
theorem zipM_next_item {z TI TO i1 i2 l1 l2 : Addr} {k1 k2 : Nat} {xs ys : Array Value} {x y a b : Value} {Q : Value → Shared → Prop} (D : ZipApart z TI TO i1 i2 l1 l2) (hz : IsZip s.heap z TI TO .none) (hTI : IsPair s.heap TI (.ref i1) (.ref i2)) (hTO : IsPair s.heap TO a b) (h1 : s.heap.IsTupleIter i1 l1 k1) (h2 : s.heap.IsListIter i2 l2 k2) (hl1 : s.heap.IsTuple l1 xs) (hl2 : s.heap.IsList l2 ys) (hx : xs[k1]? = some x) (hy : ys[k2]? = some y)
    (hQ : ∀ h' : Heap, IsZip h' z TI TO (rawInt (s.heap.objs.size : Nat)) → IsPair h' TO x y → h'.IsTupleIter i1 l1 (k1 + 1) → h'.IsListIter i2 l2 (k2 + 1) → IsPair h' s.heap.objs.size x y → h'.objs.size = s.heap.objs.size + 1 → (∀ c o, c ≠ z → c ≠ TO → c ≠ i1 → c ≠ i2 → s.heap.get? c = some o → h'.get? c = some o) → Q (.ref s.heap.objs.size) { s with heap := h' }) :
    wpAny (model prog w) A (Builtin.«zip.__next__» { pos := [.ref z] }) (fun fin s' => ∃ v, fin = .done (.ret v) ∧ Q v s') E s := by
  change wpAny (model prog w) A (field (.ref z) 2 >>= _) _ E s
  refine wpAny_bind (wpAny_field hz rfl rfl ?_)
  change wpAny (model prog w) A (field (.ref z) 3 >>= _) _ E s
  refine wpAny_bind (wpAny_field hz rfl rfl ?_)
  refine wpAny_bind (wpAny_seqItems hTI rfl ?_)
  refine wpAny_bind (wpAny_bind (wpAny_field hz rfl rfl (wpAny_pure ?_)))
  rw [if_pos (by rfl)]
  refine wpAny_bind (wpAny_rule ?_)
  refine wpAny_bind (wpAny_field hz rfl rfl ?_)
  refine wpAny_bind (wpAny_setField_rec hz (by simp) fun h1' hz1 sb1 => ?_)
  refine wpAny_bind ?_
  simp only [List.zipIdx_cons, List.zipIdx_nil, List.forIn_cons, List.forIn_nil]
  refine wpAny_bind ?_
  refine wpAny_bind (wpAny_onRaise ?_)
  refine wpAny_bind (RZ.nextOf_tuple_item (h1.extBut sb1.extBut D.i1z) (hl1.extBut sb1.extBut D.l1z) hx fun h2' q2 sb2 => ?_)
  refine wpAny_pure ?_
  have hTO2 : h2'.get? TO = some { cls := .type "tuple", data := .seq #[a, b] } := by rw [sb2.2 TO D.TOi1, sb1.2 TO D.TOz]; exact hTO
  refine wpAny_bind (wpAny_seqItems hTO2 rfl ?_)
  refine wpAny_bind (wpAny_updateSeq_pair (x := x) (k := 0) hTO2 fun h3' q3 sb3 => ?_)
  refine wpAny_bind (wpAny_letGo ?_)
  refine wpAny_pure ?_
  refine wpAny_bind ?_
  refine wpAny_bind (wpAny_onRaise ?_)
  have g2 : h3'.IsListIter i2 l2 k2 := ((h2.extBut sb1.extBut D.i2z).extBut sb2.extBut (Ne.symm D.i12)).extBut sb3.extBut (Ne.symm D.TOi2)
  have gl2 : h3'.IsList l2 ys := ((hl2.extBut sb1.extBut D.l2z).extBut sb2.extBut D.l2i1).extBut sb3.extBut D.l2TO
  refine wpAny_bind (wpAny_nextOf_list_item g2 gl2 hy fun h4' q4 sb4 => ?_)
  refine wpAny_pure ?_
  have hTO4 : h4'.get? TO = some { cls := .type "tuple", data := .seq #[x, b] } := by rw [sb4.2 TO D.TOi2]; exact q3
  refine wpAny_bind (wpAny_seqItems hTO4 rfl ?_)
  refine wpAny_bind (wpAny_updateSeq_pair (x := y) (k := 1) hTO4 fun h5' q5 sb5 => ?_)
  refine wpAny_bind (wpAny_letGo ?_)
  refine wpAny_pure ?_
  refine wpAny_pure ?_
  refine wpAny_bind (wpAny_seqItems q5 rfl ?_)
  refine wpAny_bind (wpAny_newTuple ?_ (by simp [sizeLine_eq]))
  have n0 : h5'.objs.size = s.heap.objs.size := by rw [sb5.1, sb4.1, sb3.1, sb2.1, sb1.1]
  have hz5 : h5'.get? z = some { cls := .type "zip", data := .fields #[.ellipsis, .bool false, .bool false, .ref TI, .ref TO] } := by
    rw [sb5.2 z (Ne.symm D.TOz), sb4.2 z (Ne.symm D.i2z), sb3.2 z (Ne.symm D.TOz), sb2.2 z (Ne.symm D.i1z)]; exact hz1
  have hz6 : (h5'.push { cls := .type "tuple", data := .seq #[x, y] }).get? z = some { cls := .type "zip", data := .fields #[.ellipsis, .bool false, .bool false, .ref TI, .ref TO] } := Heap.get?_push_of_some _ hz5
  refine wpAny_bind (wpAny_bind (wpAny_setField_rec (s := ⟨h5'.push { cls := .type "tuple", data := .seq #[x, y] }, s.gens, s.drawn, s.toks, s.os⟩) (a := z) (k := 0) hz6 (Nat.zero_lt_succ _) fun h7' q7 sb7 => ?_))
  refine wpAny_setField_rec (s := ⟨h7', s.gens, s.drawn, s.toks, s.os⟩) (a := z) (k := 1) q7 (by simp) fun h8' q8 sb8 => ?_
  refine wpAny_pure ⟨_, rfl, ?_⟩
  have lz : z ≠ s.heap.objs.size := Nat.ne_of_lt (Heap.lt_size hz)
  have lTO : TO ≠ s.heap.objs.size := Nat.ne_of_lt (Heap.lt_size hTO)
  have keep : ∀ c o, c ≠ z → h5'.get? c = some o → h8'.get? c = some o := fun c o hc e => by rw [sb8.2 c hc, sb7.2 c hc]; exact Heap.get?_push_of_some _ e
  have keep0 : ∀ c, c ≠ z → c ≠ TO → c ≠ i1 → c ≠ i2 → h5'.get? c = s.heap.get? c := fun c c1 c2 c3 c4 => by rw [sb5.2 c c2, sb4.2 c c4, sb3.2 c c2, sb2.2 c c3, sb1.2 c c1]
  have hp : h8'.get? s.heap.objs.size = some { cls := .type "tuple", data := .seq #[x, y] } := by
    rw [sb8.2 _ (Ne.symm lz), sb7.2 _ (Ne.symm lz)]
    show (h5'.push _).get? _ = _
    rw [← n0]
    exact Heap.get?_push_size _ rfl
  have hs : h8'.objs.size = s.heap.objs.size + 1 := by
    rw [sb8.1, sb7.1]
    show (h5'.push _).objs.size = _
    rw [Heap.size_push, n0]
  have t1 : h8'.IsTupleIter i1 l1 (k1 + 1) := (((q2.extBut sb3.extBut (Ne.symm D.TOi1)).extBut sb4.extBut D.i12).extBut sb5.extBut (Ne.symm D.TOi1)).at fun o e => keep i1 o D.i1z e
  have t2 : h8'.IsListIter i2 l2 (k2 + 1) := (q4.extBut sb5.extBut (Ne.symm D.TOi2)).at fun o e => keep i2 o D.i2z e
  have fin := hQ h8' (by rw [← n0]; exact q8) (keep TO _ D.TOz q5) t1 t2 hp hs fun c o c1 c2 c3 c4 e => keep c o c1 (by rw [keep0 c c1 c2 c3 c4]; exact e)
  have e : Value.ref h5'.objs.size = Value.ref s.heap.objs.size := by rw [n0]
  show Q (Value.ref h5'.objs.size) _
  rw [e]
  exact fin
theorem zipM_next_end (hh : A.handled = none) {z TI TO i1 i2 l1 l2 : Addr} {k1 k2 : Nat} {xs ys : Array Value} {a b : Value} {Q : PySem.Fin → Shared → Prop} (D : ZipApart z TI TO i1 i2 l1 l2) (hz : IsZip s.heap z TI TO .none) (hTI : IsPair s.heap TI (.ref i1) (.ref i2)) (hTO : IsPair s.heap TO a b) (h1 : s.heap.IsTupleIter i1 l1 k1) (h2 : s.heap.IsListIter i2 l2 k2) (hl1 : s.heap.IsTuple l1 xs) (hl2 : s.heap.IsList l2 ys) (hend : xs[k1]? = none ∨ ys[k2]? = none)
    (hQ : ∀ (h' : Heap) (e : Addr), (∀ c o, c ≠ z → c ≠ TO → c ≠ i1 → c ≠ i2 → s.heap.get? c = some o → h'.get? c = some o) → (∃ o, h'.get? e = some o ∧ o.cls = .type "StopIteration") → E (.ref e) { s with heap := h' }) :
    wpAny (model prog w) A (Builtin.«zip.__next__» { pos := [.ref z] }) Q E s := by
  change wpAny (model prog w) A (field (.ref z) 2 >>= _) _ E s
  refine wpAny_bind (wpAny_field hz rfl rfl ?_)
  change wpAny (model prog w) A (field (.ref z) 3 >>= _) _ E s
  refine wpAny_bind (wpAny_field hz rfl rfl ?_)
  refine wpAny_bind (wpAny_seqItems hTI rfl ?_)
  refine wpAny_bind (wpAny_bind (wpAny_field hz rfl rfl (wpAny_pure ?_)))
  rw [if_pos (by rfl)]
  refine wpAny_bind (wpAny_rule ?_)
  refine wpAny_bind (wpAny_field hz rfl rfl ?_)
  refine wpAny_bind (wpAny_setField_rec hz (by simp) fun h1' hz1 sb1 => ?_)
  refine wpAny_bind ?_
  simp only [List.zipIdx_cons, List.zipIdx_nil, List.forIn_cons, List.forIn_nil]
  refine wpAny_bind ?_
  refine wpAny_bind (wpAny_onRaise ?_)
  -- an error's end: the zip's field, the error
  have out : ∀ (h' : Heap) (e : Addr), (∀ c o, c ≠ i1 → c ≠ i2 → c ≠ TO → h1'.get? c = some o → h'.get? c = some o) → (∃ o, h'.get? e = some o ∧ o.cls = .type "StopIteration") → wpAny (model prog w) A (setField (.ref z) 0 .none) (fun _ s'' => E (.ref e) s'') E { s with heap := h' } := fun h' e hk he => by
    have hz' := hk z _ (Ne.symm D.i1z) (Ne.symm D.i2z) (Ne.symm D.TOz) hz1
    refine wpAny_setField_rec (s := ⟨h', s.gens, s.drawn, s.toks, s.os⟩) hz' (by simp) fun h'' q' sb' => ?_
    refine hQ h'' e (fun c o c1 c2 c3 c4 q => ?_) ?_
    · rw [sb'.2 c c1]
      exact hk c o c3 c4 c2 (by rw [sb1.2 c c1]; exact q)
    · obtain ⟨o, e1, e2⟩ := he
      refine ⟨o, ?_, e2⟩
      rw [sb'.2 e fun x => by subst x; rw [hz'] at e1; cases e1; simp at e2]
      exact e1
  have g1 : h1'.IsTupleIter i1 l1 k1 := h1.extBut sb1.extBut D.i1z
  have gl1 : h1'.IsTuple l1 xs := hl1.extBut sb1.extBut D.l1z
  cases hx : xs[k1]? with
  | none => exact wpAny_bind (RZ.nextOf_tuple_end hh g1 gl1 hx fun h2' e x2 he => out h2' e (fun c o c1 _ _ q => x2 c o c1 q) he)
  | some x =>
  have hy : ys[k2]? = none := by
    rcases hend with h | h
    · rw [hx] at h; cases h
    · exact h
  refine wpAny_bind (RZ.nextOf_tuple_item g1 gl1 hx fun h2' q2 sb2 => ?_)
  refine wpAny_pure ?_
  have hTO2 : h2'.get? TO = some { cls := .type "tuple", data := .seq #[a, b] } := by rw [sb2.2 TO D.TOi1, sb1.2 TO D.TOz]; exact hTO
  refine wpAny_bind (wpAny_seqItems hTO2 rfl ?_)
  refine wpAny_bind (wpAny_updateSeq_pair (x := x) (k := 0) hTO2 fun h3' q3 sb3 => ?_)
  refine wpAny_bind (wpAny_letGo ?_)
  refine wpAny_pure ?_
  refine wpAny_bind ?_
  refine wpAny_bind (wpAny_onRaise ?_)
  have g2 : h3'.IsListIter i2 l2 k2 := ((h2.extBut sb1.extBut D.i2z).extBut sb2.extBut (Ne.symm D.i12)).extBut sb3.extBut (Ne.symm D.TOi2)
  have gl2 : h3'.IsList l2 ys := ((hl2.extBut sb1.extBut D.l2z).extBut sb2.extBut D.l2i1).extBut sb3.extBut D.l2TO
  exact wpAny_bind (wpAny_nextOf_list_end hh g2 gl2 hy fun h4' e x4 he => out h4' e (fun c o c1 c2 c3 q => x4 c o c2 (by rw [sb3.2 c c3, sb2.2 c c1]; exact q)) he)
theorem pyNext_zipM_item {z TI TO i1 i2 l1 l2 : Addr} {k1 k2 : Nat} {xs ys : Array Value} {x y a b : Value} {Q : Option Value → Shared → Prop} (D : ZipApart z TI TO i1 i2 l1 l2) (hz : IsZip s.heap z TI TO .none) (hTI : IsPair s.heap TI (.ref i1) (.ref i2)) (hTO : IsPair s.heap TO a b) (h1 : s.heap.IsTupleIter i1 l1 k1) (h2 : s.heap.IsListIter i2 l2 k2) (hl1 : s.heap.IsTuple l1 xs) (hl2 : s.heap.IsList l2 ys) (hx : xs[k1]? = some x) (hy : ys[k2]? = some y)
    (hQ : ∀ h' : Heap, IsZip h' z TI TO (rawInt (s.heap.objs.size : Nat)) → IsPair h' TO x y → h'.IsTupleIter i1 l1 (k1 + 1) → h'.IsListIter i2 l2 (k2 + 1) → IsPair h' s.heap.objs.size x y → h'.objs.size = s.heap.objs.size + 1 → (∀ c o, c ≠ z → c ≠ TO → c ≠ i1 → c ≠ i2 → s.heap.get? c = some o → h'.get? c = some o) → Q (some (.ref s.heap.objs.size)) { s with heap := h' }) :
    wpAny (model prog w) A (pyNext (.ref z)) Q E s := by
  refine wpAny_bind (wpAny_attempt (wpAny_callSpecial?_slot ⟨_, hz, rfl⟩ F.slot_zip_next (wpAny_call_entry F.slot_zip_next ⟨_, hz, rfl⟩ F.entry_zip_next (zipM_next_item D hz hTI hTO h1 h2 hl1 hl2 hx hy fun h' a1 a2 a3 a4 a5 a6 a7 => ?_) (F.args_zip_next_1 _))))
  exact wpAny_pure (hQ h' a1 a2 a3 a4 a5 a6 a7)
theorem pyNext_zipM_end (hh : A.handled = none) {z TI TO i1 i2 l1 l2 : Addr} {k1 k2 : Nat} {xs ys : Array Value} {a b : Value} {Q : Option Value → Shared → Prop} (D : ZipApart z TI TO i1 i2 l1 l2) (hz : IsZip s.heap z TI TO .none) (hTI : IsPair s.heap TI (.ref i1) (.ref i2)) (hTO : IsPair s.heap TO a b) (h1 : s.heap.IsTupleIter i1 l1 k1) (h2 : s.heap.IsListIter i2 l2 k2) (hl1 : s.heap.IsTuple l1 xs) (hl2 : s.heap.IsList l2 ys) (hend : xs[k1]? = none ∨ ys[k2]? = none)
    (hQ : ∀ h' : Heap, (∀ c o, c ≠ z → c ≠ TO → c ≠ i1 → c ≠ i2 → s.heap.get? c = some o → h'.get? c = some o) → Q none { s with heap := h' }) :
    wpAny (model prog w) A (pyNext (.ref z)) Q E s := by
  refine wpAny_bind (wpAny_attempt (wpAny_callSpecial?_slot ⟨_, hz, rfl⟩ F.slot_zip_next (wpAny_call_entry F.slot_zip_next ⟨_, hz, rfl⟩ F.entry_zip_next (zipM_next_end (A := A.in1) hh D hz hTI hTO h1 h2 hl1 hl2 hend fun h' e hk he => ?_) (F.args_zip_next_1 _))))
  obtain ⟨o, e1, e2⟩ := he
  refine wpAny_bind (wpAny_isInstance (T := "StopIteration") ⟨o, e1, e2⟩ isSubtype_stop ?_)
  exact wpAny_pure (hQ h' hk)
abbrev zmH1 (h : Heap) (l1 : Addr) : Heap := h.push { cls := .type "tuple_iterator", data := .fields #[.ref l1, .int 0 0] }
abbrev zmH2 (h : Heap) (l1 l2 : Addr) : Heap := (zmH1 h l1).push { cls := .type "list_iterator", data := .fields #[.ref l2, .int 0 0] }
abbrev zmH3 (h : Heap) (l1 l2 : Addr) : Heap := (zmH2 h l1 l2).push { cls := .type "tuple", data := .seq #[.ref h.objs.size, .ref (zmH1 h l1).objs.size] }
abbrev zmH4 (h : Heap) (l1 l2 : Addr) : Heap := (zmH3 h l1 l2).push { cls := .type "tuple", data := .seq #[.none, .none] }
abbrev zmH5 (h : Heap) (l1 l2 : Addr) : Heap := (zmH4 h l1 l2).push { cls := .type "zip", data := .fields #[.none, .bool false, .bool false, .ref (zmH2 h l1 l2).objs.size, .ref (zmH3 h l1 l2).objs.size] }
theorem meets_zipM_new (l1 l2 : Addr) (xs ys : Array Value) : Meets (Builtin.«zip.__new__» { pos := [.type "zip", .ref l1, .ref l2] }) fun _ R s => s.heap.IsTuple l1 xs ∧ s.heap.IsList l2 ys ∧ R (.ok (.ret (.ref (zmH4 s.heap l1 l2).objs.size))) { heap := zmH5 s.heap l1 l2, gens := s.gens, drawn := s.drawn, toks := s.toks, os := s.os } :=
  Meets.of_wp fun prog w A R s h => by
    obtain ⟨hp, g, d, tk, os⟩ := s
    obtain ⟨hl1, hl2, h⟩ := h
    have hsub := sub_zip
    have hL1 : (⟨hp, g, d, tk, os⟩ : Shared).heap.IsTuple l1 xs := hl1
    have hL2 := Heap.IsList.push hl2 { cls := .type "tuple_iterator", data := .fields #[.ref l1, .int 0 0] }
    unfold Builtin.«zip.__new__»
    refine wpAny_bind (wpAny_bind (wpAny_pure (wpAny_ite_false rfl (wpAny_bind (wpAny_of_eq hsub (wpAny_ite_false rfl (wpAny_pure ?_)))))))
    refine wpAny_ite_false rfl ?_
    refine wpAny_bind ?_
    unfold Builtin.SmallTypes.iterAll
    simp only [List.forIn_cons, List.forIn_nil]
    refine wpAny_bind ?_
    refine wpAny_bind ?_
    refine wpAny_bind ?_
    refine wpAny_holding ?_
    refine wpAny_pyIter_tuple hL1 ?_
    refine wpAny_pure ?_
    refine wpAny_bind ?_
    refine wpAny_bind ?_
    refine wpAny_holding ?_
    refine wpAny_pyIter_list hL2 ?_
    refine wpAny_pure ?_
    refine wpAny_pure ?_
    refine wpAny_pure ?_
    refine wpAny_bind (wpAny_newTuple ?_ (by simp [sizeLine_eq]))
    refine wpAny_bind (wpAny_newTuple ?_ (by simp [sizeLine_eq]))
    refine wpAny_bind ?_
    unfold Builtin.SmallTypes.newRecord
    exact wpAny_newObj_type (wpAny_pure ⟨_, rfl, h⟩) (by simp [sizeOk, sizeLine_eq, Builtin.SmallTypes.ownedTupleFields])
theorem call_zipM {prog : Program} {w : World} {A : Around} {E : Value → Shared → Prop} {s : Shared} {l1 l2 : Addr} {xs ys : Array Value} {Q : Value → Shared → Prop} (hl1 : s.heap.IsTuple l1 xs) (hl2 : s.heap.IsList l2 ys)
    (h : ∀ h' : Heap, IsZip h' (s.heap.objs.size + 4) (s.heap.objs.size + 2) (s.heap.objs.size + 3) .none → IsPair h' (s.heap.objs.size + 2) (.ref s.heap.objs.size) (.ref (s.heap.objs.size + 1)) → IsPair h' (s.heap.objs.size + 3) .none .none → h'.IsTupleIter s.heap.objs.size l1 0 → h'.IsListIter (s.heap.objs.size + 1) l2 0 → h'.objs.size = s.heap.objs.size + 5 → (∀ c o, s.heap.get? c = some o → h'.get? c = some o) → Q (.ref (s.heap.objs.size + 4)) { s with heap := h' }) :
    wpAny (model prog w) A (call (.type "zip") [.ref l1, .ref l2]) Q E s := by
  refine callType_new F.called_zip (by decide) (F.typeCall_zip_2 _ _) (F.newCall_zip_2 _ _) (fun obj => F.args_object_init_3 obj _ _) F.entry_zip_new (meets_zipM_new l1 l2 xs ys) ⟨hl1, hl2, ?_⟩
  have z1 : (zmH1 s.heap l1).objs.size = s.heap.objs.size + 1 := Heap.size_push ..
  have z2 : (zmH2 s.heap l1 l2).objs.size = s.heap.objs.size + 2 := by rw [zmH2, Heap.size_push, z1]
  have z3 : (zmH3 s.heap l1 l2).objs.size = s.heap.objs.size + 3 := by rw [zmH3, Heap.size_push, z2]
  have z4 : (zmH4 s.heap l1 l2).objs.size = s.heap.objs.size + 4 := by rw [zmH4, Heap.size_push, z3]
  have z5 : (zmH5 s.heap l1 l2).objs.size = s.heap.objs.size + 5 := by rw [zmH5, Heap.size_push, z4]
  have g5 : (zmH5 s.heap l1 l2).get? (zmH4 s.heap l1 l2).objs.size = _ := Heap.get?_push_size _ rfl
  have g4 : (zmH5 s.heap l1 l2).get? (zmH3 s.heap l1 l2).objs.size = _ := Heap.get?_push_of_some _ (Heap.get?_push_size _ rfl)
  have g3 : (zmH5 s.heap l1 l2).get? (zmH2 s.heap l1 l2).objs.size = _ := Heap.get?_push_of_some _ (Heap.get?_push_of_some _ (Heap.get?_push_size _ rfl))
  have g2 : (zmH5 s.heap l1 l2).get? (zmH1 s.heap l1).objs.size = _ := Heap.get?_push_of_some _ (Heap.get?_push_of_some _ (Heap.get?_push_of_some _ (Heap.get?_push_size _ rfl)))
  have g1 : (zmH5 s.heap l1 l2).get? s.heap.objs.size = _ := Heap.get?_push_of_some _ (Heap.get?_push_of_some _ (Heap.get?_push_of_some _ (Heap.get?_push_of_some _ (Heap.get?_push_size _ rfl))))
  have hk : ∀ c o, s.heap.get? c = some o → (zmH5 s.heap l1 l2).get? c = some o := fun c o e => Heap.get?_push_of_some _ (Heap.get?_push_of_some _ (Heap.get?_push_of_some _ (Heap.get?_push_of_some _ (Heap.get?_push_of_some _ e))))
  rw [z4, z3, z2] at g5
  rw [z3] at g4
  rw [z2, z1] at g3
  rw [z1] at g2
  show (_ : Shared).TypeIs (.ref (zmH4 s.heap l1 l2).objs.size) "zip" ∧ Q (.ref (zmH4 s.heap l1 l2).objs.size) _
  rw [z4]
  exact ⟨⟨_, g5, rfl⟩, h (zmH5 s.heap l1 l2) g5 g3 g4 ⟨_, g1, rfl, rfl⟩ ⟨_, g2, rfl, rfl⟩ z5 hk⟩
end
end PySem
end
section
set_option Elab.async false
set_option linter.all false
set_option maxRecDepth 100000
set_option maxHeartbeats 4000000
namespace FC
open PySem L2 PyProof.Rows
def ItzM (K : W.Frag) (a b : Addr) : L2.It :=
  { go := fun i H => ∃ xs ys x y, SqT K H a xs ∧ SqL K H b ys ∧ xs[i]? = some x ∧ ys[i]? = some y,
    yld := fun i H v H' => ∃ T x y, v = V.ref T ∧ H T = none ∧ H' = upd H T (HO.tup [x, y]) ∧ (∀ xs, SqT K H a xs → xs[i]? = some x) ∧ ∀ ys, SqL K H b ys → ys[i]? = some y,
    stop := fun i H => ∃ xs ys, SqT K H a xs ∧ SqL K H b ys ∧ (xs.length ≤ i ∨ ys.length ≤ i) }
theorem turn_zipM {P : Program} {w : World} {K : W.Frag} {elts : List Expr} {kk : Nat} {tpos : Pos} {a b z TI TO i1 i2 : Addr} (D : ZipApart z TI TO i1 i2 a b) : Turn P w K (.Tuple elts kk tpos) (ItzM K a b) [z, TI, TO, i1, i2] z fun i h => IsZip h z TI TO .none ∧ IsPair h TI (.ref i1) (.ref i2) ∧ (∃ x y, IsPair h TO x y) ∧ h.IsTupleIter i1 a i ∧ h.IsListIter i2 b i where
  mem := by simp
  obj := fun i h ⟨hz, hTI, ⟨x, y, hTO⟩, h1, h2⟩ b hb => by
    simp only [List.mem_cons, List.not_mem_nil, or_false] at hb
    rcases hb with rfl | rfl | rfl | rfl | rfl
    · exact ⟨_, hz, fun v q => nomatch q⟩
    · exact ⟨_, hTI, fun v q => nomatch q⟩
    · exact ⟨_, hTO, fun v q => nomatch q⟩
    · obtain ⟨o, e, _, d⟩ := h1; exact ⟨o, e, fun v q => by rw [d] at q; cases q⟩
    · obtain ⟨o, e, _, d⟩ := h2; exact ⟨o, e, fun v q => by rw [d] at q; cases q⟩
  keep := fun i h h' ⟨hz, hTI, ⟨x, y, hTO⟩, h1, h2⟩ k => ⟨k z (by simp) _ hz, k TI (by simp) _ hTI, ⟨x, y, k TO (by simp) _ hTO⟩, h1.at fun o q => k i1 (by simp) o q, h2.at fun o q => k i2 (by simp) o q⟩
  item := fun X hP hw hK hc i pins s σ H E I hfp ⟨hz, hTI, ⟨u, v, hTO⟩, h1, h2⟩ ⟨xs, ys, x, y, hqx, hqy, ex, ey⟩ => by
    subst hP
    subst hw
    subst hK
    obtain ⟨its, rv, p1, _⟩ := I.tuple hqx
    obtain ⟨its2, rv2, p2, _⟩ := I.list hqy
    obtain ⟨u1, e1, r1⟩ := rv.get ex
    obtain ⟨u2, e2, r2⟩ := rv2.get ey
    refine pyNext_zipM_item D hz hTI hTO h1 h2 p1 p2.isList (by simpa using e1) (by simpa using e2) fun h' a1 a2 a3 a4 a5 a6 hk => ?_
    refine ⟨_, rfl, wpAny_letOwnedTupleGo_zip a1 fun h'' b1 sb => ?_⟩
    have lt : ∀ {c o}, s.heap.get? c = some o → s.heap.objs.size ≠ c := fun e => Nat.ne_of_gt (Heap.lt_size e)
    have nz : s.heap.objs.size ≠ z := lt hz
    have k2 : ∀ c o, c ≠ z → h'.get? c = some o → h''.get? c = some o := fun c o hc e => by rw [sb.2 c hc]; exact e
    refine ⟨.ref s.heap.objs.size, upd H s.heap.objs.size (.tup [x, y]), ?_, rfl, ⟨_, x, y, rfl, I.hok.fresh (Nat.le_refl _), rfl, fun xs' h => by rw [I.tuple_inj h hqx]; exact ex, fun ys' h => by rw [I.list_inj h hqy]; exact ey⟩, ⟨b1, ?_, ⟨_, _, k2 TO _ D.TOz a2⟩, a3.at fun o q => k2 i1 o D.i1z q, a4.at fun o q => k2 i2 o D.i2z q⟩, ?_⟩
    · refine I.turnedNew (t' := s.toks) (ch := [z, TI, TO, i1, i2]) (fun c o hc e => ?_) hfp (Nat.le_refl _) ?_
      · simp only [List.mem_cons, List.not_mem_nil, or_false, not_or] at hc
        exact k2 c o hc.1 (hk c o hc.1 hc.2.2.1 hc.2.2.2.1 hc.2.2.2.2 e)
      · refine ⟨by simp [sizeLine_eq], [u1, u2], ?_, ?_⟩
        · exact .cons r1 (.cons r2 .nil)
        · exact ⟨_, k2 _ _ nz a5, rfl, _, rfl⟩
    · exact k2 TI _ D.TIz (hk TI _ D.TIz D.TITO D.TIi1 D.TIi2 hTI)
    · intro c hc
      have lc : c ≠ s.heap.objs.size := by
        simp only [List.mem_cons, List.not_mem_nil, or_false] at hc
        rcases hc with rfl | rfl | rfl | rfl | rfl
        · exact Ne.symm nz
        · exact Ne.symm (lt hTI)
        · exact Ne.symm (lt hTO)
        · obtain ⟨o, e, _⟩ := h1; exact Ne.symm (lt e)
        · obtain ⟨o, e, _⟩ := h2; exact Ne.symm (lt e)
      rw [upd_ne lc]
      exact (hfp c hc).1
  done := fun X hP hw hK hc i pins s σ H E I hfp ⟨hz, hTI, ⟨u, v, hTO⟩, h1, h2⟩ ⟨xs, ys, hqx, hqy, hl⟩ => by
    subst hP
    subst hw
    subst hK
    obtain ⟨its, rv, p1, _⟩ := I.tuple hqx
    obtain ⟨its2, rv2, p2, _⟩ := I.list hqy
    have l1 := rv.length
    have l2 := rv2.length
    refine pyNext_zipM_end (I.ok.hd hc) D hz hTI hTO h1 h2 p1 p2.isList ?_ fun h' hk => ⟨rfl, I.turnedL (t' := s.toks) (ch := [z, TI, TO, i1, i2]) (fun c o hc e => ?_) hfp⟩
    · rcases hl with h | h
      · left; simp; omega
      · right; simp; omega
    · simp only [List.mem_cons, List.not_mem_nil, or_false, not_or] at hc
      exact hk c o hc.1 hc.2.2.1 hc.2.2.2.1 hc.2.2.2.2 e
  self := fun A i s Q E ⟨hz, _⟩ q => wpAny_pyIter_zip hz q
def iZipM (K : W.Frag) (ta : TA) : TI := fun σ H R => ta σ H fun vs H1 => ∃ a b xs ys, vs = [V.ref a, V.ref b] ∧ (SqL K H1 a xs ∧ SqL K H1 b ys ∧ R (Itz K a b) H1 ∨ SqT K H1 a xs ∧ SqT K H1 b ys ∧ R (RZ.ItzT K a b) H1 ∨ SqT K H1 a xs ∧ SqL K H1 b ys ∧ R (ItzM K a b) H1)
theorem pi_zipM {X : Cx} {e e2 : Expr} {ta : TA} {p pos tpos : Pos} {elts : List Expr} {kk : Nat} (hgl : Gl X "zip") (hmg : X.mg "zip" = none) (ha : PA X [e, e2] ta) (hs1 : starEach [e, e2] X.env = (false, eval e X.env) :: starEach [e2] X.env) (hs2 : ((backTo pos (starEach [e2] X.env)).any fun x => x.fst) = false) :
    PI X (.Tuple elts kk tpos) (.Call (.Name "zip" p) [e, e2] [] pos) (iZipM X.K ta) := by
  refine ⟨fun pins s σ H R I hw => ?_⟩
  refine Call_ (ld_blt I hgl hmg PyProof.Rows.boot_zip (PyProof.Rows.callWith_type1 (thn (ha.run pos pins s σ H _ I hw) fun us s1 ⟨vs, H1, J1, r1, q1⟩ => ?_) hs1 hs2))
  obtain ⟨a, b, xs, ys, rfl, q⟩ := q1
  cases r1 with
  | cons ra rr =>
  cases rr with
  | cons rb rr =>
  cases rr
  cases ra
  cases rb
  have fpo : ∀ c ∈ [s1.heap.objs.size + 4, s1.heap.objs.size + 2, s1.heap.objs.size + 3, s1.heap.objs.size, s1.heap.objs.size + 1], FpOk X pins H1 c := fun c hcm => by
    simp only [List.mem_cons, List.not_mem_nil, or_false] at hcm
    have hle : s1.heap.objs.size ≤ c := by omega
    exact J1.fpOk hle (J1.hok.fresh hle)
  rcases q with ⟨hqx, hqy, q⟩ | ⟨hqx, hqy, q⟩ | ⟨hqx, hqy, q⟩
  · obtain ⟨its, rv, p1, _⟩ := J1.list hqx
    obtain ⟨its2, rv2, p2, _⟩ := J1.list hqy
    exact call_zip_2 p1.isList p2.isList fun h' hz hTI hTO h1 h2 hsz hk => wpAny_pyIter_zip hz ⟨_, _, _, _, H1, rfl, J1.kept (t' := s1.toks) hk, turn_zip (PySem.W.ktu_apart s1.heap.objs.size a b p1.lt p2.lt), ⟨hz, hTI, ⟨_, _, hTO⟩, h1, h2⟩, fpo, q⟩
  · obtain ⟨its, rv, p1, _⟩ := J1.tuple hqx
    obtain ⟨its2, rv2, p2, _⟩ := J1.tuple hqy
    have t1 : a < s1.heap.objs.size := by obtain ⟨o, e, _⟩ := p1; exact Heap.lt_size e
    have t2 : b < s1.heap.objs.size := by obtain ⟨o, e, _⟩ := p2; exact Heap.lt_size e
    exact RZ.call_zipT p1 p2 fun h' hz hTI hTO h1 h2 hsz hk => wpAny_pyIter_zip hz ⟨_, _, _, _, H1, rfl, J1.kept (t' := s1.toks) hk, RZ.turn_zipT (PySem.W.ktu_apart s1.heap.objs.size a b t1 t2), ⟨hz, hTI, ⟨_, _, hTO⟩, h1, h2⟩, fpo, q⟩
  · obtain ⟨its, rv, p1, _⟩ := J1.tuple hqx
    obtain ⟨its2, rv2, p2, _⟩ := J1.list hqy
    have t1 : a < s1.heap.objs.size := by obtain ⟨o, e, _⟩ := p1; exact Heap.lt_size e
    exact call_zipM p1 p2.isList fun h' hz hTI hTO h1 h2 hsz hk => wpAny_pyIter_zip hz ⟨_, _, _, _, H1, rfl, J1.kept (t' := s1.toks) hk, turn_zipM (PySem.W.ktu_apart s1.heap.objs.size a b t1 p2.lt), ⟨hz, hTI, ⟨_, _, hTO⟩, h1, h2⟩, fpo, q⟩
variable [EA]
section
variable {c : Cfg} {H : Hp} {X : Cx}
theorem it_zipM {a b : Addr} {us vs : List V} {xs ys : List PyData} {b1 : Bool} (hb : c.fz b) (e : TupQ H a (us, b1)) (f : H b = some (.lst vs)) (r : RpA H c.fz us xs) (s : RpA H c.fz vs ys) (hz : noEE xs ys = true) : ItOk (ItzM X.K a b) (zipL xs ys) c H := fun c1 H1 w k => by
  have e1 := k.tup a _ e
  have f1 := k.lst b vs hb f
  have r1 := RpA.keep k r
  have s1 := RpA.keep k s
  refine ⟨fun i d hd => ?_, us, vs, e1.sq, SqL.of f1, by rw [zipL_len, r.length, s.length]; omega⟩
  obtain ⟨z1, z2, h0, h0', rfl⟩ := zipL_at hd
  obtain ⟨y, h1, h2⟩ := r1.get h0
  obtain ⟨y', h1', h2'⟩ := s1.get h0'
  exact ⟨⟨us, vs, y, y', e1.sq, SqL.of f1, h1, h1'⟩, fun x H2 ⟨T, q, q', k1, k2, k3, k4, k5⟩ => by
    rw [k4 us e1.sq] at h1
    rw [k5 vs (SqL.of f1)] at h1'
    cases h1
    cases h1'
    exact pair_new w h2 h2' k1 k2 k3 (noEE_at hz h0 h0')⟩
end
end FC
end
section
set_option Elab.async false
set_option linter.all false
set_option maxRecDepth 100000
set_option maxHeartbeats 4000000
namespace FC
open PySem L2 PyProof.Rows
variable [EA]
section
variable {G : Glob} {call : CallT} {ea : Nat → Addr} {k : Nat} {W : XK} {X : Cx}
theorem PoR.lst {c : Cfg} {H : Hp} {ds : List PyData} {xs : List V} {os : Objs} {Q : VK} (w : WF H c) (e : c.os = os) (h : PoR ea W c H (.ok (.d (.list ds)) os) Q) (r : RpA H c.fz xs ds) : ∀ p, H p = none → Q (.ref p) (upd H p (.lst xs)) := fun p hp => by
  obtain ⟨s, _, _⟩ := step_any w hp (.lst xs)
  refine h.2 p _ c s rfl e (fun z => w.dom p z hp) (fun z => ?_) hp ⟨xs, upd_same, RpA.keep (s.kp w) r⟩
  exact w.free hp z
theorem PoR.dct {c : Cfg} {H : Hp} {ds : List (PyData × PyData)} {xs : List (Key × V)} {os : Objs} {Q : VK} (w : WF H c) (e : c.os = os) (h : PoR ea W c H (.ok (.d (.dict ds)) os) Q) (r : RpK H c.fz xs ds) : ∀ p, H p = none → Q (.ref p) (upd H p (.dK xs)) := fun p hp => by
  obtain ⟨s, _, _⟩ := step_any w hp (.dK xs)
  refine h.2 p _ c s rfl e (fun z => w.dom p z hp) (fun z => ?_) hp ⟨xs, upd_same, RpK.keep (s.kp w) r⟩
  exact w.free hp z
theorem tA.raw {es : List Ex} {σ : L2.St} {c : Cfg} {H : Hp} {Q : VK} {Q' : List V → Hp → Prop} {f : List PV → Objs → R PV} (rel : Rel c σ H) (h : PoR ea W c H ((evs call es c.env c.os).bind f) Q)
    (hk : ∀ vs os xs H' c', Step c H c' H' → c'.env = c.env → c'.os = os → Rel c' σ H' → RpL c' H' xs vs → PoR ea W c' H' (f vs os) Q → Q' xs H') : tA call ea W es σ H Q' := by
  refine ⟨c, rel, ?_⟩
  cases hv : evs call es c.env c.os with
  | ok v os =>
    rw [hv] at h
    exact fun x H' c' s e1 o r => hk v os x H' c' s e1 o (rel.step s e1) r (PoR.after s e1 h)
  | er ex os => rw [hv] at h; exact h
  | st => rw [hv] at h; exact h
theorem r_lst {as : List Ex} {es : List Expr} {pos : Pos} (h : PA X es (tA call ea W as)) : PE X (.List es pos) (tR call ea W (.lst as)) :=
  PE.imp (pe_lst h) fun σ H Q ⟨c, rel, q⟩ => by
    simp only [ev] at q
    refine tA.raw rel q fun vs os xs H1 c1 s e o rel1 r q1 => ?_
    cases hd : dataAll vs with
    | none => rw [hd] at q1; exact q1.elim
    | some ds =>
      rw [hd] at q1
      dsimp only at q1
      split at q1
      · rename_i hf
        have ra := r.data hd
        exact ⟨by rw [ra.length]; exact fit_le hf, PoR.lst rel1.wf o q1 ra⟩
      · exact q1.elim
theorem r_dic0 {pos : Pos} : PE X (.Dict [] [] pos) (tR call ea W .dic0) :=
  PE.imp pe_dnewK fun σ H Q ⟨c, rel, q⟩ => PoR.dct rel.wf rfl q .nil
theorem tE.datR {e : Ex} {f : PyData → Objs → R PV} {c : Cfg} {σ : L2.St} {H : Hp} {Q : VK} (rel : Rel c σ H) (h : PoR ea W c H ((ev call e c.env c.os).dat f) Q) {Q' : VK}
    (hk : ∀ d os x H' c', Step c H c' H' → c'.env = c.env → c'.os = os → Rel c' σ H' → RoC c' H' x d → (isBor e = false → Rp H' c'.fz x d) → PoR ea W c' H' (f d os) Q → Q' x H') : tE call ea W e σ H Q' := by
  refine ⟨c, rel, ?_⟩
  match hv : ev call e c.env c.os, h with
  | .ok (.d d) os, h =>
    intro x H' c' s e1 o r
    refine hk d os x H' c' s e1 o (rel.step s e1) r.roc (fun hb => ?_) (PoR.after s e1 h)
    rw [hb] at r
    exact r
  | .er ex os, h => exact h
theorem r_add {a b : Ex} {a' b' : Expr} {pos : Pos} (ha : PE X a' (tE call ea W a)) (hb : PE X b' (tE call ea W b)) : PE X (.BinOp a' .Add b' pos) (tR call ea W (.op2 .add a b)) := by
  refine PE.imp (pe_op op_cat ha hb) fun σ H Q ⟨c, rel, q⟩ => ?_
  simp only [ev] at q
  refine tE.datR (e := a) rel q fun d os x H1 c1 s1 e1 o1 rel1 r1 _ q1 => ?_
  rw [← e1, ← o1] at q1
  refine tE.datR (e := b) rel1 q1 fun d' os' y H2 c2 s2 e2 o2 rel2 r2 _ q2 => ?_
  cases hz : d2 .add d d' with
  | none => rw [hz] at q2; exact q2.elim
  | some z =>
    rw [hz] at q2
    have hz' := hz
    have ho : ownD z = true := q2.1
    unfold d2 at hz
    split at hz <;> (try contradiction)
    · cases hz; simp [ownD] at ho
    · split at hz <;> cases hz; simp [ownD] at ho
    · rename_i h1 h2 _
      rename_i xs ys
      split at hz
      · rename_i hf
        cases hz
        obtain ⟨a1, v1, e3, g1, k1⟩ := (r1.step s2 rel1.wf).ro.list
        obtain ⟨a2, v2, e4, g2, k2⟩ := r2.ro.list
        subst e3
        subst e4
        refine ⟨a1, a2, v1, v2, rfl, rfl, g1, g2, by rw [k1.length, k2.length]; exact fit_le hf, PoR.lst rel2.wf o2 q2 (k1.append k2)⟩
      · cases hz
    · split at hz <;> cases hz; simp [ownD] at ho
theorem t_dic1 {a b : Ex} {σ : L2.St} {H : Hp} {Q : VK} (ha : isBor a = false) (hb : isBor b = false) (q : tR call ea W (.dic1 a b) σ H Q) : tDisp [(tE call ea W a, tE call ea W b)] σ H Q := by
  obtain ⟨c, rel, q⟩ := q
  intro p hp
  simp only [ev] at q
  obtain ⟨s0, _, _⟩ := step_any rel.wf hp (.dK [])
  have rel0 := rel.step s0 rfl
  -- what is kept of the new one
  have kept : ∀ {c2 : Cfg} {H2 : Hp}, Step c (upd H p (.dK [])) c2 H2 → H2 p = some (.dK []) ∧ ¬ c2.fz p ∧ p ∉ c2.om := fun {c2 H2} s => by
    have np : p ∉ c.om := rel.wf.free hp
    refine ⟨s.keep p _ upd_same np (by simp), fun z => ?_, fun z => ?_⟩
    · rcases s.fzn p z with z | z
      · exact rel.wf.dom p z hp
      · rw [upd_same] at z; cases z
    · obtain ⟨more, e, f⟩ := s.om
      rw [e] at z
      rcases List.mem_append.mp z with z | z
      · exact np z
      · have := f p z
        rw [upd_same] at this; cases this
  show tE call ea W a σ (upd H p (.dK [])) fun x H1 => tE call ea W b σ H1 fun y H2 => _
  refine ⟨c, rel0, ?_⟩
  match hv : ev call a c.env c.os, q with
  | .er ex os, q => exact fun cls d H' c' s e o r => q cls d H' c' (s0.trans s) e o r
  | .ok (.d d) os, q =>
    intro x H1 c1 s1 e1 o1 r1
    rw [ha] at r1
    refine ⟨c1, rel0.step s1 e1, ?_⟩
    simp only [R.dat] at q
    rw [← e1, ← o1] at q
    match hw : ev call b c1.env c1.os, q with
    | .er ex os2, q => exact fun cls d H' c' s e o r => q cls d H' c' ((s0.trans s1).trans s) (e.trans e1) o r
    | .ok (.d d') os2, q =>
      intro y H2 c2 s2 e2 o2 r2
      rw [hb] at r2
      dsimp only at q
      split at q
      · rename_i hk
        obtain ⟨kk, rfl⟩ := isKey_key hk
        obtain ⟨g1, g2, g3⟩ := kept (s1.trans s2)
        have hx : x = kV kk := Ro.key (.inl (Rp.keep (s2.kp s1.wf) r1))
        refine ⟨g1, [(kk, y)], by rw [hx]; rfl, by simp, ?_⟩
        have own2 : OwnO (H2 p) := by rw [g1]; trivial
        have kp2 : Kp H2 (upd H2 p (.dK (mergeK [] [(kk, y)]))) c2.fz c2.fz := Kp.mut own2 g2
        refine q.2 p _ c2 (((s0.trans s1).trans s2).mut hp own2 g2 g3) (e2.trans e1) o2 g2 g3 hp ⟨_, upd_same, ?_⟩
        show RpK _ _ [(kk, y)] _
        exact .cons (Rp.keep kp2 r2) .nil
      · exact q.elim
theorem dic1_dat {a b : Ex} {env : PEnv} {os : Objs} : ∀ v o, ev call (.dic1 a b) env os = .ok v o → ∃ d, v = .d d ∧ ownD d = true := by
  intro v o h
  simp only [ev] at h
  match hv : ev call a env os, h with
  | .ok (.d d) o1, h =>
    simp only [R.dat] at h
    match hw : ev call b env o1, h with
    | .ok (.d d') o2, h =>
      dsimp only at h
      split at h
      · cases h; exact ⟨_, rfl, rfl⟩
      · cases h
theorem r_dic1 {a b : Ex} {a' b' : Expr} {pos : Pos} (h1 : isBor a = false) (h2 : isBor b = false) (ha : PE X a' (tE call ea W a)) (hb : PE X b' (tE call ea W b)) : PE X (.Dict [some a'] [b'] pos) (tR call ea W (.dic1 a b)) :=
  PE.imp (pe_disp (pps_cons ha hb pps_nil) rfl rfl (by simp) (by simp)) fun _ _ _ q => t_dic1 h1 h2 q
theorem s_dic1 {a b : Ex} {a' b' : Expr} {pos : Pos} (h1 : isBor a = false) (h2 : isBor b = false) (ha : PE X a' (tE call ea W a)) (hb : PE X b' (tE call ea W b)) : PE X (.Dict [some a'] [b'] pos) (tE call ea W (.dic1 a b)) :=
  PE.imp (r_dic1 h1 h2 ha hb) fun σ H Q ⟨c, rel, q⟩ => ⟨c, rel, PoE.raw dic1_dat q⟩
theorem s_zip (g : Gd G call ea k W X) {a b : Ex} {a' b' : Expr} {elts : List Expr} {kk : Nat} {tpos : Pos} {f : Str} {p pos : Pos} (hg : glB X.env.scope f = true) (hf : f = "zip") (hs : stE a' = false) (hs2 : stE b' = false) (hb1 : isBor a = false) (hb2 : isBor b = false) (h : PE X a' (tE call ea W a)) (h2 : PE X b' (tE call ea W b)) :
    PI X (.Tuple elts kk tpos) (.Call (.Name f p) [a', b'] [] pos) (tI call ea W (.zip a b)) := by
  obtain ⟨q1, q2, q3⟩ := glB_gl hg
  subst hf
  have m := g.blt "zip" (by decide)
  refine PI.imp (pi_zipM q1 m (pa_cons h (pa_one h2 hs2) (star_no hs _ _)) (by rw [star_no hs]) (back_no fun x hx => by simp at hx; subst hx; exact hs2)) fun σ H R ⟨c, rel, q⟩ => ?_
  simp only [evI] at q
  refine tE.datI rel q fun d os x H1 c1 s1 e1 o1 rel1 _ r1 q1 => ?_
  rw [← e1, ← o1] at q1
  refine tE.datI rel1 q1 fun d2 os2 y H2 c2 s2 e2 o2 rel2 _ r2 q2 => ?_
  have r1 := Rp.keep (s2.kp rel1.wf) (r1 hb1)
  have r2 := r2 hb2
  cases r1 with
  | lst ha hx rx =>
    cases r2 with
    | lst hb hy ry =>
      dsimp only at q2
      split at q2
      · rename_i hz
        exact ⟨_, _, _, _, rfl, .inl ⟨SqL.of hx, SqL.of hy, q2 _ H2 c2 (Step.refl rel2.wf) rfl o2 (it_zipL ha hb hx hy rx ry hz)⟩⟩
      · exact q2.elim
    | _ => exact q2.elim
  | tup hx rx =>
    cases r2 with
    | tup hy ry =>
      dsimp only at q2
      split at q2
      · rename_i hz
        exact ⟨_, _, _, _, rfl, .inr (.inl ⟨hx.sq, hy.sq, q2 _ H2 c2 (Step.refl rel2.wf) rfl o2 (it_zipT hx hy rx ry hz)⟩)⟩
      · exact q2.elim
    | lst hb hy ry =>
      dsimp only at q2
      split at q2
      · rename_i hz
        exact ⟨_, _, _, _, rfl, .inr (.inr ⟨hx.sq, SqL.of hy, q2 _ H2 c2 (Step.refl rel2.wf) rfl o2 (it_zipM hb hx hy rx ry hz)⟩)⟩
      · exact q2.elim
    | _ => exact q2.elim
  | _ => exact q2.elim
end
end FC
end
section
set_option Elab.async false
set_option linter.all false
set_option maxRecDepth 100000
set_option maxHeartbeats 4000000
namespace FC
open PySem L2 PyProof.Rows
variable [EA]
theorem noSup_ok {o : Expr} {m : Str} {env : Env} {whole : Sem Value} (h : noSup o = true) : attributeBase o m env whole = whole := by
  unfold attributeBase
  split
  · simp [noSup] at h
  · rfl
section
variable {G : Glob} {call : CallT} {ea : Nat → Addr} {k : Nat} {W : XK} {X : Cx}
theorem t_dic2 {a b a2 b2 : Ex} {σ : L2.St} {H : Hp} {Q : VK} (ha : isBor a = false) (hb : isBor b = false) (ha2 : isBor a2 = false) (hb2 : isBor b2 = false) (q : tR call ea W (.dic2 a b a2 b2) σ H Q) : tDisp [(tE call ea W a, tE call ea W b), (tE call ea W a2, tE call ea W b2)] σ H Q := by
  obtain ⟨c, rel, q⟩ := q
  intro p hp
  simp only [ev] at q
  obtain ⟨s0, _, _⟩ := step_any rel.wf hp (.dK [])
  have rel0 := rel.step s0 rfl
  have kept : ∀ {c2 : Cfg} {H2 : Hp}, Step c (upd H p (.dK [])) c2 H2 → H2 p = some (.dK []) ∧ ¬ c2.fz p ∧ p ∉ c2.om := fun {c2 H2} s => by
    have np : p ∉ c.om := rel.wf.free hp
    refine ⟨s.keep p _ upd_same np (by simp), fun z => ?_, fun z => ?_⟩
    · rcases s.fzn p z with z | z
      · exact rel.wf.dom p z hp
      · rw [upd_same] at z; cases z
    · obtain ⟨more, e, f⟩ := s.om
      rw [e] at z
      rcases List.mem_append.mp z with z | z
      · exact np z
      · have := f p z
        rw [upd_same] at this; cases this
  show tE call ea W a σ (upd H p (.dK [])) fun x H1 => tE call ea W b σ H1 fun y H2 => tE call ea W a2 σ H2 fun x2 H3 => tE call ea W b2 σ H3 fun y2 H4 => _
  refine ⟨c, rel0, ?_⟩
  match hv : ev call a c.env c.os, q with
  | .er ex os, q => exact fun cls d H' c' s e o r => q cls d H' c' (s0.trans s) e o r
  | .ok (.d d) os, q =>
    intro x H1 c1 s1 e1 o1 r1
    rw [ha] at r1
    refine ⟨c1, rel0.step s1 e1, ?_⟩
    simp only [R.dat] at q
    rw [← e1, ← o1] at q
    match hw : ev call b c1.env c1.os, q with
    | .er ex os2, q => exact fun cls d H' c' s e o r => q cls d H' c' ((s0.trans s1).trans s) (e.trans e1) o r
    | .ok (.d d') os2, q =>
      intro y H2 c2 s2 e2 o2 r2
      rw [hb] at r2
      refine ⟨c2, (rel0.step s1 e1).step s2 e2, ?_⟩
      dsimp only at q
      rw [← e2, ← o2] at q
      match hw2 : ev call a2 c2.env c2.os, q with
      | .er ex os3, q => exact fun cls d H' c' s e o r => q cls d H' c' (((s0.trans s1).trans s2).trans s) (e.trans (e2.trans e1)) o r
      | .ok (.d d2) os3, q =>
        intro x2 H3 c3 s3 e3 o3 r3
        rw [ha2] at r3
        refine ⟨c3, ((rel0.step s1 e1).step s2 e2).step s3 e3, ?_⟩
        dsimp only at q
        rw [← e3, ← o3] at q
        match hw3 : ev call b2 c3.env c3.os, q with
        | .er ex os4, q => exact fun cls d H' c' s e o r => q cls d H' c' ((((s0.trans s1).trans s2).trans s3).trans s) (e.trans (e3.trans (e2.trans e1))) o r
        | .ok (.d d2') os4, q =>
          intro y2 H4 c4 s4 e4 o4 r4
          rw [hb2] at r4
          dsimp only at q
          split at q
          · rename_i hk
            simp only [Bool.and_eq_true] at hk
            obtain ⟨kk, rfl⟩ := isKey_key hk.1
            obtain ⟨kk2, rfl⟩ := isKey_key hk.2
            obtain ⟨g1, g2, g3⟩ := kept (((s1.trans s2).trans s3).trans s4)
            have hx : x = kV kk := Ro.key (.inl (Rp.keep (s2.kp s1.wf) r1))
            have hx2 : x2 = kV kk2 := Ro.key (.inl (Rp.keep (s4.kp s3.wf) r3))
            refine ⟨g1, [(kk, y), (kk2, y2)], by rw [hx, hx2]; rfl, by simp, ?_⟩
            have own2 : OwnO (H4 p) := by rw [g1]; trivial
            have kp2 : Kp H4 (upd H4 p (.dK (mergeK [] [(kk, y), (kk2, y2)]))) c4.fz c4.fz := Kp.mut own2 g2
            refine q.2 p _ c4 (((((s0.trans s1).trans s2).trans s3).trans s4).mut hp own2 g2 g3) (e4.trans (e3.trans (e2.trans e1))) o4 g2 g3 hp ⟨_, upd_same, ?_⟩
            have r2' := Rp.keep ((s3.trans s4).kp s2.wf) r2
            exact RpK.put (Rp.keep kp2 r4) (kvs := [(kk, y)]) (.cons (Rp.keep kp2 r2') .nil)
          · exact q.elim
theorem dic2_dat {a b a2 b2 : Ex} {env : PEnv} {os : Objs} : ∀ v o, ev call (.dic2 a b a2 b2) env os = .ok v o → ∃ d, v = .d d ∧ ownD d = true := by
  intro v o h
  simp only [ev] at h
  match hv : ev call a env os, h with
  | .ok (.d d) o1, h =>
    simp only [R.dat] at h
    match hw : ev call b env o1, h with
    | .ok (.d d') o2, h =>
      dsimp only at h
      match hw2 : ev call a2 env o2, h with
      | .ok (.d d2) o3, h =>
        dsimp only at h
        match hw3 : ev call b2 env o3, h with
        | .ok (.d d2') o4, h =>
          dsimp only at h
          split at h
          · cases h; exact ⟨_, rfl, rfl⟩
          · cases h
theorem s_dic2 {a b a2 b2 : Ex} {a' b' a2' b2' : Expr} {pos : Pos} (h1 : isBor a = false) (h2 : isBor b = false) (h3 : isBor a2 = false) (h4 : isBor b2 = false) (ha : PE X a' (tE call ea W a)) (hb : PE X b' (tE call ea W b)) (ha2 : PE X a2' (tE call ea W a2)) (hb2 : PE X b2' (tE call ea W b2)) : PE X (.Dict [some a', some a2'] [b', b2'] pos) (tE call ea W (.dic2 a b a2 b2)) :=
  PE.imp (pe_disp (pps_cons ha hb (pps_cons ha2 hb2 pps_nil)) rfl rfl (by simp) (by simp)) fun σ H Q ⟨c, rel, q⟩ => t_dic2 h1 h2 h3 h4 ⟨c, rel, PoE.raw dic2_dat q⟩
theorem s_get1 (g : Gd G call ea k W X) {a b : Ex} {x : Str} {b' : Expr} {p ap cp : Pos} (hl : (ap.endLine == cp.line) = true) (hs : stE b' = false) (hb : isBor b = false) (ha : PE X (.Name x p) (tE call ea W a)) (hk : PE X b' (tE call ea W b)) :
    PE X (.Call (.Attribute (.Name x p) "get" ap) [b'] [] cp) (tE call ea W (.get1 a b)) := by
  have hu := g.hu
  refine PE.imp (pe_dget1 (by omega) ha hk ⟨rfl, by rw [star_no hs]; rfl, hl, by rw [star_no hs]; rfl⟩) fun σ H Q ⟨c, rel, q⟩ => ?_
  simp only [ev] at q
  refine tE.dat rel q fun d os v H1 c1 _ s1 e1 o1 rel1 r1 _ q1 => ?_
  split at q1
  · rename_i kvs
    obtain ⟨ad, ws, rfl, h1, rw1⟩ := r1.ro.dct
    refine ⟨ad, rfl, .inl ⟨ws, .inl h1⟩, ?_⟩
    rw [← e1, ← o1] at q1
    refine tE.dat rel1 q1 fun d2 os2 y H2 c2 _ s2 e2 o2 rel2 r2 _ q2 => ?_
    split at q2
    · rename_i hk
      obtain ⟨kk, rfl⟩ := isKey_key hk
      obtain ⟨ad', ws', ez, h2, rw2⟩ := (r1.step s2 rel1.wf).ro.dct
      cases ez
      have hy : y = kV kk := Ro.key r2.ro
      have q3 := q2.po o2
      rcases rw2.find kk with ⟨z1, z2⟩ | ⟨d3, v3, z1, z2, r3⟩
      · rw [z1] at q3
        exact ⟨none, .inl ⟨ws', kk, .inl h2, hy, z2.symm⟩, q3.here rel2.wf .non⟩
      · rw [z1] at q3
        exact ⟨some v3, .inl ⟨ws', kk, .inl h2, hy, z2.symm⟩, q3.here rel2.wf r3⟩
    · exact q2.elim
  · exact q1.elim
theorem s_getd (g : Gd G call ea k W X) {a b d : Ex} {a' b' d' : Expr} {ap cp : Pos} (hn : noSup a' = true) (hl : (ap.endLine == cp.line) = true) (hs : stE b' = false) (hs2 : stE d' = false) (hb : isBor b = false) (hd : isBor d = false) (ha : PE X a' (tE call ea W a)) (hk : PE X b' (tE call ea W b)) (hdd : PE X d' (tE call ea W d)) :
    PE X (.Call (.Attribute a' "get" ap) [b', d'] [] cp) (tE call ea W (.getd a b d)) := by
  have hu := g.hu
  refine PE.imp (pe_dget2 (by omega) ha hk hdd ⟨noSup_ok hn, by rw [star_no hs, star_no hs2]; rfl, hl, by rw [star_no hs, star_no hs2]; rfl⟩) fun σ H Q ⟨c, rel, q⟩ => ?_
  simp only [ev] at q
  refine tE.dat rel q fun d0 os v H1 c1 _ s1 e1 o1 rel1 r1 _ q1 => ?_
  split at q1
  · rename_i kvs
    obtain ⟨ad, ws, rfl, h1, rw1⟩ := r1.ro.dct
    refine ⟨ad, rfl, .inl ⟨ws, .inl h1⟩, ?_⟩
    rw [← e1, ← o1] at q1
    refine tE.dat rel1 q1 fun d2 os2 y H2 c2 _ s2 e2 o2 rel2 r2 _ q2 => ?_
    rw [← e2, ← o2] at q2
    refine tE.dat rel2 q2 fun d3 os3 z H3 c3 _ s3 e3 o3 rel3 r3 r3' q3 => ?_
    split at q3
    · rename_i hk
      obtain ⟨kk, rfl⟩ := isKey_key hk
      obtain ⟨ad', ws', ez, h2, rw2⟩ := ((r1.step s2 rel1.wf).step s3 rel2.wf).ro.dct
      cases ez
      have hy : y = kV kk := Ro.key (r2.step s3 rel2.wf).ro
      have q4 := q3.po o3
      rcases rw2.find kk with ⟨z1, z2⟩ | ⟨d4, v4, z1, z2, r4⟩
      · rw [z1] at q4
        exact ⟨none, .inl ⟨ws', kk, .inl h2, hy, z2.symm⟩, q4.here rel3.wf (r3' hd)⟩
      · rw [z1] at q4
        exact ⟨some v4, .inl ⟨ws', kk, .inl h2, hy, z2.symm⟩, q4.here rel3.wf r4⟩
    · exact q3.elim
  · exact q1.elim
end
end FC
end
section
set_option Elab.async false
set_option linter.all false
set_option maxRecDepth 100000
set_option maxHeartbeats 4000000
namespace FC
open PySem L2 PyProof.Rows
variable [EA]
section
variable {c : Cfg} {σ : L2.St} {H : Hp} {D : Addr} {o : HO}
def NoSlot (env : PEnv) (σ : L2.St) (D : Addr) : Prop := ∀ (i : Nat) (d : PyData), env[i]? = some (.m d) ∨ env[i]? = some (.b d) → σ[i]? ≠ some (some (.ref D))
theorem Rel.mutD (rel : Rel c σ H) (hD : OwnO (H D)) (nf : ¬ c.fz D) (no : D ∉ c.om) (ns : NoSlot c.env σ D) : Rel c σ (upd H D o) := by
  have kp : Kp H (upd H D o) c.fz c.fz := Kp.mut hD nf
  have w := rel.wf.mut (o := o) hD nf no rel.wf
  have ne : ∀ {a u}, H a = some u → (OwnO (some u) → False) → upd H D o a = some u := fun {a u} e h => by
    rw [upd_ne (fun z => by rw [← z, e] at hD; exact h hD)]; exact e
  refine ⟨w, rel.len, fun i sl h => ?_, rel.dif⟩
  have q := rel.slot i sl h
  cases sl with
  | un => trivial
  | v pv =>
    obtain ⟨v, e, r⟩ := q
    refine ⟨v, e, ?_⟩
    cases pv with
    | d x => exact Rp.keep kp r
    | o n => exact r
    | s ns =>
      obtain ⟨a, u, rfl, e2⟩ := r
      exact ⟨a, u, rfl, ne e2 (fun z => z)⟩
    | x cl ds =>
      obtain ⟨a, dx, vs, rfl, e1, e2, e3, e4⟩ := r
      exact ⟨a, dx, vs, rfl, ne e1 (fun z => z), ne e2 (fun z => z), e3, RpA.keep kp e4⟩
    | xs es =>
      obtain ⟨a, vs, rfl, e1, e2, e3⟩ := r
      exact ⟨a, vs, rfl, e1, kp.lst a vs e1 e2, e3.keep kp⟩
  | m d =>
    obtain ⟨a, e, nf2, no2, r⟩ := q
    have hne : a ≠ D := fun z => ns i d (.inl h) (by rw [e, z])
    refine ⟨a, e, nf2, no2, ?_⟩
    cases d with
    | list ds => obtain ⟨xs, e, r⟩ := r; exact ⟨xs, by rw [upd_ne hne]; exact e, RpA.keep kp r⟩
    | dict es => obtain ⟨xs, e, r⟩ := r; exact ⟨xs, by rw [upd_ne hne]; exact e, RpK.keep kp r⟩
    | _ => exact r.elim
  | b d =>
    obtain ⟨v, e, r⟩ := q
    refine ⟨v, e, ?_⟩
    rcases r with r | ⟨a, rfl, hn, r⟩
    · exact .inl (Rp.keep kp r)
    · have hne : a ≠ D := fun z => ns i d (.inr h) (by rw [e, z])
      refine .inr ⟨a, rfl, hn, ?_⟩
      cases d with
      | list ds => obtain ⟨xs, e, r⟩ := r; exact ⟨xs, by rw [upd_ne hne]; exact e, RpA.keep kp r⟩
      | dict es => obtain ⟨xs, e, r⟩ := r; exact ⟨xs, by rw [upd_ne hne]; exact e, RpK.keep kp r⟩
      | _ => exact r.elim
theorem NoSlot.fresh (rel : Rel c σ H) (h0 : H D = none) : NoSlot c.env σ D := fun i d h => by
  rcases h with h | h
  · obtain ⟨a, e, _, _, r⟩ := rel.slot i _ h
    intro z
    rw [e] at z
    cases z
    exact r.tracked h0
  · obtain ⟨v, e, r⟩ := rel.slot i _ h
    intro z
    rw [e] at z
    cases z
    rcases r with r | ⟨a, z, hn, r⟩
    · cases r with
      | lst ha e _ => rw [h0] at e; cases e
      | tup e _ => exact e.ne h0
      | dct ha e _ => rw [h0] at e; cases e
    · cases z
      exact r.tracked h0
theorem bind_mb {sl : Sl} (hs : (∃ d, sl = .m d) ∨ ∃ d, sl = .b d) {i : Nat} : (∀ (t : Tgt) (d : PyData) (env env' : PEnv), bindT t d env = some env' → env'[i]? = some sl → env[i]? = some sl) ∧ (∀ (ts : List Tgt) (ds : List PyData) (env env' : PEnv), bindTs ts ds env = some env' → env'[i]? = some sl → env[i]? = some sl) := by
  have key : ∀ (n : Nat), (∀ (t : Tgt), sizeOf t < n → ∀ (d : PyData) (env env' : PEnv), bindT t d env = some env' → env'[i]? = some sl → env[i]? = some sl) ∧ (∀ (ts : List Tgt), sizeOf ts < n → ∀ (ds : List PyData) (env env' : PEnv), bindTs ts ds env = some env' → env'[i]? = some sl → env[i]? = some sl) := by
    intro n
    induction n with
    | zero => exact ⟨fun _ h => by omega, fun _ h => by omega⟩
    | succ n ih =>
      refine ⟨fun t hn d env env' h e => ?_, fun ts hn ds env env' h e => ?_⟩
      · cases t with
        | one j =>
          simp only [bindT] at h
          split at h
          · cases h
            rcases get_set e with ⟨_, z⟩ | ⟨_, z⟩
            · rcases hs with ⟨d', rfl⟩ | ⟨d', rfl⟩ <;> cases z
            · exact z
          · cases h
        | tup ts =>
          cases d <;> simp only [bindT] at h <;> try contradiction
          exact ih.2 ts (by simp at hn; omega) _ _ _ h e
      · cases ts with
        | nil =>
          cases ds <;> simp only [bindTs] at h <;> try contradiction
          cases h; exact e
        | cons t ts =>
          cases ds with
          | nil => simp only [bindTs] at h; contradiction
          | cons d ds =>
            simp only [bindTs] at h
            split at h
            · rename_i env1 h1
              have hlt : sizeOf t < n ∧ sizeOf ts < n := by simp at hn; omega
              exact ih.1 t hlt.1 _ _ _ h1 (ih.2 ts hlt.2 _ _ _ h e)
            · cases h
  exact ⟨fun t => (key _).1 t (Nat.lt_succ_self _), fun ts => (key _).2 ts (Nat.lt_succ_self _)⟩
theorem clr_mb {sl : Sl} (hs : (∃ d, sl = .m d) ∨ ∃ d, sl = .b d) {env : PEnv} {i : Nat} : ∀ {vs : List Nat}, (clrL env vs)[i]? = some sl → i ∉ vs ∧ env[i]? = some sl
  | [], h => ⟨by simp, h⟩
  | v :: vs, h => by
    rcases get_set (show ((clrL env vs).set v .un)[i]? = some sl from h) with ⟨_, z⟩ | ⟨h1, z⟩
    · rcases hs with ⟨d', rfl⟩ | ⟨d', rfl⟩ <;> cases z
    · obtain ⟨h2, h3⟩ := clr_mb hs z
      exact ⟨by simp [h1, h2], h3⟩
theorem wipe_get {σ : L2.St} {i : Nat} : ∀ {vs : List Nat}, i ∉ vs → (L2.wipe σ vs)[i]? = σ[i]?
  | [], _ => rfl
  | v :: vs, h => by
    have h1 : v ≠ i := fun z => h (by simp [z])
    show ((L2.wipe σ vs).set v none)[i]? = _
    rw [List.getElem?_set_ne h1]
    exact wipe_get fun z => h (by simp [z])
theorem NoSlot.bind {env env1 : PEnv} {σ σ2 : L2.St} {vs : List Nat} {t : Tgt} {x : PyData} (n : NoSlot env σ D) (hb : bindT t x (clrL env vs) = some env1) (hw : L2.wipe σ2 vs = L2.wipe σ vs) : NoSlot env1 σ2 D := fun i d h z => by
  have key : ∀ sl, ((∃ d, sl = Sl.m d) ∨ ∃ d, sl = Sl.b d) → env1[i]? = some sl → i ∉ vs ∧ env[i]? = some sl := fun sl hs e => clr_mb hs ((bind_mb hs).1 _ _ _ _ hb e)
  have fin : i ∉ vs → σ[i]? = some (some (.ref D)) := fun hi => by rw [← wipe_get hi, ← hw, wipe_get hi]; exact z
  rcases h with h | h
  · obtain ⟨h1, h2⟩ := key _ (.inl ⟨d, rfl⟩) h
    exact n i d (.inl h2) (fin h1)
  · obtain ⟨h1, h2⟩ := key _ (.inr ⟨d, rfl⟩) h
    exact n i d (.inr h2) (fin h1)
end
section
variable {G : Glob} {call : CallT} {ea : Nat → Addr} {k : Nat} {W : XK} {X : Cx}
theorem cloop {t : Tgt} {cnd : Option Ex} {el : Ex} (hbe : isBor el = false) {xs : List PyData} {J : L2.It} {c1 cs : Cfg} {H1 Hs : Hp} {D : Addr} {σ : L2.St} (hD : H1 D = none) (sB : Step c1 H1 cs Hs) (rel : Rel cs σ Hs) (ns : NoSlot cs.env σ D) (hJ : ItOk J xs cs Hs)
    {acc0 : List V} {ds0 : List PyData} (aD0 : Hs D = some (.lst acc0)) (nf0 : ¬ cs.fz D) (r0 : RpA Hs cs.fz acc0 ds0) {ys : List PyData} {osF : Objs} (hC : compL (compF call t cnd el cs.env) xs cs.os = .ok ys osF) (hfit : ds0.length + ys.length ≤ sizeLine) {P : Hp → Prop}
    (post : ∀ ci H acc', Step c1 H1 ci H → ci.os = osF → H D = some (.lst acc') → ¬ ci.fz D → RpA H ci.fz acc' (ds0 ++ ys) → P H) :
    ∃ W1 : Nat → Nat → Hp → Prop, (∃ m, W1 0 m Hs) ∧ ∀ j k H, W1 j k H → (J.stop j H ∧ P H) ∨ (J.go j H ∧ ∃ Nx1 : Hp → Prop, (∀ H', Nx1 H' → ∃ k', k' < k ∧ W1 (j + 1) k' H') ∧
      ∀ x H', J.yld j H x H' → tG t x (L2.wipe σ (tgtIx t)) H' fun σ3 H5 => L2.wipe σ3 (tgtIx t) = L2.wipe σ (tgtIx t) ∧ tCo call ea cnd σ3 H5 fun b H6 => if b = true then tE call ea W0 el σ3 H6 fun y H7 => ∃ acc, H7 D = some (.lst acc) ∧ acc.length < sizeLine ∧ Nx1 (upd H7 D (.lst (acc ++ [y]))) else Nx1 H6) := by
  generalize hF : compF call t cnd el cs.env = F at hC
  refine ⟨fun i m Hi => ∃ (ci : Cfg) (acc : List V) (ds rest : List PyData), Step c1 H1 ci Hi ∧ ci.env = cs.env ∧ Rel ci σ Hi ∧ Kp Hs Hi cs.fz ci.fz ∧ Hi D = some (.lst acc) ∧ ¬ ci.fz D ∧ RpA Hi ci.fz acc ds ∧ compL F (xs.drop i) ci.os = .ok rest osF ∧ ds ++ rest = ds0 ++ ys ∧ m = xs.length - i ∧ i ≤ xs.length, ⟨xs.length, cs, acc0, ds0, ys, sB, rfl, rel, Kp.refl, aD0, nf0, r0, hC, rfl, by simp, Nat.zero_le _⟩, ?_⟩
  rintro i m Hi ⟨ci, acc, ds, rest, si, ei, relI, kpI, aD, nf, rA, hr, hy, rfl, hle⟩
  have hJi := hJ ci Hi si.wf kpI
  have noD := own_om si.wf aD
  by_cases hlt : i < xs.length
  · right
    have hx : xs[i]? = some xs[i] := List.getElem?_eq_getElem hlt
    obtain ⟨hgo, hyl⟩ := hJi.1 i _ hx
    rw [List.drop_eq_getElem_cons hlt] at hr
    obtain ⟨y, os2, ys2, f1, f2, f3⟩ := compL_cons hr
    refine ⟨hgo, fun H' => ∃ (ci : Cfg) (acc : List V) (ds rest : List PyData), Step c1 H1 ci H' ∧ ci.env = cs.env ∧ Rel ci σ H' ∧ Kp Hs H' cs.fz ci.fz ∧ H' D = some (.lst acc) ∧ ¬ ci.fz D ∧ RpA H' ci.fz acc ds ∧ compL F (xs.drop (i + 1)) ci.os = .ok rest osF ∧ ds ++ rest = ds0 ++ ys, fun H' ⟨cj, acc', ds', rest', a1, a2, a3, a4, a5, a6, a7, a8, a9⟩ => ⟨xs.length - (i + 1), by omega, cj, acc', ds', rest', a1, a2, a3, a4, a5, a6, a7, a8, a9, rfl, hlt⟩, fun x H2 hy2 => ?_⟩
    obtain ⟨c2, s2, e2, o2, r2⟩ := hyl x H2 hy2
    have relW : Rel { c2 with env := clrL cs.env (tgtIx t) } (L2.wipe σ (tgtIx t)) H2 := by
      have := (relI.step s2 e2).wipe (tgtIx t)
      rw [show c2.env = cs.env from e2.trans ei] at this
      exact this
    rw [← hF] at f1
    unfold compF at f1
    cases hb : bindT t xs[i] (clrL cs.env (tgtIx t)) with
    | none => rw [hb] at f1; cases f1
    | some env' =>
      rw [hb] at f1
      dsimp only at f1
      refine ⟨{ c2 with env := clrL cs.env (tgtIx t) }, xs[i], env', relW, r2, hb, fun σ2 rel2 w2 => ⟨?_, ?_⟩⟩
      · rw [w2 (tgtIx t) fun _ h => h, wipe_wipe]
      have tail : ∀ (b : Bool) (H3 : Hp) (c3 : Cfg), Step { c2 with env := env' } H2 c3 H3 → c3.env = env' → evC call cnd env' ci.os = .ok b c3.os → Rel c3 σ2 H3 →
          (if b = true then tE call ea W0 el σ2 H3 fun y H4 => ∃ acc, H4 D = some (.lst acc) ∧ acc.length < sizeLine ∧ (∃ (ci : Cfg) (acc' : List V) (ds rest : List PyData), Step c1 H1 ci (upd H4 D (.lst (acc ++ [y]))) ∧ ci.env = cs.env ∧ Rel ci σ (upd H4 D (.lst (acc ++ [y]))) ∧ Kp Hs (upd H4 D (.lst (acc ++ [y]))) cs.fz ci.fz ∧ upd H4 D (.lst (acc ++ [y])) D = some (.lst acc') ∧ ¬ ci.fz D ∧ RpA (upd H4 D (.lst (acc ++ [y]))) ci.fz acc' ds ∧ compL F (xs.drop (i + 1)) ci.os = .ok rest osF ∧ ds ++ rest = ds0 ++ ys)
            else ∃ (ci : Cfg) (acc : List V) (ds rest : List PyData), Step c1 H1 ci H3 ∧ ci.env = cs.env ∧ Rel ci σ H3 ∧ Kp Hs H3 cs.fz ci.fz ∧ H3 D = some (.lst acc) ∧ ¬ ci.fz D ∧ RpA H3 ci.fz acc ds ∧ compL F (xs.drop (i + 1)) ci.os = .ok rest osF ∧ ds ++ rest = ds0 ++ ys) := by
        intro b H3 c3 s3 e3 hv rel3
        rw [hv] at f1
        simp only [R.bind] at f1
        have s3' : Step c2 H2 c3 H3 := ⟨s3.wf, s3.fz, s3.fzn, s3.om, s3.keep, s3.tbl⟩
        have u3 : Step ci Hi c3 H3 := s2.trans s3'
        have D3 : H3 D = some (.lst acc) := u3.keep D _ aD noD (by simp)
        have nf3 : ¬ c3.fz D := fun z => by
          rcases u3.fzn D z with z | z
          · exact nf z
          · rw [aD] at z; cases z
        have r3 : RpA H3 c3.fz acc ds := RpA.keep (u3.kp si.wf) rA
        have back : ∀ {c4 H4}, Step ci Hi c4 H4 → Rel { c4 with env := cs.env } σ H4 := fun {c4 H4} u => relI.step (u.env cs.env) ei.symm
        cases b with
        | false =>
          rw [if_neg Bool.false_ne_true] at f1 ⊢
          cases f1
          refine ⟨{ c3 with env := cs.env }, acc, ds, ys2, (si.trans u3).env _, rfl, back u3, kpI.trans (u3.kp si.wf), D3, nf3, r3, f2, ?_⟩
          rw [← hy, f3]
        | true =>
          rw [if_pos rfl] at f1 ⊢
          refine ⟨c3, rel3, ?_⟩
          rw [e3]
          match hw : ev call el env' c3.os, f1 with
          | .ok (.d z) os4, f1 =>
            simp only [R.dat] at f1
            cases f1
            intro yv H4 c4 s4 e4 o4 r4
            rw [hbe] at r4
            have u4 : Step ci Hi c4 H4 := u3.trans s4
            have D4 : H4 D = some (.lst acc) := u4.keep D _ aD noD (by simp)
            have nf4 : ¬ c4.fz D := fun z => by
              rcases u4.fzn D z with z | z
              · exact nf z
              · rw [aD] at z; cases z
            have own4 : OwnO (H4 D) := by rw [D4]; trivial
            have kp4 : Kp H4 (upd H4 D (.lst (acc ++ [yv]))) c4.fz c4.fz := Kp.mut own4 nf4
            have no4 := own_om u4.wf D4
            have hlen : acc.length < sizeLine := by
              have e1 := rA.length
              have : (ds ++ z :: ys2).length = (ds0 ++ ys).length := by rw [← hy, f3]
              rw [List.length_append, List.length_cons, List.length_append] at this
              omega
            refine ⟨acc, D4, hlen, { c4 with env := cs.env }, acc ++ [yv], ds ++ [z], ys2, ((si.trans u4).mut hD own4 nf4 no4).env _, rfl, (back u4).mutD own4 nf4 no4 ns, (kpI.trans (u4.kp si.wf)).trans kp4, upd_same, nf4, (RpA.keep ((u4.kp si.wf).trans kp4) rA).append (.cons (Rp.keep kp4 r4) .nil), by rw [show ({ c4 with env := cs.env } : Cfg).os = _ from o4]; exact f2, ?_⟩
            rw [← hy, f3]
            simp
      have os2e : c2.os = ci.os := o2
      cases cnd with
      | none => exact tail true H2 { c2 with env := env' } (Step.refl (s2.wf.env _)) rfl (by simp only [evC]; rw [os2e]) rel2
      | some a =>
        refine ⟨{ c2 with env := env' }, rel2, ?_⟩
        simp only [evC, ← os2e] at f1 tail
        show PoT ea W0 σ2 _ H2 (ev call a env' c2.os) _
        match hw : ev call a env' c2.os, f1 with
        | .ok (.d (.bool b)) os3, f1 =>
          intro H3 c3 s3 e3 o3
          refine tail b H3 c3 s3 e3 ?_ (rel2.step s3 e3)
          rw [hw, o3]
          rfl
  · left
    have ei' : i = xs.length := by omega
    subst ei'
    refine ⟨hJi.2, ?_⟩
    rw [List.drop_of_length_le (Nat.le_refl _)] at hr
    simp only [compL] at hr
    cases hr
    rw [List.append_nil] at hy
    subst hy
    exact post ci Hi acc si rfl aD nf rA
theorem compL2_ne {f : PyData → Objs → R (List PyData)} : ∀ {xs : List PyData} {os : Objs} {e : PExc} {o : Objs}, compL2 f xs os ≠ .er e o
  | [], _, _, _, h => by simp [compL2] at h
  | x :: xs, os, e, o, h => by
    simp only [compL2] at h
    cases hv : f x os with
    | ok y os1 =>
      rw [hv] at h
      cases hw : compL2 f xs os1 with
      | ok ys os2 => simp [R.noer, R.bind, hw] at h
      | er e2 o2 => exact compL2_ne hw
      | st => simp [R.noer, R.bind, hw] at h
    | er e2 o2 => rw [hv] at h; simp [R.noer, R.bind] at h
    | st => rw [hv] at h; simp [R.noer, R.bind] at h
theorem compL2_cons {f : PyData → Objs → R (List PyData)} {x : PyData} {xs : List PyData} {os osF : Objs} {zs : List PyData} (h : compL2 f (x :: xs) os = .ok zs osF) :
    ∃ y os1 ys, f x os = .ok y os1 ∧ compL2 f xs os1 = .ok ys osF ∧ zs = y ++ ys := by
  simp only [compL2] at h
  cases hv : f x os with
  | ok y os1 =>
    rw [hv] at h
    cases hw : compL2 f xs os1 with
    | ok ys os2 =>
      simp only [R.noer, R.bind, hw] at h
      cases h
      exact ⟨y, os1, ys, rfl, hw, rfl⟩
    | er e2 o2 => simp [R.noer, R.bind, hw] at h
    | st => simp [R.noer, R.bind, hw] at h
  | er e2 o2 => rw [hv] at h; simp [R.noer, R.bind] at h
  | st => rw [hv] at h; simp [R.noer, R.bind] at h
def compG (call : CallT) (t : Tgt) (t1 : Tgt) (it1 : It) (cnd : Option Ex) (el : Ex) (env : PEnv) : PyData → Objs → R (List PyData) := fun x os2 => match bindT t x (clrL env (tgtIx t ++ tgtIx t1)) with
  | some env1 => (evI call it1 env1 os2).bind fun ys os3 => compL (compF call t1 cnd el env1) ys os3
  | none => .st
theorem ev_comp2 {t : Tgt} {it : It} {t1 : Tgt} {it1 : It} {cnd : Option Ex} {el : Ex} {env : PEnv} {os : Objs} : ev call (.comp2 t it t1 it1 cnd el) env os = (evI call it env os).bind fun xs os1 => (compL2 (compG call t t1 it1 cnd el env) xs os1).bind fun ys os5 => if fit ys.length then .ok (.d (.list ys)) os5 else .st := by
  simp only [ev]
  rfl
theorem t_comp2R {t : Tgt} {it : It} {t1 : Tgt} {it1 : It} {cnd : Option Ex} {el : Ex} {σ : L2.St} {H : Hp} {Q : VK} (hbe : isBor el = false) (q : tR call ea W (.comp2 t it t1 it1 cnd el) σ H Q) : tLc2 (tI call ea W it) (tG t) tYes (tI call ea W0 it1) (tG t1) (tCo call ea cnd) (tE call ea W0 el) (tgtIx t ++ tgtIx t1) (tgtIx t1) σ H Q := by
  obtain ⟨c, rel, q⟩ := q
  refine ⟨c, rel, ?_⟩
  rw [ev_comp2] at q
  cases hI : evI call it c.env c.os with
  | st => rw [hI] at q; exact q
  | er ex os => rw [hI] at q; exact q
  | ok xs os1 =>
    rw [hI] at q
    intro J H1 c1 s1 e1 o1 hJ D hD
    generalize hF : compG call t t1 it1 cnd el c.env = F at q
    have hC : ∃ ys osF, compL2 F xs os1 = .ok ys osF ∧ fit ys.length = true ∧ PoR ea W c H (.ok (.d (.list ys)) osF) Q := by
      cases hv : compL2 F xs os1 with
      | ok ys osF =>
        have q2 : PoR ea W c H (if fit ys.length then .ok (.d (.list ys)) osF else .st) Q := by
          simp only [R.bind, hv] at q
          exact q
        split at q2
        · exact ⟨ys, osF, rfl, by assumption, q2⟩
        · exact q2.elim
      | er e o => exact absurd hv compL2_ne
      | st => simp only [R.bind, hv] at q; exact q.elim
    obtain ⟨ys, osF, hC, hfit, q⟩ := hC
    have w1 := s1.wf
    have rel1 := rel.step s1 e1
    have hfit := fit_le hfit
    refine ⟨fun i m Hi => ∃ (ci : Cfg) (acc : List V) (ds rest : List PyData), Step c1 H1 ci Hi ∧ ci.env = c.env ∧ Hi D = some (.lst acc) ∧ ¬ ci.fz D ∧ RpA Hi ci.fz acc ds ∧ compL2 F (xs.drop i) ci.os = .ok rest osF ∧ ds ++ rest = ys ∧ m = xs.length - i ∧ i ≤ xs.length, ⟨xs.length, c1, [], [], ys, (step_any w1 hD (.lst [])).1, e1, upd_same, fun z => w1.dom D z hD, .nil, ?_, rfl, by simp, Nat.zero_le _⟩, ?_⟩
    · rw [o1]; exact hC
    rintro i m Hi ⟨ci, acc, ds, rest, si, ei, aD, nf, rA, hr, hy, rfl, hle⟩
    have hJi := hJ ci Hi si.wf (si.kp w1)
    have noD := own_om si.wf aD
    by_cases hlt : i < xs.length
    · right
      have hx : xs[i]? = some xs[i] := List.getElem?_eq_getElem hlt
      obtain ⟨hgo, hyl⟩ := hJi.1 i _ hx
      rw [List.drop_eq_getElem_cons hlt] at hr
      obtain ⟨zs, os2, ys2, f1, f2, f3⟩ := compL2_cons hr
      refine ⟨hgo, fun H' => ∃ (ci : Cfg) (acc : List V) (ds rest : List PyData), Step c1 H1 ci H' ∧ ci.env = c.env ∧ H' D = some (.lst acc) ∧ ¬ ci.fz D ∧ RpA H' ci.fz acc ds ∧ compL2 F (xs.drop (i + 1)) ci.os = .ok rest osF ∧ ds ++ rest = ys, fun H' ⟨cj, acc', ds', rest', a1, a2, a3, a4, a5, a6, a7⟩ => ⟨xs.length - (i + 1), by omega, cj, acc', ds', rest', a1, a2, a3, a4, a5, a6, a7, rfl, hlt⟩, fun x H2 hy2 => ?_⟩
      obtain ⟨c2, s2, e2, o2, r2⟩ := hyl x H2 hy2
      have t2 : Step c1 H1 c2 H2 := si.trans s2
      have relW : Rel { c2 with env := clrL c.env (tgtIx t ++ tgtIx t1) } (L2.wipe σ (tgtIx t ++ tgtIx t1)) H2 := by
        have := (rel1.step t2 ((e2.trans ei).trans e1.symm)).wipe (tgtIx t ++ tgtIx t1)
        rw [show c2.env = c.env from e2.trans ei] at this
        exact this
      have ns1 : NoSlot c.env σ D := by have := NoSlot.fresh rel1 hD; rw [e1] at this; exact this
      rw [← hF] at f1
      unfold compG at f1
      cases hb : bindT t xs[i] (clrL c.env (tgtIx t ++ tgtIx t1)) with
      | none => rw [hb] at f1; cases f1
      | some env1 =>
        rw [hb] at f1
        dsimp only at f1
        refine ⟨{ c2 with env := clrL c.env (tgtIx t ++ tgtIx t1) }, xs[i], env1, relW, r2, hb, fun σ2 rel2 w2 => ?_⟩
        have hw2 : L2.wipe σ2 (tgtIx t ++ tgtIx t1) = L2.wipe σ (tgtIx t ++ tgtIx t1) := by rw [w2 (tgtIx t ++ tgtIx t1) fun i h => by simp [h], wipe_wipe]
        refine ⟨hw2, ?_⟩
        rw [tYes, if_pos rfl]
        refine ⟨{ c2 with env := env1 }, rel2, ?_⟩
        show PoI ea W0 _ H2 (evI call it1 env1 c2.os) _
        have os2e : c2.os = ci.os := o2
        rw [← os2e] at f1
        cases hI1 : evI call it1 env1 c2.os with
        | st => rw [hI1] at f1; cases f1
        | er ex os => rw [hI1] at f1; cases f1
        | ok ys0 os3 =>
          rw [hI1] at f1
          simp only [R.bind] at f1
          intro J1 H4 c4 s4 e4 o4 hJ1
          have s4' : Step c2 H2 c4 H4 := ⟨s4.wf, s4.fz, s4.fzn, s4.om, s4.keep, s4.tbl⟩
          have u4 : Step ci Hi c4 H4 := s2.trans s4'
          have D4 : H4 D = some (.lst acc) := u4.keep D _ aD noD (by simp)
          have nf4 : ¬ c4.fz D := fun z => by
            rcases u4.fzn D z with z | z
            · exact nf z
            · rw [aD] at z; cases z
          have e4' : c4.env = env1 := e4
          refine cloop hbe hD (si.trans u4) (rel2.step s4 e4) (by rw [e4']; exact ns1.bind hb hw2) hJ1 D4 nf4 (RpA.keep (u4.kp si.wf) rA) (by rw [e4', o4]; exact f1) (by
            have : (ds ++ (zs ++ ys2)).length = ys.length := by rw [← hy, f3]
            simp only [List.length_append] at this
            omega) fun cj Hj acc' sj oj aj nj rj => ?_
          refine ⟨{ cj with env := c.env }, acc', ds ++ zs, ys2, sj.env _, rfl, aj, nj, rj, by rw [show ({ cj with env := c.env } : Cfg).os = _ from oj]; exact f2, ?_⟩
          rw [List.append_assoc, ← f3, hy]
    · left
      have ei' : i = xs.length := by omega
      subst ei'
      refine ⟨hJi.2, ?_⟩
      rw [List.drop_of_length_le (Nat.le_refl _)] at hr
      simp only [compL2] at hr
      cases hr
      rw [List.append_nil] at hy
      subst hy
      exact q.2 D Hi ci (s1.trans si) ei rfl nf noD (s1.back hD) ⟨acc, aD, rA⟩
theorem comp2_dat {t : Tgt} {it : It} {t1 : Tgt} {it1 : It} {cnd : Option Ex} {el : Ex} {env : PEnv} {os : Objs} : ∀ v o, ev call (.comp2 t it t1 it1 cnd el) env os = .ok v o → ∃ d, v = .d d ∧ ownD d = true := by
  intro v o h
  rw [ev_comp2] at h
  cases h1 : evI call it env os with
  | ok xs o1 =>
    rw [h1] at h
    simp only [R.bind] at h
    split at h
    · split at h
      · cases h; exact ⟨_, rfl, rfl⟩
      · cases h
    · cases h
    · cases h
  | er _ _ => rw [h1] at h; cases h
  | st => rw [h1] at h; cases h
theorem t_comp2 {t : Tgt} {it : It} {t1 : Tgt} {it1 : It} {cnd : Option Ex} {el : Ex} {σ : L2.St} {H : Hp} {Q : VK} (hbe : isBor el = false) (q : tE call ea W (.comp2 t it t1 it1 cnd el) σ H Q) : tLc2 (tI call ea W it) (tG t) tYes (tI call ea W0 it1) (tG t1) (tCo call ea cnd) (tE call ea W0 el) (tgtIx t ++ tgtIx t1) (tgtIx t1) σ H Q := by
  obtain ⟨c, rel, q⟩ := q
  exact t_comp2R hbe ⟨c, rel, PoE.raw comp2_dat q⟩
end
end FC
end
section
set_option Elab.async false
set_option linter.all false
set_option maxRecDepth 100000
set_option maxHeartbeats 4000000
namespace FC
open PySem L2 PyProof.Rows
variable [EA]
def rCatF : R2 := fun x y H Q => ∃ l b xs zs, x = .ref l ∧ y = .ref b ∧ Rd H l (.lst xs) ∧ H b = some (.lst zs) ∧ xs.length + zs.length ≤ sizeLine ∧ ∀ p, H p = none → Q (.ref p) (upd H p (.lst (xs ++ zs)))
theorem op_catF {X : Cx} : OpR X (binaryOp .Add) rCatF := by
  intro pins s σ H x y v u Q I rx ry h
  obtain ⟨l, b, xs, zs, rfl, rfl, hH, hB, hz, q⟩ := h
  cases rx
  cases ry
  obtain ⟨z, its, n, r, e⟩ := hH.ok I.hok
  obtain ⟨z2, its2, n2, r2, hl2, e2⟩ := I.lstM hB
  have hl : xs.length = its.length := Paired.length r
  refine PySem.P.add_list e e2 ?_ (by rw [List.size_toArray, List.size_toArray]; omega)
  have ea : its.toArray ++ its2.toArray = (its ++ its2).toArray := by simp
  rw [ea]
  exact ⟨.ref _, _, I.lnew (t' := s.toks) (r.append r2) (by rw [List.length_append]; omega), rfl, q _ I.fresh⟩
section
variable {G : Glob} {call : CallT} {ea : Nat → Addr} {k : Nat} {W : XK} {X : Cx} {c c3 : Cfg} {H H3 : Hp}
theorem step_new (s : Step c H c3 H3) {p : Addr} {vs : List (Key × V)} {kvs : List (PyData × PyData)} (hp : H p = none) (h3 : H3 p = some (.dK [])) (nf : ¬ c3.fz p) (no : p ∉ c3.om) (r : RpK H3 c3.fz vs kvs) :
    Step c H { c3 with os := c3.os ++ [.dct kvs], om := c3.om ++ [p] } (upd H3 p (.dK vs)) := by
  have hO : OwnO (H3 p) := by rw [h3]; trivial
  have kp : Kp H3 (upd H3 p (.dK vs)) c3.fz c3.fz := Kp.mut hO nf
  obtain ⟨more, e1, f1⟩ := s.om
  refine ⟨⟨?_, by simp [s.wf.len], fun n a o h1 h2 => ?_, fun a h => ?_, fun a h => ?_, ?_, tabs_keep (fun b ps e => ?_) (fun b φ e => ?_) s.wf.tab⟩, s.fz, s.fzn, ⟨more ++ [p], by rw [e1, List.append_assoc], fun a ha => ?_⟩, fun a o h hn ht => ?_, fun a ps h => ?_⟩
  · rw [List.nodup_append]
    exact ⟨s.wf.nd, by simp, fun a ha b hb => by simp at hb; subst hb; exact fun z => no (by rw [← z]; exact ha)⟩
  · by_cases hl : n < c3.om.length
    · rw [List.getElem?_append_left hl] at h1
      rw [List.getElem?_append_left (by rw [← s.wf.len]; exact hl)] at h2
      have hne : a ≠ p := fun z => no (by rw [← z]; exact List.mem_of_getElem? h1)
      exact objOk.keep kp (fun u g1 => by rw [upd_ne hne]; exact g1) (s.wf.obj n a o h1 h2)
    · have hl' : ¬ n < c3.os.length := by rw [← s.wf.len]; exact hl
      rw [List.getElem?_append_right (by omega)] at h1 h2
      rw [s.wf.len] at h1
      cases hk : n - c3.os.length with
      | zero =>
        rw [hk] at h1 h2
        simp at h1 h2
        subst h1
        subst h2
        exact ⟨vs, upd_same, RpK.keep kp r⟩
      | succ m => rw [hk] at h1; simp at h1
  · intro z
    rcases List.mem_append.mp z with z | z
    · exact s.wf.sep a h z
    · simp at z
      rw [z] at h
      exact nf h
  · have : a ≠ p := fun z => nf (by rw [← z]; exact h)
    rw [upd_ne this]
    exact s.wf.dom a h
  · obtain ⟨φ, e⟩ := s.wf.sm
    exact ⟨φ, by rw [upd_ne (fun z => by rw [← z, e] at h3; cases h3)]; exact e⟩
  · rw [upd_ne (fun z => by rw [z, h3] at e; cases e)]
    exact e
  · rw [upd_ne (fun z => by rw [z, h3] at e; cases e)]
    exact e
  · rcases List.mem_append.mp ha with ha | ha
    · exact f1 a ha
    · simp at ha
      rw [ha]
      exact hp
  · rw [upd_ne (fun z => by rw [z, hp] at h; cases h)]
    exact s.keep a o h hn ht
  · rw [upd_ne (fun z => by rw [z, hp] at h; cases h)]
    exact s.tbl a ps h
theorem RpA.ofInts {H : Hp} {fz : Addr → Prop} : ∀ ns : List Int, RpA H fz (ns.map V.int) (ns.map .int)
  | [] => .nil
  | n :: ns => .cons (.int n) (RpA.ofInts ns)
theorem s_begin {a : Ex} {a' : Expr} {j1 j2 j3 j4 i1 i2 i3 i4 : Nat} {p1 p2 p3 p4 q1 q2 q3 q4 pl pb pos : Pos} (hb : isBor a = false) (ha : PE X a' (tE call ea W a)) :
    PE X (.Dict [some (.Constant (.str "cells") j1 p1), some (.Constant (.str "at") j2 p2), some (.Constant (.str "left") j3 p3), some (.Constant (.str "used") j4 p4)]
      [.BinOp a' .Add (.List [.Constant (.int 0) i1 q1] pl) pb, .Constant (.int 0) i2 q2, .Constant (.int 0) i3 q3, .Constant (.int 0) i4 q4] pos) (tE call ea W (.begin a)) := by
  refine PE.imp (pe_disp (pps_cons pe_str (pe_op op_catF ha (pe_lst (pa_one pe_int rfl))) (pps_cons pe_str pe_int (pps_cons pe_str pe_int (pps_cons pe_str pe_int pps_nil)))) rfl rfl (by simp) (by simp)) fun σ H Q ⟨c, rel, q⟩ => ?_
  intro p hp
  simp only [ev] at q
  obtain ⟨s0, _, _⟩ := step_any rel.wf hp (.dK [])
  have rel0 := rel.step s0 rfl
  have np : p ∉ c.om := rel.wf.free hp
  have kept : ∀ {c2 : Cfg} {H2 : Hp}, Step c (upd H p (.dK [])) c2 H2 → H2 p = some (.dK []) ∧ ¬ c2.fz p ∧ p ∉ c2.om := fun {c2 H2} s => by
    refine ⟨s.keep p _ upd_same np (by simp), fun z => ?_, fun z => ?_⟩
    · rcases s.fzn p z with z | z
      · exact rel.wf.dom p z hp
      · rw [upd_same] at z; cases z
    · obtain ⟨more, e, f⟩ := s.om
      rw [e] at z
      rcases List.mem_append.mp z with z | z
      · exact np z
      · have := f p z
        rw [upd_same] at this; cases this
  show tE call ea W a σ (upd H p (.dK [])) _
  refine ⟨c, rel0, ?_⟩
  match hv : ev call a c.env c.os, q with
  | .er ex os, q => exact fun cls d H' c' s e o r => q cls d H' c' (s0.trans s) e o r
  | .ok (.s ns) os, q =>
    intro x H1 c1 s1 e1 o1 r1
    rw [hb] at r1
    obtain ⟨sa, o, rfl, hsa⟩ := r1
    dsimp only at q
    split at q
    · rename_i hn
      have hn := of_decide_eq_true hn
      refine ⟨by rw [sizeLine_eq]; simp, fun q1 hq1 => ?_⟩
      obtain ⟨t1, _, _⟩ := step_any s1.wf hq1 (.lst [.int 0])
      have hsa2 : upd H1 q1 (.lst [V.int 0]) sa = some (.frz o (.lst (ns.map V.int))) := by
        rw [upd_ne (fun z => by rw [z, hq1] at hsa; cases hsa)]; exact hsa
      refine ⟨sa, q1, _, _, rfl, rfl, .inr ⟨o, hsa2⟩, upd_same, by rw [sizeLine_eq]; simp; omega, fun q2 hq2 => ?_⟩
      obtain ⟨_, t2, _⟩ := step_any t1.wf hq2 (.lst (ns.map V.int ++ [V.int 0]))
      have st := (s1.trans t1).trans t2
      obtain ⟨g1, g2, g3⟩ := kept st
      refine ⟨g1, [(.inr "cells", .ref q2), (.inr "at", .int 0), (.inr "left", .int 0), (.inr "used", .int 0)], rfl, by simp, ?_⟩
      have hm : mergeK [] [((.inr "cells" : Key), V.ref q2), (.inr "at", .int 0), (.inr "left", .int 0), (.inr "used", .int 0)] = [(.inr "cells", .ref q2), (.inr "at", .int 0), (.inr "left", .int 0), (.inr "used", .int 0)] := by
        first | rfl | decide
      rw [hm]
      have hcl : RpA (upd (upd H1 q1 (.lst [V.int 0])) q2 (.lst (ns.map V.int ++ [V.int 0]))) (c1.fr q2).fz (ns.map V.int ++ [V.int 0]) ((ns ++ [0]).map .int) := by
        have := RpA.ofInts (H := upd (upd H1 q1 (.lst [V.int 0])) q2 (.lst (ns.map V.int ++ [V.int 0]))) (fz := (c1.fr q2).fz) (ns ++ [0])
        simpa using this
      have fin := step_new (c3 := c1.fr q2) (s0.trans st) hp g1 g2 g3 (vs := [(.inr "cells", .ref q2), (.inr "at", .int 0), (.inr "left", .int 0), (.inr "used", .int 0)]) (kvs := [(.str "cells", .list ((ns ++ [0]).map .int)), (.str "at", .int 0), (.str "left", .int 0), (.str "used", .int 0)])
        (.cons (.lst (.inr rfl) upd_same hcl) (.cons (.int 0) (.cons (.int 0) (.cons (.int 0) .nil))))
      refine q (.ref p) _ _ fin e1 (by rw [← o1]; rfl) ⟨p, ?_, rfl⟩
      have hl : c1.om.length = os.length := by rw [s1.wf.len, o1]
      show (c1.om ++ [p])[os.length]? = some p
      rw [← hl]
      simp
    · exact q.elim
end
end FC
end
section
set_option Elab.async false
set_option linter.all false
set_option maxRecDepth 100000
set_option maxHeartbeats 4000000
namespace FC
open PySem L2 PyProof.Rows
variable [EA]
section
variable {G : Glob} {call : CallT} {ea : Nat → Addr} {k : Nat} {W E : XK} {X : Cx}
theorem Gd.lam (g : Gd G call ea k W X) {A : Around} {outer : List Env} {s : Shared} {H : Hp} {scope : Scope} {fa c' : Addr} (hr : Room k (A.deeper (LamX.lamEnv X scope s.heap.objs.size fa c'))) (hgu : A.guards = some []) :
    Gd G.off call ea k E (LamX.lamCx X A outer s H E scope fa c') :=
  ⟨rfl, g.nd, deeper_guards A _ hgu, hr, g.cst, g.blt, g.fns, takes_of rfl rfl rfl rfl, g.er, SdOk.off, g.dct, fun h => by cases h⟩
theorem tE.err {e : Ex} {σ : L2.St} {H : Hp} {c : Cfg} {Q Q' : VK} {f : Nat → List PyData → Objs → R PV} (rel : Rel c σ H) (hb : isBor e = false) (h : PoE ea W false σ c H (match ev call e c.env c.os with | .ok (.x cl ds) os1 => f cl ds os1 | .er y os1 => .er y os1 | _ => .st) Q)
    (hk : ∀ cl ds os x H' c', Step c H c' H' → c'.env = c.env → c'.os = os → Rel c' σ H' → Rpv H' c'.fz c'.om x (.x cl ds) → PoE ea W false σ c' H' (f cl ds os) Q → Q' x H') : tE call ea W e σ H Q' := by
  refine ⟨c, rel, ?_⟩
  match hv : ev call e c.env c.os, h with
  | .ok (.x cl ds) os, h =>
    intro x H' c' s e1 o r
    rw [hb] at r
    exact hk cl ds os x H' c' s e1 o (rel.step s e1) r (h.after s e1)
  | .er ex os, h => exact h
theorem s_isx1 (g : Gd G call ea k W X) {a : Ex} {a' : Expr} {f t : Str} {cn : Nat} {fp tp pos : Pos} (hg : glB X.env.scope f = true) (hgt : glB X.env.scope t = true) (hf : f = "isinstance") (ht : G.exc t = some cn) (hs : stE a' = false) (hb : isBor a = false) (hax : G.ax = true) (ha : PE X a' (tE call ea W a)) :
    PE X (.Call (.Name f fp) [a', .Name t tp] [] pos) (tE call ea W (.isx a [cn])) := by
  have er := g.er hax
  obtain ⟨q1, q2, q3⟩ := glB_gl hg
  obtain ⟨u1, u2, u3⟩ := glB_gl hgt
  obtain ⟨m1, m2⟩ := er.nm t cn ht
  have pT : PE X (.Name t tp) (tC (.ref (EA.ea cn))) := pe_glob u1 m1 rfl u2
  have hm : X.mg f = none := g.blt f (by rw [hf]; decide)
  have hbt : bootBuiltins f = some (.builtin "isinstance") := by rw [hf]; exact boot_isinstance
  refine PE.imp (pe_callB call_isX q1 hm hbt (pa_cons ha (pa_one pT rfl) (star_no hs _ _)) q3 q2 (star_no hs _ _) rfl) fun σ H Q ⟨c, rel, q⟩ => ?_
  simp only [ev] at q
  refine tE.err rel hb q fun cl ds os x H1 c1 s1 e1 o1 rel1 r1 q1 => ?_
  obtain ⟨ad, dx, vs, rfl, x1, x2, x3, x4⟩ := r1
  cases hc : clsOk cl with
  | false => rw [hc] at q1; exact q1.elim
  | true =>
    rw [hc] at q1
    refine ⟨ad, dx, EA.ea cl, EA.ea cn, _, decide (cl = cn), rfl, x1, x2, (er.cls cl hc).1, er.kit cl cn hc m2, ?_⟩
    have e2 : [cn].contains cl = decide (cl = cn) := by
      by_cases z : cl = cn <;> simp [z]
    rw [e2] at q1
    exact q1 _ H1 c1 (Step.refl rel1.wf) rfl o1 (.bl _)
theorem s_isx2 (g : Gd G call ea k W X) {a : Ex} {a' : Expr} {f t u : Str} {cn cm kt : Nat} {fp tp up ttp pos : Pos} (hg : glB X.env.scope f = true) (hgt : glB X.env.scope t = true) (hgu : glB X.env.scope u = true) (hf : f = "isinstance") (ht : G.exc t = some cn) (hu : G.exc u = some cm) (hs : stE a' = false) (hb : isBor a = false) (hax : G.ax = true) (ha : PE X a' (tE call ea W a)) :
    PE X (.Call (.Name f fp) [a', .Tuple [.Name t tp, .Name u up] kt ttp] [] pos) (tE call ea W (.isx a [cn, cm])) := by
  have er := g.er hax
  obtain ⟨q1, q2, q3⟩ := glB_gl hg
  obtain ⟨u1, u2, u3⟩ := glB_gl hgt
  obtain ⟨w1, w2, w3⟩ := glB_gl hgu
  obtain ⟨m1, m2⟩ := er.nm t cn ht
  obtain ⟨n1, n2⟩ := er.nm u cm hu
  have pT : PE X (.Tuple [.Name t tp, .Name u up] kt ttp) _ := pe_tup (pa_cons (pe_glob (v := .ref (EA.ea cn)) u1 m1 rfl u2) (pa_cons (pe_glob (v := .ref (EA.ea cm)) w1 n1 rfl w2) pa_nil))
  have hm : X.mg f = none := g.blt f (by rw [hf]; decide)
  have hbt : bootBuiltins f = some (.builtin "isinstance") := by rw [hf]; exact boot_isinstance
  refine PE.imp (pe_callB call_isXT q1 hm hbt (pa_cons ha (pa_one pT rfl) (star_no hs _ _)) q3 q2 (star_no hs _ _) rfl) fun σ H Q ⟨c, rel, q⟩ => ?_
  simp only [ev] at q
  refine tE.err rel hb q fun cl ds os x H1 c1 s1 e1 o1 rel1 r1 q1 => ?_
  obtain ⟨ad, dx, vs, rfl, x1, x2, x3, x4⟩ := r1
  cases hc : clsOk cl with
  | false => rw [hc] at q1; exact q1.elim
  | true =>
    rw [hc] at q1
    refine ⟨by show 2 ≤ sizeLine; rw [sizeLine_eq]; omega, fun p hp => ?_⟩
    have ne : ∀ b, H1 b ≠ none → b ≠ p := fun b h z => h (by rw [z]; exact hp)
    obtain ⟨s2, _, _⟩ := step_any rel1.wf hp (.tup [.ref (EA.ea cn), .ref (EA.ea cm)])
    refine ⟨ad, dx, EA.ea cl, p, [EA.ea cn, EA.ea cm], _, decide (cl = cn) || decide (cl = cm), rfl, upd_same, by rw [upd_ne (ne ad (by rw [x1]; simp))]; exact x1, by rw [upd_ne (ne dx (by rw [x2]; simp))]; exact x2, (er.cls cl hc).1, ?_, ?_⟩
    · have k1 := er.kit cl cn hc m2
      have k2 := er.kit cl cm hc n2
      refine kitAny_cons k1 (fun z => ?_) fun z => by simp [z]
      rw [z, Bool.false_or]
      exact kitAny_cons k2 (fun z => by rw [z]; exact kitAny_nil) fun z => z
    · have e2 : [cn, cm].contains cl = (decide (cl = cn) || decide (cl = cm)) := by
        by_cases z : cl = cn <;> by_cases z2 : cl = cm <;> simp [z, z2]
      rw [e2] at q1
      exact q1 _ _ c1 s2 rfl o1 (.bl _)
theorem zip_lookup {fz : Addr → Prop} {H : Hp} {n : Str} : ∀ {flds : List Str} {vs : List V} {ds : List PyData} {d : PyData}, RpA H fz vs ds → (flds.zip ds).lookup n = some d → ∃ v, (flds.zip vs).lookup n = some v ∧ Rp H fz v d ∧ n ∈ flds
  | [], _, _, _, _, h => by simp at h
  | _ :: _, _, _, _, .nil, h => by simp at h
  | f :: fl, _, _, d, .cons (v := v) (d := y) r t, h => by
    simp only [List.zip_cons_cons, List.lookup] at h ⊢
    cases e : n == f with
    | true =>
      rw [e] at h
      cases h
      exact ⟨v, rfl, r, by rw [eq_of_beq e]; simp⟩
    | false =>
      rw [e] at h
      obtain ⟨w, h1, h2, h3⟩ := zip_lookup t h
      exact ⟨w, h1, h2, List.mem_cons_of_mem _ h3⟩
theorem s_xget (g : Gd G call ea k W X) {a : Ex} {x n : Str} {p pos : Pos} (hb : isBor a = false) (hax : G.ax = true) (ha : PE X (.Name x p) (tE call ea W a)) : PE X (.Attribute (.Name x p) n pos) (tE call ea W (.xget a n)) := by
  have er := g.er hax
  refine PE.imp (pe_errf (n := n) (pos := pos) ha rfl) fun σ H Q ⟨c, rel, q⟩ => ?_
  simp only [ev] at q
  refine tE.err rel hb q fun cl ds os x H1 c1 s1 e1 o1 rel1 r1 q1 => ?_
  obtain ⟨ad, dx, vs, rfl, x1, x2, x3, x4⟩ := r1
  cases hc : clsOk cl with
  | false => rw [hc] at q1; exact q1.elim
  | true =>
    rw [hc] at q1
    cases hl : ((fldN cl).zip ds).lookup n with
    | none => rw [hl] at q1; exact q1.elim
    | some d =>
      rw [hl] at q1
      obtain ⟨v, h1, h2, h3⟩ := zip_lookup x4 hl
      exact ⟨ad, dx, EA.ea cl, _, v, rfl, x1, x2, (er.cls cl hc).1, (er.cls cl hc).2 n h3, h1, q1 v H1 c1 (Step.refl rel1.wf) rfl o1 h2⟩
end
end FC
end
section
set_option Elab.async false
set_option linter.all false
set_option maxRecDepth 100000
set_option maxHeartbeats 4000000
namespace FC
open PySem PySem.Spec PySem.Calls PyProof.Rows PySem.W L2
variable [EA]
section
variable {G : Glob} {call : CallT} {ea : Nat → Addr} {k : Nat} {W : XK} {X : Cx}
theorem fld_le' (cl : Nat) : (fldN cl).length ≤ 1000 := by
  unfold fldN
  split <;> simp
theorem err_made {cl : Nat} {c : Cfg} {H : Hp} {os : Objs} {env : PEnv} {vs : List V} {ds : List PyData} {Q : VK} (w : WF H c) (hl : vs.length = (fldN cl).length) (r : RpA H c.fz vs ds) (q : ∀ (x : V) (H' : Hp) (c' : Cfg), Step c H c' H' → c'.env = c.env → c'.os = c.os → Rpv H' c'.fz c'.om x (.x cl ds) → Q x H') : ErrV (EA.ea cl) (fldN cl) vs H Q := by
  refine ⟨hl, fun dx e h1 h2 hne => ?_⟩
  obtain ⟨s1, _, _⟩ := step_any w h1 (.xd ((fldN cl).zip vs))
  have h3 : upd H dx (.xd ((fldN cl).zip vs)) e = none := by rw [upd_ne (Ne.symm hne)]; exact h2
  obtain ⟨s2, _, _⟩ := step_any s1.wf h3 (ExX (.ref (EA.ea cl)) (some dx) e)
  exact q _ _ c (s1.trans s2) rfl rfl ⟨e, dx, vs, rfl, upd_same, by rw [upd_ne hne]; exact upd_same, hl, RpA.keep ((s1.trans s2).kp w) r⟩
theorem t_mkx {cl kw : Nat} {as : List Ex} {σ : L2.St} {H : Hp} {Q : VK} {rev : Bool} (hk : rev = decide (kw = 2)) (q : tE call ea W (.mkx cl kw as) σ H Q) : tA call ea W as σ H fun vs H1 => ErrV (EA.ea cl) (fldN cl) (perF rev vs) H1 Q := by
  obtain ⟨c, rel, q⟩ := q
  refine ⟨c, rel, ?_⟩
  simp only [ev] at q
  cases hv : evs call as c.env c.os with
  | st => rw [hv] at q; exact q
  | er y os => rw [hv] at q; exact q
  | ok vs os =>
    rw [hv] at q
    intro xs H1 c1 s1 e1 o1 r1
    simp only [R.bind] at q
    cases hd : dataAll vs with
    | none => rw [hd] at q; exact q.elim
    | some ds =>
      rw [hd] at q
      dsimp only at q
      split at q
      · rename_i hc
        simp only [Bool.and_eq_true, decide_eq_true_eq] at hc
        have ra := r1.data hd
        have hl : xs.length = (fldN cl).length := by rw [ra.length]; exact hc.2
        have hl2 : (perF rev xs).length = (fldN cl).length := by
          unfold perF
          split
          · rw [List.length_reverse]; exact hl
          · exact hl
        have rb : RpA H1 c1.fz (perF rev xs) (if kw = 2 then ds.reverse else ds) := by
          by_cases z : kw = 2
          · rw [if_pos z, hk, z]; exact RpA.rev ra
          · rw [if_neg z, hk, decide_eq_false z]; exact ra
        exact err_made (env := c1.env) (os := c1.os) s1.wf hl2 rb fun x H' c' s' e' o' r' => q x H' c' (s1.trans s') (e'.trans e1) (o'.trans o1) r'
      · exact q.elim
theorem s_mkx (g : Gd G call ea k W X) (hm : G.mke = true) {cl : Nat} {as : List Ex} {x : Str} {e : Expr} {es : List Expr} {p pos : Pos} (hg : glB X.env.scope x = true) (hx : G.exc x = some cl) (hst : ∀ y ∈ e :: es, stE y = false) (ha : PA X (e :: es) (tA call ea W as)) :
    PE X (.Call (.Name x p) (e :: es) [] pos) (tE call ea W (.mkx cl 0 as)) := by
  obtain ⟨q1, q2, q3⟩ := glB_gl hg
  have M := g.mke hm
  obtain ⟨m1, fI, B, i, newId, bmB, EK, IR, IRK⟩ := M.cls x cl hx
  obtain ⟨j, hr⟩ := M.rm
  exact PE.imp (pe_errV EK IR (fld_le' cl) hr q1 m1 ha q2 (star_no (hst e (by simp)) _ _) (back_no fun y hy => hst y (by simp [hy]))) fun σ H Q q => t_mkx (rev := false) rfl q
theorem s_kcons {a : Ex} {as : List Ex} {kw : Keyword} {kws : List Keyword} (hs : isStar a = false) (hb : isBor a = false) (ha : PE X kw.value (tE call ea W a)) (hr : PK X kws (tA call ea W as)) : PK X (kw :: kws) (tA call ea W (a :: as)) := by
  obtain ⟨nm, e, kp⟩ := kw
  refine ⟨fun pos pins s σ H Q I ⟨c, rel, q⟩ => (pk_cons (nm := nm) (kpos := kp) ha hr).run pos pins s σ H Q I ⟨c, rel, ?_⟩⟩
  rw [evs_cons hs] at q
  cases hv : ev call a c.env c.os with
  | ok v os =>
    rw [hv] at q
    intro x H1 c1 s1 e1 o1 r1
    rw [hb] at r1
    have rel1 := rel.step s1 e1
    have q1 := q.after s1 e1
    simp only [R.bind] at q1
    rw [← e1, ← o1] at q1
    refine ⟨c1, rel1, ?_⟩
    cases hw : evs call as c1.env c1.os with
    | ok vs os2 =>
      rw [hw] at q1
      exact fun xs H2 c2 s2 e2 o2 r2 => q1 (x :: xs) H2 c2 s2 e2 o2 (.cons (Rpv.step s2 rel1.wf r1) r2)
    | er ex os2 => rw [hw] at q1; exact q1
    | st => rw [hw] at q1; exact q1
  | er ex os => rw [hv] at q; exact q
  | st => rw [hv] at q; exact q
theorem s_knil : PK X [] (tA call ea W []) := ⟨fun pos pins s σ H Q I ⟨c, rel, q⟩ => pk_nil.run pos pins s σ H Q I (q [] H c (Step.refl rel.wf) rfl rfl .nil)⟩
theorem s_mkxK (g : Gd G call ea k W X) (hm : G.mke = true) {cl kw : Nat} {as : List Ex} {x : Str} {kws : List Keyword} {p pos : Pos} (hg : glB X.env.scope x = true) (hx : G.exc x = some cl) (hn : kw = 1 ∧ kws.map (·.arg) = (fldN cl).map some ∨ kw = 2 ∧ kws.map (·.arg) = (fldN cl).reverse.map some) (ha : PK X kws (tA call ea W as)) :
    PE X (.Call (.Name x p) [] kws pos) (tE call ea W (.mkx cl kw as)) := by
  obtain ⟨q1, q2, q3⟩ := glB_gl hg
  have M := g.mke hm
  obtain ⟨m1, fI, B, i, newId, bmB, EK, IR, IRK⟩ := M.cls x cl hx
  obtain ⟨j, hr⟩ := M.rm
  rcases hn with ⟨rfl, hn⟩ | ⟨rfl, hn⟩
  · exact PE.imp (pe_errVK (rev := false) EK IRK (fld_le' cl) hr q1 m1 ha q2 hn) fun σ H Q q => t_mkx (rev := false) rfl q
  · exact PE.imp (pe_errVK (rev := true) EK IRK (fld_le' cl) hr q1 m1 ha q2 hn) fun σ H Q q => t_mkx (rev := true) rfl q
def rIsT (K : PySem.W.Frag) (T : String) : List V → Hp → VK → Prop := fun xs H Q => ∃ (a dx D : Addr) (fs : List (Str × V)) (b : Bool), xs = [.ref a, .ty T] ∧ H a = some (ExX (.ref D) (some dx) a) ∧ H dx = some (.xd fs) ∧ ExcC K D ∧ PySem.W.kitOne K (.ref D) (.type T) = some b ∧ Q (.bl b) H
theorem call_isT {X : Cx} {T : String} : CallR X (.builtin "isinstance") (rIsT X.K T) := by
  intro pins s σ H xs us Q I r h
  obtain ⟨a, dx, D, fs, b, rfl, e1, e2, C, hk, q⟩ := h
  obtain ⟨u1, u2, rfl, r1, r2⟩ := vals2 r
  obtain rfl : u1 = Value.ref a := r1
  obtain rfl : u2 = Value.type T := r2
  obtain ⟨oe, od, mA, J, _, _⟩ := err_at I e1 e2
  exact PySem.W.kia_one (kit_err C) I.kIn J hk (fun z => nomatch z) fun tk => ⟨.bl b, H, I.tok tk, rfl, q⟩
theorem s_isyT (g : Gd G call ea k W X) {wh : Nat} {T : String} {a : Ex} {a' : Expr} {f t : Str} {fp tp pos : Pos} (hg : glB X.env.scope f = true) (hgt : glB X.env.scope t = true) (hf : f = "isinstance") (hs : stE a' = false) (hb : isBor a = false) (hax : G.ax = true)
    (hbt : bootBuiltins t = some (.type T)) (hmt : X.mg t = none) (hk : ∀ cl, clsOk cl = true → PySem.W.kitOne X.K (.ref (EA.ea cl)) (.type T) = some (famD wh cl)) (ha : PE X a' (tE call ea W a)) :
    PE X (.Call (.Name f fp) [a', .Name t tp] [] pos) (tE call ea W (.isy wh a)) := by
  have er := g.er hax
  obtain ⟨q1, q2, q3⟩ := glB_gl hg
  obtain ⟨u1, u2, u3⟩ := glB_gl hgt
  have pT : PE X (.Name t tp) (tC (.ty T)) := pe_bltn u1 hmt hbt rfl u3 u2
  have hm : X.mg f = none := g.blt f (by rw [hf]; decide)
  have hbi : bootBuiltins f = some (.builtin "isinstance") := by rw [hf]; exact boot_isinstance
  refine PE.imp (pe_callB (call_isT (T := T)) q1 hm hbi (pa_cons ha (pa_one pT rfl) (star_no hs _ _)) q3 q2 (star_no hs _ _) rfl) fun σ H Q ⟨c, rel, q⟩ => ?_
  simp only [ev] at q
  refine tE.err rel hb q fun cl ds os x H1 c1 s1 e1 o1 rel1 r1 q1 => ?_
  obtain ⟨ad, dx, vs, rfl, x1, x2, x3, x4⟩ := r1
  cases hc : clsOk cl with
  | false => rw [hc] at q1; exact q1.elim
  | true =>
    rw [hc] at q1
    exact ⟨ad, dx, EA.ea cl, _, famD wh cl, rfl, x1, x2, (er.cls cl hc).1, hk cl hc, q1 _ H1 c1 (Step.refl rel1.wf) rfl o1 (.bl _)⟩
theorem s_isyF (g : Gd G call ea k W X) (hm : G.mke = true) {a : Ex} {a' : Expr} {f t : Str} {fp tp pos : Pos} (hg : glB X.env.scope f = true) (hgt : glB X.env.scope t = true) (hf : f = "isinstance") (ht : t = "FallError") (hs : stE a' = false) (hb : isBor a = false) (hax : G.ax = true) (ha : PE X a' (tE call ea W a)) :
    PE X (.Call (.Name f fp) [a', .Name t tp] [] pos) (tE call ea W (.isy 0 a)) := by
  have er := g.er hax
  obtain ⟨q1, q2, q3⟩ := glB_gl hg
  obtain ⟨u1, u2, u3⟩ := glB_gl hgt
  obtain ⟨D, m1, m2, m3, m4, m5, m6⟩ := (g.mke hm).fam.fam
  have pT : PE X (.Name t tp) (tC (.ref D)) := pe_glob u1 (by rw [ht]; exact m1) rfl u2
  have hmi : X.mg f = none := g.blt f (by rw [hf]; decide)
  have hbt : bootBuiltins f = some (.builtin "isinstance") := by rw [hf]; exact boot_isinstance
  refine PE.imp (pe_callB call_isX q1 hmi hbt (pa_cons ha (pa_one pT rfl) (star_no hs _ _)) q3 q2 (star_no hs _ _) rfl) fun σ H Q ⟨c, rel, q⟩ => ?_
  simp only [ev] at q
  refine tE.err rel hb q fun cl ds os x H1 c1 s1 e1 o1 rel1 r1 q1 => ?_
  obtain ⟨ad, dx, vs, rfl, x1, x2, x3, x4⟩ := r1
  cases hc : clsOk cl with
  | false => rw [hc] at q1; exact q1.elim
  | true =>
    rw [hc] at q1
    exact ⟨ad, dx, EA.ea cl, D, _, famD 0 cl, rfl, x1, x2, (er.cls cl hc).1, m6 cl hc, q1 _ H1 c1 (Step.refl rel1.wf) rfl o1 (.bl _)⟩
theorem s_isy (g : Gd G call ea k W X) (hm : G.mke = true) {wh : Nat} {a : Ex} {a' : Expr} {f t : Str} {fp tp pos : Pos} (hg : glB X.env.scope f = true) (hgt : glB X.env.scope t = true) (hf : f = "isinstance") (ht : t = famN wh) (hs : stE a' = false) (hb : isBor a = false) (hax : G.ax = true) (ha : PE X a' (tE call ea W a)) :
    PE X (.Call (.Name f fp) [a', .Name t tp] [] pos) (tE call ea W (.isy wh a)) := by
  have F := (g.mke hm).fam
  obtain ⟨n1, n2, n3⟩ := F.no
  match wh with
  | 0 => exact s_isyF g hm hg hgt hf ht hs hb hax ha
  | 1 => exact s_isyT g (T := "ValueError") hg hgt hf hs hb hax (by rw [ht]; rfl) (by rw [ht]; exact n1) (fun cl hc => (F.bi cl hc).1) ha
  | 2 => exact s_isyT g (T := "OverflowError") hg hgt hf hs hb hax (by rw [ht]; rfl) (by rw [ht]; exact n2) (fun cl hc => (F.bi cl hc).2.1) ha
  | n + 3 => exact s_isyT g (T := "RuntimeError") hg hgt hf hs hb hax (by rw [ht]; rfl) (by rw [ht]; exact n3) (fun cl hc => (F.bi cl hc).2.2) ha
theorem pe_ownV {C : Addr} {bmB : List Value} {B newId initId : String} {x m : Str} {j : Nat} {p p2 pos : Pos} (F : ExcBaseFacts B newId initId bmB) (q : PySem.W.excIn X.K C bmB newId = true) (gC : X.mg x = some (.ref C)) (kC : PySem.W.keepIn X.K (.ref C) = true) (hg : Gl X x)
    (hdb : (x == ("__debug__" : Str)) = false) : PE X (.Call (.Name x p) [.Constant (.str m) j p2] [] pos) (fun _ H Q => ∀ e, H e = none → Q (.ref e) (upd H e (ExX (.ref C) none e))) := by
  refine ⟨fun pins s σ H Q I h => ?_⟩
  refine wpAny_Call_Name_kw (ld_glob I hg gC ?_ hdb)
  have ha : PA X [.Constant (.str m) j p2] (tCons (tC (.str m)) tNil) := pa_cons pe_str pa_nil
  refine PySem.W.callWith_K (h₀ := X.base) I.ok.mod.kin kC (thn (ha.run pos pins s σ H (fun vs H1 => vs = [V.str m] ∧ H = H1) I ⟨rfl, rfl⟩) fun us s1 hh => ?_)
  obtain ⟨vs, H1, I1, r1, ev, eH⟩ := hh
  subst ev
  rw [← eH] at I1
  refine ⟨I1.kIn, ?_⟩
  cases r1 with
  | cons ru rn =>
    rename_i u us'
    cases rn
    show wpAny _ _ (PySem.call (.ref C) [u]) _ _ _
    obtain ⟨bm, N, nm, qn, bs, hdct, sn, sub, ab, col, dd, k0, k1, k2, k3, k5, mN, hC, hN, hni, T⟩ := exc_obj I1.kIn q
    refine wpAny_call_exc_subT F T hC hN hni (fun h' e hm => ?_) (by show 1 ≤ sizeLine; rw [sizeLine_eq]; omega)
    have hen := I1.hok.gone hm.new
    obtain ⟨t, he, _, _⟩ := hm.there
    have ox : ObjOk X.prog X.w (upd H e (ExX (.ref C) none e)) h' e (ExX (.ref C) none e) := by
      refine ⟨⟨_, _, he, ⟨rfl, rfl⟩, rfl⟩, ⟨_, he⟩, fun h1 h2 ⟨oe, ws, e1, e2, e3⟩ kk => ⟨oe, ws, kk _ e1, e2, e3⟩⟩
    exact ⟨.ref e, _, I1.laidN (t' := s1.toks) hm.keeps hm.new hen ox, rfl, h e hen⟩
def rIsN (K : PySem.W.Frag) (T : String) : List V → Hp → VK → Prop := fun xs H Q => ∃ (a D : Addr) (b : Bool), xs = [.ref a, .ty T] ∧ H a = some (ExX (.ref D) none a) ∧ ExcC K D ∧ PySem.W.kitOne K (.ref D) (.type T) = some b ∧ Q (.bl b) H
theorem call_isN {X : Cx} {T : String} : CallR X (.builtin "isinstance") (rIsN X.K T) := by
  intro pins s σ H xs us Q I r h
  obtain ⟨a, D, b, rfl, e1, C, hk, q⟩ := h
  obtain ⟨u1, u2, rfl, r1, r2⟩ := vals2 r
  obtain rfl : u1 = Value.ref a := r1
  obtain rfl : u2 = Value.type T := r2
  obtain ⟨⟨oe, vs, g1, g2, g3⟩, _, _⟩ := I.hok a _ e1
  have J : PySem.W.InstAt s.heap a oe D none := ⟨g1, g2.1, by unfold PySem.W.notCls; rw [g3] <;> rfl, by rw [g2.2]; trivial⟩
  exact PySem.W.kia_one (kit_err C) I.kIn J hk (fun z => nomatch z) fun tk => ⟨.bl b, H, I.tok tk, rfl, q⟩
theorem s_isf (g : Gd G call ea k W X) (hm : G.mke = true) {f x t m : Str} {j : Nat} {fp xp p2 p3 tp pos : Pos} (hg : glB X.env.scope f = true) (hgx : glB X.env.scope x = true) (hgt : glB X.env.scope t = true) (hf : f = "isinstance") (hx : x = "FallError") (ht : t = "ValueError") :
    PE X (.Call (.Name f fp) [.Call (.Name x xp) [.Constant (.str m) j p2] [] p3, .Name t tp] [] pos) (tE call ea W .isf) := by
  obtain ⟨q1, q2, q3⟩ := glB_gl hg
  obtain ⟨v1, v2, v3⟩ := glB_gl hgx
  obtain ⟨u1, u2, u3⟩ := glB_gl hgt
  have Fm := (g.mke hm).fam
  obtain ⟨D, m1, m2, m3, m4, m5, m6⟩ := Fm.fam
  have pT : PE X (.Name t tp) (tC (.ty "ValueError")) := pe_bltn u1 (by rw [ht]; exact Fm.no.1) (by rw [ht]; rfl) rfl u3 u2
  have hmi : X.mg f = none := g.blt f (by rw [hf]; decide)
  have hbi : bootBuiltins f = some (.builtin "isinstance") := by rw [hf]; exact boot_isinstance
  have po : PE X (.Call (.Name x xp) [.Constant (.str m) j p2] [] p3) _ := pe_ownV PySem.F.excBase_ValueError m3 (by rw [hx]; exact m1) m2 v1 v2
  refine PE.imp (pe_callB (call_isN (T := "ValueError")) q1 hmi hbi (pa_cons po (pa_one pT rfl) (star_no rfl _ _)) q3 q2 (star_no rfl _ _) rfl) fun σ H Q ⟨c, rel, q⟩ => ?_
  simp only [ev] at q
  intro e he
  obtain ⟨s1, _, _⟩ := step_any rel.wf he (ExX (.ref D) none e)
  exact ⟨e, D, true, rfl, upd_same, m4, m5, q _ _ c s1 rfl rfl (.bl _)⟩
theorem RpL.xs {c : Cfg} {H : Hp} : ∀ {vs : List V} {xs : List PV} {es : List (Nat × List PyData)}, RpL c H vs xs → xsAll xs = some es → RpXs H c.fz vs es
  | _, _, _, .nil, e => by cases e; exact .nil
  | _, _, _, .cons (x := .x cl ds) r t, e => by
    simp only [xsAll] at e
    split at e
    · rename_i hc
      simp only [Option.map_eq_some_iff] at e
      obtain ⟨es, e1, rfl⟩ := e
      obtain ⟨a, dx, us, rfl, x1, x2, x3, x4⟩ := r
      exact .cons x1 x2 x3 hc x4 (t.xs e1)
    · cases e
  | _, _, _, .cons (x := .d _) r t, e => by simp [xsAll] at e
  | _, _, _, .cons (x := .o _) r t, e => by simp [xsAll] at e
  | _, _, _, .cons (x := .s _) r t, e => by simp [xsAll] at e
  | _, _, _, .cons (x := .xs _) r t, e => by simp [xsAll] at e
theorem xs_new {c : Cfg} {H : Hp} {σ : L2.St} {Q : VK} {vs : List V} {es : List (Nat × List PyData)} {os : Objs} {b : Addr} (w : WF H c) (o : c.os = os) (hb : H b = none) (r : RpXs H c.fz vs es) (q : PoE ea W false σ c H (.ok (.xs es) os) Q) : Q (.ref b) (upd H b (.lst vs)) := by
  obtain ⟨_, s2, kp⟩ := step_any w hb (.lst vs)
  refine q (.ref b) _ _ s2 rfl o ⟨b, vs, rfl, .inr rfl, upd_same, ?_⟩
  exact r.step s2 w
theorem s_lstx {as : List Ex} {es : List Expr} {pos : Pos} (h : PA X es (tA call ea W as)) : PE X (.List es pos) (tE call ea W (.lstx as)) :=
  PE.imp (pe_lst h) fun σ H Q ⟨c, rel, q⟩ => by
    simp only [ev] at q
    refine tA.dat rel q fun vs os xs H1 c1 s e o rel1 r q1 => ?_
    cases hd : xsAll vs with
    | none => rw [hd] at q1; exact q1.elim
    | some es =>
      rw [hd] at q1
      dsimp only at q1
      split at q1
      · rename_i hf
        have ra := r.xs hd
        exact ⟨by rw [ra.length]; exact fit_le hf, fun b hb => xs_new rel1.wf o hb ra q1⟩
      · exact q1.elim
theorem tE.xs {e : Ex} {σ : L2.St} {H : Hp} {c : Cfg} {Q Q' : VK} {f : List (Nat × List PyData) → Objs → R PV} (rel : Rel c σ H) (hb : isBor e = false) (h : PoE ea W false σ c H (match ev call e c.env c.os with | .ok (.xs es) os1 => f es os1 | .er y os1 => .er y os1 | _ => .st) Q)
    (hk : ∀ es os x H' c', Step c H c' H' → c'.env = c.env → c'.os = os → Rel c' σ H' → Rpv H' c'.fz c'.om x (.xs es) → PoE ea W false σ c' H' (f es os) Q → Q' x H') : tE call ea W e σ H Q' := by
  refine ⟨c, rel, ?_⟩
  match hv : ev call e c.env c.os, h with
  | .ok (.xs es) os, h =>
    intro x H' c' s e1 o r
    rw [hb] at r
    exact hk es os x H' c' s e1 o (rel.step s e1) r (h.after s e1)
  | .er ex os, h => exact h
theorem s_catx {a b : Ex} {a' b' : Expr} {pos : Pos} (h1 : isBor a = false) (h2 : isBor b = false) (ha : PE X a' (tE call ea W a)) (hb : PE X b' (tE call ea W b)) : PE X (.BinOp a' .Add b' pos) (tE call ea W (.catx a b)) :=
  PE.imp (pe_op op_cat ha hb) fun σ H Q ⟨c, rel, q⟩ => by
    simp only [ev] at q
    refine tE.xs rel h1 q fun es os x H1 c1 s1 e1 o1 rel1 r1 q1 => ?_
    rw [← e1, ← o1] at q1
    refine tE.xs rel1 h2 q1 fun ds os2 y H2 c2 s2 e2 o2 rel2 r2 q2 => ?_
    obtain ⟨p, vs, rfl, f1, l1, x1⟩ := Rpv.step s2 rel1.wf r1
    obtain ⟨p2, us, rfl, f2, l2, x2⟩ := r2
    split at q2
    · rename_i hf
      refine ⟨p, p2, vs, us, rfl, rfl, l1, l2, by rw [x1.length, x2.length]; exact fit_le hf, fun d hd => xs_new rel2.wf o2 hd (x1.append x2) q2⟩
    · exact q2.elim
theorem base_call {x n : Str} {p p1 : Pos} {es : List Expr} {kws : List Keyword} {env : Env} {w : Sem Value} (h : (!es.isEmpty || !kws.isEmpty) = true) : attributeBase (.Call (.Name x p1) es kws p) n env w = w := by
  cases es with
  | cons e es => rfl
  | nil =>
    cases kws with
    | cons k ks => rfl
    | nil => cases h
theorem s_xgetC (g : Gd G call ea k W X) {a : Ex} {n : Str} {a' : Expr} {pos : Pos} (hb : isBor a = false) (hax : G.ax = true) (hba : attributeBase a' n X.env (eval a' X.env) = eval a' X.env) (ha : PE X a' (tE call ea W a)) : PE X (.Attribute a' n pos) (tE call ea W (.xget a n)) := by
  have er := g.er hax
  refine PE.imp (pe_errf (n := n) (pos := pos) ha hba) fun σ H Q ⟨c, rel, q⟩ => ?_
  simp only [ev] at q
  refine tE.err rel hb q fun cl ds os x H1 c1 s1 e1 o1 rel1 r1 q1 => ?_
  obtain ⟨ad, dx, vs, rfl, x1, x2, x3, x4⟩ := r1
  cases hc : clsOk cl with
  | false => rw [hc] at q1; exact q1.elim
  | true =>
    rw [hc] at q1
    cases hl : ((fldN cl).zip ds).lookup n with
    | none => rw [hl] at q1; exact q1.elim
    | some d =>
      rw [hl] at q1
      obtain ⟨v, h1, h2, h3⟩ := zip_lookup x4 hl
      exact ⟨ad, dx, EA.ea cl, _, v, rfl, x1, x2, (er.cls cl hc).1, (er.cls cl hc).2 n h3, h1, q1 v H1 c1 (Step.refl rel1.wf) rfl o1 h2⟩
end
end FC
end
section
set_option Elab.async false
set_option linter.all false
set_option maxRecDepth 100000
set_option maxHeartbeats 4000000
namespace FC
open PySem L2 PyProof.Rows
section
variable {prog : Program} {w : World} {A : Around} {E : Value → Shared → Prop} {s : Shared}
theorem rev_places (n : Nat) : Builtin.Slice.slicePlaces ((n : Int) - 1) (-1) (-1) = n := by
  unfold Builtin.Slice.slicePlaces
  have h1 : ¬ ((-1 : Int) > 0) := by decide
  simp only [h1, if_false, show (- -1 : Int) = 1 by decide, Int.ediv_one]
  split <;> omega
theorem rev_adjust (n : Nat) : Builtin.Slice.sliceAdjust none none (-1) (n : Int) = ((n : Int) - 1, -1) := by
  unfold Builtin.Slice.sliceAdjust
  rfl
theorem slice_rev {sl : Addr} {n : Nat} {t : Tok} {Q : Int × Int × Nat → Shared → Prop} (hs : s.heap.IsSliceOf sl .none .none (.int (-1) t)) (h : Q ((n : Int) - 1, -1, n) s) : wpAny (model prog w) A (Builtin.Slice.sliceApplied (.ref sl) (pure (n : Int))) Q E s := by
  obtain ⟨os, hos, hcs, hds⟩ := id hs
  unfold Builtin.Slice.sliceApplied Builtin.Slice.sliceFields
  refine wpAny_bind (wpAny_bind (wpAny_field hos hds (x := .none) rfl (wpAny_bind (wpAny_field hos hds (x := .none) rfl (wpAny_bind (wpAny_field hos hds (x := .int (-1) t) rfl (wpAny_pure ?_)))))))
  refine wpAny_bind (HT.slicePart_ (.int (-1) t) ?_)
  show wpAny _ _ (if ((-1 : Int) == 0) = true then _ else _) _ _ s
  rw [if_neg (by decide)]
  refine wpAny_bind (HT.slicePart_ .none (wpAny_bind (HT.slicePart_ .none (wpAny_bind (wpAny_pure ?_)))))
  show wpAny _ _ (match Builtin.Slice.sliceAdjust none none (-1) (n : Int) with | (lo, hi) => pure (lo, (-1 : Int), Builtin.Slice.slicePlaces lo hi (-1))) _ _ s
  rw [rev_adjust n]
  show wpAny _ _ (pure ((n : Int) - 1, (-1 : Int), Builtin.Slice.slicePlaces ((n : Int) - 1) (-1) (-1))) _ _ s
  rw [rev_places]
  exact wpAny_pure h
theorem rev_pick (xs : Array Value) : ((List.range xs.size).filterMap fun (m : Nat) => xs[(((xs.size : Int) - 1) + (m : Int) * (-1)).toNat]?).toArray = xs.toList.reverse.toArray := by
  have e : (List.range xs.size).filterMap (fun (m : Nat) => xs[(((xs.size : Int) - 1) + (m : Int) * (-1)).toNat]?) = ((List.range xs.size).map fun k => xs.size - 1 - k).filterMap (xs[·]?) := by
    rw [List.filterMap_map]
    congr 1
    funext m
    have : (((xs.size : Int) - 1) + (m : Int) * (-1)).toNat = xs.size - 1 - m := by omega
    rw [this]
    rfl
  rw [e, PySem.W.krv_range, List.filterMap_reverse, PySem.W.krv_all]
theorem getItem_rev {t sl : Addr} {items : Array Value} {tk : Tok} {Q : Value → Shared → Prop} (ht : IsTup s.heap t items) (hs : s.heap.IsSliceOf sl .none .none (.int (-1) tk))
    (h : Q (.ref s.heap.objs.size) { s with heap := s.heap.push { cls := .type "tuple", data := .seq items.toList.reverse.toArray } }) (hsz : items.size ≤ sizeLine) : wpAny (model prog w) A (getItem (.ref t) (.ref sl)) Q E s := by
  have htake : sizeOk (.seq items.toList.reverse.toArray) := by
    show items.toList.reverse.toArray.size ≤ sizeLine
    rw [List.size_toArray, List.length_reverse, Array.length_toList]
    exact hsz
  obtain ⟨os, hos, hcs, hds⟩ := id hs
  have hTs : s.TypeIs (.ref sl) "slice" := ⟨os, hos, hcs⟩
  unfold getItem
  try with_reducible refine wpAny_holding ?_
  first | refine wpAny_bind (wpAny_pure ?_) | skip
  refine wpAny_bind (wpAny_sequenceKey ht.typeIs (by decide) ?_)
  refine wpAny_bind (wpAny_callSpecial?_slot (name := Str.ofString "__getitem__") ht.typeIs PyProof.Rows.slot_tuple_getitem (wpAny_call_entry PyProof.Rows.slot_tuple_getitem ht.typeIs PyProof.Rows.entry_tuple_getitem ?_ (PyProof.Rows.args_tuple_getitem _ _)))
  show wpAny _ _ (Builtin.Tuple.tupleItemsOf (.ref t) >>= _) _ _ s
  refine wpAny_bind (PyProof.Rows.tupleItemsOf_ ht ?_)
  refine wpAny_bind (wpAny_typeOf hTs ?_)
  rw [if_pos (by decide)]
  refine wpAny_bind (slice_rev hs ?_)
  show wpAny _ _ (if (((items.size : Int) - 1) == 0 && (-1 : Int) == 1 && items.size == items.size) = true then _ else _) _ _ s
  rw [if_neg (by simp), rev_pick]
  first
    | exact wpAny_bind (m := Builtin.Tuple.tupleExact _) (wpAny_newObj_type (wpAny_pure ⟨_, rfl, wpAny_pure h⟩) htake)
    | exact wpAny_bind (m := Builtin.Tuple.tupleExact _) (wpAny_newObj_type (wpAny_bind (wpAny_pure (wpAny_pure ⟨_, rfl, wpAny_pure h⟩))) htake)
    | exact wpAny_bind (wpAny_bind (m := Builtin.Tuple.tupleExact _) (wpAny_newObj_type (wpAny_pure (wpAny_pure ⟨_, rfl, wpAny_pure h⟩)) htake))
    | exact wpAny_bind (wpAny_bind (m := Builtin.Tuple.tupleExact _) (wpAny_newObj_type (wpAny_pure ⟨_, rfl, wpAny_pure h⟩) htake))
end
variable [EA]
section
variable {G : Glob} {call : CallT} {ea : Nat → Addr} {k : Nat} {W : XK} {X : Cx}
theorem s_rev {a : Ex} {a' : Expr} {p1 p2 p3 pos : Pos} {j : Nat} (ha : PE X a' (tE call ea W a)) : PE X (.Subscript a' (.Slice none none (some (.UnaryOp .USub (.Constant (.int 1) j p1) p2)) p3) pos) (tE call ea W (.op1 .rev a)) := by
  refine ⟨fun pins s σ H Q I h => ?_⟩
  refine Subscript_ (thn (ha.run pins s σ H _ I (t_op1 h)) fun v s1 ⟨x, H1, I1, r1, q1⟩ => ?_)
  have hn : PE X (.UnaryOp .USub (.Constant (.int 1) j p1) p2) (tUn (fun x H Q => ∃ i : Int, x = .int i ∧ Q (.int (-i)) H) fun σ H Q => Q (.int 1) H) := pe_un un_neg pe_int
  refine wpAny_Slice ?_
  refine wpAny_evalPart_none (wpAny_evalPart_none (wpAny_evalPart_some ?_))
  refine thn (hn.run pins s1 σ H1 (fun z H2 => z = .int (-1) ∧ H2 = H1) I1 ⟨1, rfl, rfl, rfl⟩) fun u s2 ⟨z, H2, I2, rz, hz, h2⟩ => ?_
  subst hz h2
  obtain ⟨tk, rfl⟩ := rz
  obtain ⟨c, x', d, z, e, w, hd, hz, hq⟩ := q1
  cases e
  cases d <;> simp only [d1] at hz <;> try contradiction
  cases hz
  obtain ⟨t, ys, rfl, h1, ry⟩ := hd.tup
  cases r1
  have I4 : Inv X pins σ H2 { s2 with heap := s2.heap.push { cls := .type "slice", data := .fields #[.none, .none, .int (-1) tk] } } := I2.kept (t' := s2.toks) fun b ob q => Heap.get?_push_of_some _ q
  obtain ⟨its, r, ht, hz⟩ := I4.tuple h1.sq
  have hlen : its.toArray.size = ys.length := by rw [List.size_toArray]; exact r.length.symm
  show wpAny (model X.prog X.w) X.A (subscriptTail a' (.Slice none none (some (.UnaryOp .USub (.Constant (.int 1) j p1) p2)) p3) (.ref t) (.ref s2.heap.objs.size)) (EP X pins σ Q) X.xe { s2 with heap := s2.heap.push { cls := .type "slice", data := .fields #[.none, .none, .int (-1) tk] } }
  refine tail_any (ops := [.ref t, .ref s2.heap.objs.size]) ht.typeIs PyProof.Rows.slot_tuple_getitem.lookup ?_ (by with_unfolding_all rfl)
  refine getItem_rev ht (Heap.IsSliceOf.new ..) ?_ (by rw [hlen]; exact hz)
  exact newT_end I4 (by rw [List.length_reverse]; exact hz) r.reverse (hq.tupF w ry.rev)
end
end FC
end
section
set_option Elab.async false
set_option linter.all false
set_option maxRecDepth 100000
set_option maxHeartbeats 4000000
namespace FC
open PySem L2 PyProof.Rows
abbrev emS (w : World) : Obj := { cls := .type "set", dict := none, data := .set #[] 0 (.fresh 0 0 (!w.params.followText "set-order")) }
section
variable {P : Program} {w : World} {A : Around} {E : Value → Shared → Prop} {s : Shared}
def SetOk (w : World) (g : Heap) (a : Addr) (ns : List Int) (s s' : Shared) : Prop :=
  ∃ h tk c, s' = { s with heap := h, toks := tk } ∧ SetR w h a (fun j => decide (j ∈ ns)) c ∧ c ≤ ns.length ∧ ∀ b o, g.get? b = some o → h.get? b = some o
theorem ints_at {vs : Array Value} {ns : List Int} (hi : IntsAre vs.toList ns) (i : Nat) (v : Value) (hv : vs[i]? = some v) : ∃ k t, ns[i]? = some k ∧ v = .int k t := by
  obtain ⟨t, e⟩ := IntsAre.int_at hi i v (by rw [Array.getElem?_toList]; exact hv)
  have hl := IntsAre.length hi
  rw [Array.length_toList] at hl
  have hlt : i < ns.length := by rw [← hl]; exact (Array.getElem?_eq_some_iff.mp hv).1
  exact ⟨ns[i], t, List.getElem?_eq_getElem hlt, by rw [e, List.getD_eq_getElem?_getD, List.getElem?_eq_getElem hlt]; rfl⟩
theorem setL_loop {l : Addr} {vs : Array Value} {ns : List Int} {R : Result → Shared → Prop} (hh : A.in1.handled = none) (hl : s.heap.IsList l vs) (hi : IntsAre vs.toList ns) (hb : ns.length + 1 < scanBound)
    (hR : ∀ s', SetOk w s.heap s.heap.objs.size ns s s' → R (.ok (.ret .none)) s') :
    codeAny (model P w) A (.builtin "set.update.loop" ⟨[.ref s.heap.objs.size, .ref (s.heap.push (emS w)).objs.size], []⟩) R
      { s with heap := (s.heap.push (emS w)).push { cls := .type "list_iterator", data := .fields #[.ref l, .int 0 0] } } := by
  have hz : vs.size = ns.length := by
    have q := IntsAre.length hi
    rw [Array.length_toList] at q
    exact q
  have hlt : l < s.heap.objs.size := by
    obtain ⟨o, ho, _⟩ := hl
    exact Heap.lt_size ho
  have hz1 : (s.heap.push (emS w)).objs.size = s.heap.objs.size + 1 := Heap.size_push ..
  have n1 : l ≠ (s.heap.push (emS w)).objs.size := by rw [hz1]; exact Nat.ne_of_lt (Nat.lt_succ_of_lt hlt)
  have n2 : s.heap.objs.size ∉ [(s.heap.push (emS w)).objs.size, l] := by
    intro h
    rcases List.mem_cons.mp h with h | h
    · rw [hz1] at h
      exact Nat.ne_of_lt (Nat.lt_succ_self _) h
    · exact Nat.ne_of_gt hlt (List.mem_singleton.mp h)
  refine set_update_ints ((Walks.list hh _ l n1 vs).toS) s.heap.objs.size n2 ns hz hb (ints_at hi) (vs.size - 0) 0 _ (by omega) (Nat.zero_le _) ⟨⟨_, Heap.get?_push_size _ rfl, rfl, rfl⟩, (hl.push _).push _⟩ ⟨0, Nat.le_refl 0, setR_new_at (Heap.get?_push_of_some _ (Heap.get?_push_size _ rfl))⟩ fun s' c m hc r => ?_
  refine hR s' ⟨s'.heap, s'.toks, c, ?_, r, by omega, fun b o e => ?_⟩
  · have e1 := m.gens
    have e2 := m.drawn
    have e3 := m.os
    cases s'
    dsimp only at e1 e2 e3
    rw [e1, e2, e3]
  · have hb := Heap.lt_size e
    refine m.heap b o (fun h => ?_) (Heap.get?_push_of_some _ (Heap.get?_push_of_some _ e))
    rcases List.mem_cons.mp h with h | h
    · exact Nat.ne_of_lt hb h
    · have h := List.mem_singleton.mp h
      rw [hz1] at h
      exact Nat.ne_of_lt (Nat.lt_succ_of_lt hb) h
theorem setL_init {l : Addr} {vs : Array Value} {ns : List Int} (hh : A.handled = none) (hl : s.heap.IsList l vs) (hi : IntsAre vs.toList ns) (hb : ns.length + 1 < scanBound) :
    codeAny (model P w) A (.call (.builtin "set.__init__") ⟨[.ref s.heap.objs.size, .ref l], []⟩) (wants (fun r s' => r = .none ∧ SetOk w s.heap s.heap.objs.size ns s s') E) { s with heap := s.heap.push (emS w) } := by
  have l1 : (s.heap.push (emS w)).IsList l vs := hl.push _
  obtain ⟨⟨cl, di, da, sl⟩, ho, c1, n, c2⟩ := id l1
  dsimp only at c1 c2
  subst c1 c2
  have f1 := PySem.F.sub_list_set
  have f2 := PySem.F.sub_list_frozenset
  have f3 : (Value.type "list" == Value.type "dict") = false := by decide
  refine codeAny_call_builtin PySem.F.called_set.init.plain PySem.F.entry_set_init (check_set_init_1 ⟨_, Heap.get?_push_size _ rfl, rfl⟩ ?_)
  unfold Builtin.«set.__init__» noKeywords Builtin.Frozenset.updateFrom
  generalize hp : pyIter = pI
  wp_walk
  subst hp
  refine wpAny_pyIter_list l1 (wpAny_bind (wpAny_runValue ?_))
  refine setL_loop (by simp [hh]) hl hi hb fun s' h => ?_
  show wpAny _ _ _ _ _ _
  refine wpAny_pure ?_
  show wpAny _ _ (ret Value.none) _ _ _
  exact wpAny_pure ⟨rfl, h⟩
theorem call_setL {l : Addr} {vs : Array Value} {ns : List Int} {Q : Value → Shared → Prop} (hh : A.handled = none) (hl : s.heap.IsList l vs) (hi : IntsAre vs.toList ns) (hb : ns.length + 1 < scanBound)
    (h : ∀ s', SetOk w s.heap s.heap.objs.size ns s s' → Q (.ref s.heap.objs.size) s') : wpAny (model P w) A (call (.type "set") [.ref l]) Q E s := by
  have f := PySem.F.called_set
  obtain ⟨_, _, g1⟩ := f.mro
  have g2 := f.made
  have g3 := f.sub
  have g4 := f.notType
  have g5 := f.canCreate
  have g6 := PySem.F.typeCall_set_1 (.ref l)
  refine wpAny_call (codeAny_of_tree ?_)
  show wpAny _ _ (callAny (.type "set") _) _ _ _
  refine wpAny_pure ⟨Code.quiet_builtin _ (by decide +kernel), codeAny_builtin PySem.F.entry_type_call ?_⟩
  rw [Around.under_plain (weight_type_call_type "set" [.ref l] []) rfl]
  repeat (any_goals (first | assumption | wp_step))
  refine codeAny_mono (code_set_led1 (.ref l) (E := E) (Q₁ := fun v s1 => v = .ref s.heap.objs.size ∧ s1 = { s with heap := s.heap.push (emS w) }) ⟨rfl, rfl⟩) ?_
  intro r s1 hr
  rcases r with e | fl
  · exact hr
  cases fl
  case ret v =>
    obtain ⟨rfl, rfl⟩ := hr
    have k1 : Shared.TypeIs { s with heap := s.heap.push (emS w) } (.ref s.heap.objs.size) "set" := ⟨_, Heap.get?_push_size _ rfl, rfl⟩
    have k2 := f.init.lookup
    have k3 := f.init.bind (.ref s.heap.objs.size)
    repeat (any_goals (first | assumption | wp_step))
    refine codeAny_mono (setL_init (E := E) (by simp [hh]) hl hi hb) fun r s2 hr => ?_
    rcases r with e | fl
    · exact hr
    cases fl
    case ret v =>
      obtain ⟨rfl, hr⟩ := hr
      have q := h _ hr
      obtain ⟨h', tk, c, rfl, _⟩ := hr
      repeat (any_goals (first | assumption | wp_step))
    all_goals exact hr.elim
  all_goals exact hr.elim
end
end FC
end
section
set_option linter.all false
namespace FC
theorem insU_mem {k x : Int} : ∀ l : List Int, k ∈ insU x l ↔ k = x ∨ k ∈ l
  | [] => by simp [insU]
  | y :: r => by
    simp only [insU]
    split
    · simp
    · split
      · rename_i h1 h2
        subst h2
        simp
      · simp only [List.mem_cons, insU_mem r]
        constructor
        · rintro (h | h | h) <;> simp [h]
        · rintro (h | h | h) <;> simp [h]
theorem insU_pw {x : Int} : ∀ l : List Int, l.Pairwise (· < ·) → (insU x l).Pairwise (· < ·)
  | [], _ => by simp [insU]
  | y :: r, h => by
    have h1 := List.pairwise_cons.mp h
    simp only [insU]
    split
    · rename_i hx
      refine List.pairwise_cons.mpr ⟨fun z hz => ?_, h⟩
      rcases List.mem_cons.mp hz with e | e
      · omega
      · have := h1.1 z e
        omega
    · split
      · exact h
      · rename_i h2 h3
        refine List.pairwise_cons.mpr ⟨fun z hz => ?_, insU_pw r h1.2⟩
        rcases (insU_mem r).mp hz with e | e
        · omega
        · exact h1.1 z e
theorem srtU_mem {k : Int} : ∀ l : List Int, k ∈ srtU l ↔ k ∈ l
  | [] => by simp [srtU]
  | x :: r => by simp [srtU, insU_mem, srtU_mem r]
theorem srtU_pw : ∀ l : List Int, (srtU l).Pairwise (· < ·)
  | [] => .nil
  | x :: r => insU_pw _ (srtU_pw r)
theorem srtU_uniq {l ns : List Int} (hp : ns.Pairwise (· < ·)) (hm : ∀ k, k ∈ ns ↔ k ∈ l) : ns = srtU l := by
  have nd : ∀ {m : List Int}, m.Pairwise (· < ·) → m.Nodup := fun h => h.imp fun h => by omega
  have pm : ns.Perm (srtU l) := (List.perm_ext_iff_of_nodup (nd hp) (nd (srtU_pw l))).mpr fun k => by rw [hm, srtU_mem]
  exact pm.eq_of_pairwise (le := fun a b : Int => a < b) (fun a b _ _ h1 h2 => by omega) hp (srtU_pw l)
theorem ltP_iff {x y : Int × Int} : ltP x y = true ↔ x.1 < y.1 ∨ (x.1 = y.1 ∧ x.2 < y.2) := by simp [ltP]
theorem insP_mem {x k : Int × Int} : ∀ l : List (Int × Int), k ∈ insP x l ↔ k = x ∨ k ∈ l
  | [] => by simp [insP]
  | y :: r => by
    simp only [insP]
    split
    · simp
    · split
      · rename_i h1 h2
        subst h2
        simp
      · simp only [List.mem_cons, insP_mem r]
        constructor
        · rintro (h | h | h) <;> simp [h]
        · rintro (h | h | h) <;> simp [h]
theorem insP_pw {x : Int × Int} : ∀ l : List (Int × Int), l.Pairwise (fun a b => ltP a b = true) → (insP x l).Pairwise (fun a b => ltP a b = true)
  | [], _ => by simp [insP]
  | y :: r, h => by
    have h1 := List.pairwise_cons.mp h
    simp only [insP]
    split
    · rename_i hx
      refine List.pairwise_cons.mpr ⟨fun z hz => ?_, h⟩
      rcases List.mem_cons.mp hz with e | e
      · rw [e]; exact hx
      · have := h1.1 z e
        rw [ltP_iff] at *
        omega
    · split
      · exact h
      · rename_i h2 h3
        refine List.pairwise_cons.mpr ⟨fun z hz => ?_, insP_pw r h1.2⟩
        rcases (insP_mem r).mp hz with e | e
        · subst e
          rw [ltP_iff] at *
          have : ¬ (z.1 = y.1 ∧ z.2 = y.2) := fun q => h3 (Prod.ext q.1 q.2)
          omega
        · exact h1.1 z e
theorem srtP_mem {k : Int × Int} : ∀ l : List (Int × Int), k ∈ srtP l ↔ k ∈ l
  | [] => by simp [srtP]
  | x :: r => by simp [srtP, insP_mem, srtP_mem r]
theorem srtP_pw : ∀ l : List (Int × Int), (srtP l).Pairwise (fun a b => ltP a b = true)
  | [] => .nil
  | x :: r => insP_pw _ (srtP_pw r)
theorem srtP_uniq {l ns : List (Int × Int)} (hp : ns.Pairwise (fun a b => ltP a b = true)) (hm : ∀ k, k ∈ ns ↔ k ∈ l) : ns = srtP l := by
  have nd : ∀ {m : List (Int × Int)}, m.Pairwise (fun a b => ltP a b = true) → m.Nodup := fun h => h.imp fun h e => by rw [ltP_iff, e] at h; omega
  have pm : ns.Perm (srtP l) := (List.perm_ext_iff_of_nodup (nd hp) (nd (srtP_pw l))).mpr fun k => by rw [hm, srtP_mem]
  exact pm.eq_of_pairwise (le := fun a b => ltP a b = true) (fun a b _ _ h1 h2 => by rw [ltP_iff] at *; omega) hp (srtP_pw l)
end FC
end
section
set_option Elab.async false
set_option linter.all false
set_option maxRecDepth 100000
set_option maxHeartbeats 4000000
namespace FC
open PySem L2 PyProof.Rows
def rSetL (w : World) : List V → Hp → VK → Prop := fun xs H Q => ∃ (a : Addr) (ns : List Int), xs = [V.ref a] ∧ H a = some (.lst (ns.map V.int)) ∧ ns.length < 64 ∧
  ∀ (p : Addr) (n : Nat), H p = none → n ≤ ns.length → Q (.ref p) (upd H p (SetO w p (fun j => decide (j ∈ ns)) n))
section
variable {X : Cx}
theorem cr_setL (hc : X.calm = true) : CallR X (.type "set") (rSetL X.w) := by
  intro ps s σ H xs us Q I r ⟨a, ns, e, ha, h64, q⟩
  subst e
  rw [Vals.ref1 r]
  obtain ⟨hl, its, n, rv, e'⟩ := I.hok _ _ ha
  have hi := ints_of_vals rv
  refine call_setL (I.ok.hd hc) (vs := its.toArray) ⟨_, e', rfl, n, rfl⟩ (by simpa using hi) (by unfold scanBound; omega) fun s' hs => ?_
  obtain ⟨h', tk, c, rfl, R, hcn, k⟩ := hs
  exact ⟨.ref _, upd H s.heap.objs.size (SetO X.w s.heap.objs.size (fun j => decide (j ∈ ns)) c), I.laid (t' := tk) k (Nat.le_refl _) (setO_new R), rfl, q _ _ (I.hok.fresh (Nat.le_refl _)) hcn⟩
end
def rSetB (K : PySem.W.Frag) (P : Program) (w : World) : List V → Hp → VK → Prop := fun xs H Q => rSetL w xs H Q ∨ rSetOfT K P w xs H Q
theorem cr_setB {X : Cx} (hc : X.calm = true) (hu : X.A.units + 64 < cLine) : CallR X (.type "set") (rSetB X.K X.prog X.w) := by
  intro ps s σ H xs us Q I r h
  rcases h with h | h
  · exact cr_setL hc ps s σ H xs us Q I r h
  · exact cr_setOfT hc hu ps s σ H xs us Q I r h
def rSortB (K : PySem.W.Frag) (P : Program) (w : World) : List V → Hp → VK → Prop := fun xs H Q => rSortedSet w xs H Q ∨ rSortedT K P w xs H Q
theorem cr_sortB {X : Cx} (hc : X.calm = true) : CallR X (.builtin "sorted") (rSortB X.K X.prog X.w) := by
  intro ps s σ H xs us Q I r h
  rcases h with h | h
  · exact cr_sortedSet hc ps s σ H xs us Q I r h
  · exact cr_sortedT hc ps s σ H xs us Q I r h
theorem bd_all : ∀ ps : List (Int × Int), (ps.all fun p => decide (0 ≤ p.1) && decide (0 ≤ p.2)) = true → ∃ B : Int, ∀ p ∈ ps, TS.Bd B [p.1, p.2]
  | [], _ => ⟨0, by simp⟩
  | p :: ps, h => by
    simp only [List.all_cons, Bool.and_eq_true, decide_eq_true_eq] at h
    obtain ⟨B, hB⟩ := bd_all ps h.2
    refine ⟨max B (p.1 + p.2 + 1), fun q hq m hm => ?_⟩
    rcases List.mem_cons.mp hq with e | e
    · subst e
      simp only [List.mem_cons, List.not_mem_nil, or_false] at hm
      rcases hm with e | e <;> (subst e; omega)
    · have := hB q e m hm
      omega
variable [EA]
section
variable {G : Glob} {call : CallT} {ea : Nat → Addr} {k : Nat} {W : XK} {X : Cx}
theorem rp_ints {H : Hp} {fz : Addr → Prop} : ∀ ns : List Int, RpA H fz (ns.map V.int) (ns.map .int)
  | [] => .nil
  | n :: r => .cons (.int n) (rp_ints r)
theorem RpA.pairs {H : Hp} {al : Addr → Prop} : ∀ {ds : List PyData} {vs : List V} {ps : List (Int × Int)}, RpA H al vs ds → pairsI ds = some ps → ∃ as : List Addr, vs = as.map V.ref ∧ as.length = ps.length ∧ ∀ (i : Nat) (a : Addr) (q : Int × Int), as[i]? = some a → ps[i]? = some q → TupQ H a ([.int q.1, .int q.2], false)
  | [], _, ps, .nil, h => by
    simp only [pairsI, Option.some.injEq] at h
    subst h
    exact ⟨[], rfl, rfl, fun i a q h => by simp at h⟩
  | d :: ds, _, ps, .cons r1 r2, h => by
    unfold pairsI at h
    split at h
    · rename_i z; cases z
    · rename_i x y r z
      cases z
      rw [Option.map_eq_some_iff] at h
      obtain ⟨qs, h1, rfl⟩ := h
      obtain ⟨as, e1, e2, e3⟩ := RpA.pairs r2 h1
      cases r1 with
      | tup e ra =>
        rename_i a zs
        cases ra with
        | cons a1 a2 =>
          cases a1
          cases a2 with
          | cons a3 a4 =>
            cases a3
            cases a4
            refine ⟨a :: as, by rw [e1]; rfl, by simp [e2], fun i b q h h2 => ?_⟩
            cases i with
            | zero => simp at h h2; subst h h2; exact e.off
            | succ i => exact e3 i b q (by simpa using h) (by simpa using h2)
    · cases h
theorem s_srtset (g : Gd G call ea k W X) {a : Ex} {a' : Expr} {f1 f2 : Str} {p1 p2 p3 p4 : Pos} (hg1 : glB X.env.scope f1 = true) (hg2 : glB X.env.scope f2 = true) (h1 : f1 = "sorted") (h2 : f2 = "set") (hs : stE a' = false) (ha : PE X a' (tE call ea W a)) :
    PE X (.Call (.Name f1 p1) [.Call (.Name f2 p2) [a'] [] p3] [] p4) (tE call ea W (.op1 .srtset a)) := by
  subst h1 h2
  obtain ⟨q1, q2, q3⟩ := glB_gl hg1
  obtain ⟨u1, u2, u3⟩ := glB_gl hg2
  have m : ∀ f ∈ bltNames, X.mg f = none := g.blt
  have hset := pe_callTy (pos := p3) (p := p2) (cr_setB g.calm (by have := g.hu; omega)) u1 (m _ (by decide)) boot_set (pa_one ha hs) u3 u2 (star_no hs _ _) rfl
  refine PE.imp (pe_callB (cr_sortB g.calm) q1 (m _ (by decide)) boot_sorted (pa_one hset rfl) q3 q2 rfl rfl) fun σ H Q q => ?_
  obtain ⟨c, rel, q⟩ := q
  simp only [ev] at q
  show tE call ea W a σ H fun x H1 => rSetB X.K X.prog X.w [x] H1 fun y H2 => rSortB X.K X.prog X.w [y] H2 Q
  refine tE.dat rel q fun d os x H1 c1 _ s1 e1 o1 rel1 r1 _ q1 => ?_
  cases hz : d1 .srtset d with
  | none => rw [hz] at q1; exact q1.elim
  | some z =>
    rw [hz] at q1
    have hq := q1.po o1
    have w := rel1.wf
    cases d <;> simp only [d1] at hz <;> try contradiction
    rename_i ds
    obtain ⟨l, ys, rfl, h1, ry⟩ := r1.ro.list
    split at hz
    · rename_i ns hns
      split at hz
      · rename_i h64
        cases hz
        rw [ry.ints hns] at h1
        refine .inl ⟨l, ns, rfl, h1, h64, fun p n hp hn => .inl ⟨p, _, n, rfl, upd_same, by omega, fun ms p2 m1 m2 m3 hp2 => ?_⟩⟩
        obtain ⟨st1, _, _⟩ := step_any w hp (SetO X.w p (fun j => decide (j ∈ ns)) n)
        have em : ms = srtU ns := srtU_uniq m1 fun k => by rw [m2]; simp
        subst em
        obtain ⟨_, st2, _⟩ := step_any st1.wf hp2 (.lst ((srtU ns).map V.int))
        exact hq _ _ _ (st1.trans st2) rfl rfl (.lst (.inr rfl) upd_same (rp_ints _))
      · cases hz
    · split at hz
      · rename_i ps hps
        split at hz
        · rename_i h64
          simp only [Bool.and_eq_true, decide_eq_true_eq] at h64
          cases hz
          obtain ⟨as, e1, e2, e3⟩ := ry.pairs hps
          subst e1
          obtain ⟨B, hB⟩ := bd_all ps h64.2
          have hmem : ∀ p ∈ as.zip (ps.map fun p => [p.1, p.2]), ∃ a b, p.2 = [a, b] ∧ (a, b) ∈ ps ∧ TupQ H1 p.1 ([.int a, .int b], false) := fun p hp => by
            obtain ⟨i, hi⟩ := List.mem_iff_getElem?.mp hp
            rw [List.getElem?_zip_eq_some, List.getElem?_map, Option.map_eq_some_iff] at hi
            obtain ⟨h1, q, h2, h3⟩ := hi
            exact ⟨q.1, q.2, h3.symm, List.mem_of_getElem? h2, e3 i p.1 q h1 h2⟩
          have hz1 : (as.zip (ps.map fun p => [p.1, p.2])).map (fun p => V.ref p.1) = as.map V.ref := by
            rw [show (fun p : Addr × List Int => V.ref p.1) = V.ref ∘ Prod.fst from rfl, ← List.map_map, List.map_fst_zip (by simp [e2])]
          have hz2 : (as.zip (ps.map fun p => [p.1, p.2])).map (fun p => p.2) = ps.map fun p => [p.1, p.2] := List.map_snd_zip (by simp [e2])
          refine .inr ⟨l, as.zip (ps.map fun p => [p.1, p.2]), rfl, SqL.of (by rw [hz1]; exact h1), fun p hp => ?_, by simp [List.length_zip, e2]; exact h64.1, fun a L ha hL1 hL2 => .inr ⟨a, L, 2, B, rfl, upd_same, fun p hp => ?_, by omega, fun p hp => ?_, fun L' p n1 n2 n3 n4 hp => ?_⟩⟩
          · obtain ⟨a, b, h2, _, h3⟩ := hmem p hp
            rw [h2]; exact h3.sq
          · obtain ⟨a', b, h2, _, h3⟩ := hmem p (hL1 p hp)
            rw [h2]
            exact (h3.upd ha).sq
          · obtain ⟨a, b, h2, h3, _⟩ := hmem p (hL1 p hp)
            rw [h2]
            exact ⟨rfl, hB _ h3⟩
          · obtain ⟨st1, _, _⟩ := step_any w ha (SetTO X.prog X.w a L)
            obtain ⟨_, st2, _⟩ := step_any st1.wf hp (.lst (L'.map fun q => V.ref q.1))
            have hL' : ∀ p ∈ L', ∃ a b, p.2 = [a, b] ∧ (a, b) ∈ ps ∧ TupQ H1 p.1 ([.int a, .int b], false) := fun p hp => hmem p (hL1 p (n1.mem_iff.mp hp))
            let fp : List Int → Int × Int := fun z => (z.getD 0 0, z.getD 1 0)
            have em : (L'.map fun q => fp q.2) = srtP ps := by
              refine srtP_uniq ?_ fun k => ?_
              · rw [List.pairwise_map]
                have nd : L'.Pairwise (fun p q => p.2 ≠ q.2) := by rw [List.Nodup, List.pairwise_map] at n2; exact n2
                refine (n4.and nd).imp_of_mem fun {p q} hp hq ⟨h1, h2⟩ => ?_
                obtain ⟨a1, b1, g1, g2, _⟩ := hL' p hp
                obtain ⟨a2, b2, g3, g4, _⟩ := hL' q hq
                rw [g1, g3] at h1 h2 ⊢
                have := code_lex (hB _ g2) (hB _ g4) h1
                rw [ltP_iff]
                show a1 < a2 ∨ a1 = a2 ∧ b1 < b2
                have hne : ¬ (a1 = a2 ∧ b1 = b2) := fun z => h2 (by rw [z.1, z.2])
                omega
              · constructor
                · intro h
                  obtain ⟨p, hp, rfl⟩ := List.mem_map.mp h
                  obtain ⟨a, b, g1, g2, _⟩ := hL' p hp
                  rw [g1]; exact g2
                · intro h
                  obtain ⟨i, hi⟩ := List.mem_iff_getElem?.mp h
                  have hil : i < as.length := by rw [e2]; exact (List.getElem?_eq_some_iff.mp hi).1
                  have hm : (as[i], [k.1, k.2]) ∈ as.zip (ps.map fun p => [p.1, p.2]) := by
                    refine List.mem_iff_getElem?.mpr ⟨i, ?_⟩
                    rw [List.getElem?_zip_eq_some]
                    exact ⟨List.getElem?_eq_getElem hil, by rw [List.getElem?_map, hi]; rfl⟩
                  obtain ⟨q, hq, eq⟩ := List.mem_map.mp (hL2 _ hm)
                  exact List.mem_map.mpr ⟨q, n1.mem_iff.mpr hq, by rw [eq]; rfl⟩
            refine hq _ _ _ (st1.trans st2) rfl rfl (.lst (.inr rfl) upd_same ?_)
            rw [← em, List.map_map]
            have go : ∀ M : List (Addr × List Int), (∀ p ∈ M, p ∈ L') → RpA (upd (upd H1 a (SetTO X.prog X.w a L)) p (.lst (L'.map fun q => V.ref q.1))) ((c1.fr p)).fz (M.map fun q => V.ref q.1) (M.map ((fun q : Int × Int => PyData.tuple [.int q.1, .int q.2]) ∘ fun q => fp q.2)) := by
              intro M
              induction M with
              | nil => intro _; exact .nil
              | cons q M ih =>
                intro hM
                refine .cons ?_ (ih fun p hp => hM p (by simp [hp]))
                obtain ⟨x, y, g1, _, g3⟩ := hL' q (hM q (by simp))
                refine .tup (xs := [.int x, .int y]) ((g3.upd ha).upd hp) ?_
                simp only [Function.comp, g1]
                exact .cons (.int _) (.cons (.int _) .nil)
            exact go L' fun p hp => hp
        · cases hz
      · cases hz
end
end FC
end
section
set_option Elab.async false
set_option linter.all false
set_option maxRecDepth 100000
set_option maxHeartbeats 4000000
namespace FC
open PySem L2 PyProof.Rows
variable [EA]
section
variable {P : Program} {w : World} {H : Hp} {h : Heap} {fz al al' : Addr → Prop}
mutual
theorem nk_is (ok : HOk P w H h) : ∀ (d : PyData) (k : NestedKey) (v : V) (u : Value), nkD d = some k → Rp H al v d → RelV v u → NestedIs h k u
  | .int i, k, v, u, hk, r, rv => by
    simp only [nkD, Option.some.injEq] at hk
    subst hk
    cases r
    obtain ⟨t, rfl⟩ := rv
    exact .int i t
  | .tuple xs, k, v, u, hk, r, rv => by
    simp only [nkD, Option.map_eq_some_iff] at hk
    obtain ⟨ks, h1, rfl⟩ := hk
    cases r with
    | tup e ra =>
      cases rv
      obtain ⟨_, its, rr, o, g1, g2, n, g3⟩ := e.rd.ok ok
      exact .tup g1 g2 g3 (by simpa using nks_is ok xs ks _ its h1 ra rr)
  | .none, k, v, u, hk, r, rv => by simp [nkD] at hk
  | .bool _, k, v, u, hk, r, rv => by simp [nkD] at hk
  | .str _, k, v, u, hk, r, rv => by simp [nkD] at hk
  | .list _, k, v, u, hk, r, rv => by simp [nkD] at hk
  | .dict _, k, v, u, hk, r, rv => by simp [nkD] at hk
theorem nks_is (ok : HOk P w H h) : ∀ (ds : List PyData) (ks : List NestedKey) (vs : List V) (us : List Value), nkDs ds = some ks → RpA H al vs ds → Vals vs us → NestedAll h ks us
  | [], ks, vs, us, hk, r, rv => by
    simp only [nkDs, Option.some.injEq] at hk
    subst hk
    cases r
    cases rv
    exact .nil
  | d :: ds, ks, vs, us, hk, r, rv => by
    simp only [nkDs] at hk
    split at hk
    · rename_i k ks' h1 h2
      cases hk
      cases r with
      | cons r1 r2 =>
        cases rv with
        | cons q1 q2 => exact .cons (nk_is ok d k _ _ h1 r1 q1) (nks_is ok ds ks' _ _ h2 r2 q2)
    · cases hk
end
mutual
theorem nk_rp : ∀ (d : PyData) (k : NestedKey) (v : V), nkD d = some k → Rp H al v d → Rp H al' v d
  | .int i, k, v, hk, r => by cases r; exact .int i
  | .tuple xs, k, v, hk, r => by
    simp only [nkD, Option.map_eq_some_iff] at hk
    obtain ⟨ks, h1, rfl⟩ := hk
    cases r with
    | tup e ra => exact .tup e (nks_rp xs ks _ h1 ra)
  | .none, k, v, hk, r => by simp [nkD] at hk
  | .bool _, k, v, hk, r => by simp [nkD] at hk
  | .str _, k, v, hk, r => by simp [nkD] at hk
  | .list _, k, v, hk, r => by simp [nkD] at hk
  | .dict _, k, v, hk, r => by simp [nkD] at hk
theorem nks_rp : ∀ (ds : List PyData) (ks : List NestedKey) (vs : List V), nkDs ds = some ks → RpA H al vs ds → RpA H al' vs ds
  | [], ks, vs, hk, r => by cases r; exact .nil
  | d :: ds, ks, vs, hk, r => by
    simp only [nkDs] at hk
    split at hk
    · rename_i k ks' h1 h2
      cases r with
      | cons r1 r2 => exact .cons (nk_rp d k _ h1 r1) (nks_rp ds ks' _ h2 r2)
    · cases hk
end
theorem nkT_ok {d : PyData} {k : NestedKey} (h : nkT d = some k) : (∃ xs, d = .tuple xs) ∧ nkD d = some k ∧ k.depth ≤ 8 := by
  unfold nkT at h
  split at h
  · split at h
    · rename_i k' hk
      split at h
      · rename_i hd
        cases h
        exact ⟨⟨_, rfl⟩, hk, hd⟩
      · cases h
    · cases h
  · cases h
theorem nkAt_of {d : PyData} {k : NestedKey} {v : V} (h : nkT d = some k) (r : Rp H al v d) : ∃ b, v = .ref b ∧ NkAt H k b := by
  obtain ⟨⟨xs, rfl⟩, h2, h3⟩ := nkT_ok h
  have r' := nk_rp (al' := fun _ => False) _ k v h2 r
  cases r with
  | tup e ra => exact ⟨_, rfl, _, h, r'⟩
theorem nkAt_is {k : NestedKey} {a : Addr} (ok : HOk P w H h) (n : NkAt H k a) : (nestedKind P w).is h k a := by
  obtain ⟨d, h1, h2⟩ := n
  obtain ⟨_, h3, h4⟩ := nkT_ok h1
  exact ⟨nk_is ok d k _ _ h3 h2 rfl, h4⟩
theorem nkAt_hash {k : NestedKey} {a : Addr} (n : NkAt H k a) (w : World) : k.hash w = hN k := by
  obtain ⟨d, h1, h2⟩ := n
  exact hN_hash w d k (nkT_ok h1).2.1
theorem TabP.at : ∀ {xs : List (NestedKey × Addr × Value)} {kvs : List (NestedKey × PyData)}, TabP H fz xs kvs → ∀ x ∈ xs, NkAt H x.1 x.2.1
  | _, _, .nil, x, hx => nomatch hx
  | _, _, .cons h1 h2 h3 t, x, hx => by
    rcases List.mem_cons.mp hx with rfl | hx
    · exact h1
    · exact TabP.at t x hx
theorem ent_eq {xs : List (NestedKey × Addr × Value)} (hx : ∀ x ∈ xs, NkAt H x.1 x.2.1) : xs.map entN = xs.map (entryOfKey (nestedKind P w)) :=
  List.map_congr_left fun x hm => by
    have : x.1.hash w = hN x.1 := nkAt_hash (hx x hm) w
    show (⟨hN x.1, .ref x.2.1, x.2.2⟩ : DictEntry) = ⟨x.1.hash w, .ref x.2.1, x.2.2⟩
    rw [this]
theorem tab_dict {a : Addr} {xs : List (NestedKey × Addr × Value)} {kvs : List (NestedKey × PyData)} (ok : HOk P w H h) (e : H a = some (TabO a xs)) (tp : TabP H fz xs kvs) (nd : (xs.map (·.1)).Nodup) : h.DictOfH (nestedKind P w) a xs := by
  obtain ⟨⟨o, es, ep, h1, h2, h3, h4⟩, _, _⟩ := (show ObjOk P w H h a (TabO a xs) from ok a _ e)
  exact ⟨o, es, ep, h1, h2, h3, by rw [h4]; exact ent_eq tp.at, fun x hx => nkAt_is ok (tp.at x hx), nd⟩
theorem TabP.find (k : NestedKey) : ∀ {xs : List (NestedKey × Addr × Value)} {kvs : List (NestedKey × PyData)}, TabP H fz xs kvs → (valN k kvs = none ∧ atKey xs k = none) ∨ ∃ d a u v, valN k kvs = some d ∧ atKey xs k = some (a, u) ∧ RelV v u ∧ Rp H fz v d
  | _, _, .nil => .inl ⟨rfl, rfl⟩
  | _, _, .cons (k := j) (a := a) (u := u) (v := v) (d := d) (xs := xs) (kvs := kvs) h1 h2 h3 t => by
    by_cases e : j = k
    · subst e
      exact .inr ⟨d, a, u, v, by simp [valN, List.find?_cons], by simp [atKey, List.find?_cons], h2, h3⟩
    · have e1 : valN k ((j, d) :: kvs) = valN k kvs := by simp [valN, List.find?_cons, e]
      have e2 : atKey ((j, a, u) :: xs) k = atKey xs k := by simp [atKey, List.find?_cons, e]
      rw [e1, e2]
      exact TabP.find k t
theorem TabP.some (k : NestedKey) {xs : List (NestedKey × Addr × Value)} {kvs : List (NestedKey × PyData)} (t : TabP H fz xs kvs) : (atKey xs k).isSome = (valN k kvs).isSome := by
  rcases t.find k with ⟨h1, h2⟩ | ⟨d, a, u, v, h1, h2, _⟩ <;> rw [h1, h2] <;> rfl
theorem TabP.mapPut {k : NestedKey} {v : V} {u : Value} {d : PyData} (hv : RelV v u) (hd : Rp H fz v d) : ∀ {xs : List (NestedKey × Addr × Value)} {kvs : List (NestedKey × PyData)}, TabP H fz xs kvs → TabP H fz (xs.map (putAt k u)) (kvs.map fun p => if p.1 = k then (p.1, d) else p)
  | _, _, .nil => .nil
  | _, _, .cons (k := j) h1 h2 h3 t => by
    simp only [List.map_cons, putAt]
    by_cases e : j = k
    · simp only [e, if_true]
      subst e
      exact .cons h1 hv hd (TabP.mapPut hv hd t)
    · simp only [e, if_false]
      exact .cons h1 h2 h3 (TabP.mapPut hv hd t)
theorem TabP.snoc {k : NestedKey} {a : Addr} {v : V} {u : Value} {d : PyData} (hk : NkAt H k a) (hv : RelV v u) (hd : Rp H fz v d) : ∀ {xs : List (NestedKey × Addr × Value)} {kvs : List (NestedKey × PyData)}, TabP H fz xs kvs → TabP H fz (xs ++ [(k, a, u)]) (kvs ++ [(k, d)])
  | _, _, .nil => .cons hk hv hd .nil
  | _, _, .cons h1 h2 h3 t => .cons h1 h2 h3 (TabP.snoc hk hv hd t)
theorem TabP.put {k : NestedKey} {a : Addr} {v : V} {u : Value} {d : PyData} {xs : List (NestedKey × Addr × Value)} {kvs : List (NestedKey × PyData)} (t : TabP H fz xs kvs) (hk : NkAt H k a) (hv : RelV v u) (hd : Rp H fz v d) : TabP H fz (storedH xs k a u) (putTb k d kvs) := by
  unfold storedH putTb
  rw [t.some k]
  split
  · exact t.mapPut hv hd
  · exact t.snoc hk hv hd
theorem storedH_le (xs : List (NestedKey × Addr × Value)) (k : NestedKey) (a : Addr) (u : Value) : (storedH xs k a u).length ≤ xs.length + 1 := by
  unfold storedH
  split <;> simp
end
section
variable {X : Cx}
def TKn (H : Hp) (x y : V) (a : Addr) (k : NestedKey) (xs : List (NestedKey × Addr × Value)) : Prop :=
  ∃ b fz kvs, x = .ref b ∧ y = .ref a ∧ a ≠ sysModules ∧ H a = some (TabO a xs) ∧ TabP H fz xs kvs ∧ (xs.map (·.1)).Nodup ∧ NkAt H k b
def rTin (ng : Bool) : R2 := fun x y H Q => ∃ a k xs, TKn H x y a k xs ∧ Q (.bl (ng != (atKey xs k).isSome)) H
def cmpT (ng : Bool) : CmpOp := if ng then .NotIn else .In
theorem op_tin (ng : Bool) (hu : X.A.units + 66 < cLine) : OpR X (compareOp (cmpT ng)) (rTin ng) := by
  intro pins s σ H x y v u Q I rx ry ⟨a, k, xs, ⟨b, fz, kvs, hx, hy, ha, e, tp, nd, nk⟩, q⟩
  subst hx
  subst hy
  cases rx
  cases ry
  have dd := tab_dict I.hok e tp nd
  have hk := nkAt_is (P := X.prog) (w := X.w) I.hok nk
  have hr : (nestedKind X.prog X.w).room X.A.in1 := by show X.A.units + 1 + 8 < cLine; omega
  have hd : (a == sysModules) = false := beq_eq_false_iff_ne.mpr ha
  cases ng with
  | true =>
    refine wpAny_notIn_heap hr hk hd dd ⟨.bl (!(atKey xs k).isSome), H, I.tok _, rfl, ?_⟩
    have : (true != (atKey xs k).isSome) = !(atKey xs k).isSome := by cases (atKey xs k).isSome <;> rfl
    rw [this] at q
    exact q
  | false =>
    refine wpAny_in_heap hr hk hd dd ⟨.bl (atKey xs k).isSome, H, I.tok _, rfl, ?_⟩
    have : (false != (atKey xs k).isSome) = (atKey xs k).isSome := by cases (atKey xs k).isSome <;> rfl
    rw [this] at q
    exact q
def rTget : R2 := fun y x H Q => ∃ a k xs p v, TKn H x y a k xs ∧ atKey xs k = some p ∧ RelV v p.2 ∧ Q v H
theorem ix_tab (hu : X.A.units + 66 < cLine) : IxR X rTget := by
  intro value slice pins s σ H y x u v Q I ry rx ⟨a, k, xs, p, z, ⟨b, fz, kvs, hx, hy, ha, e, tp, nd, nk⟩, hp, rz, q⟩ hs
  subst hx
  subst hy
  cases rx
  cases ry
  have dd := tab_dict I.hok e tp nd
  have hk := nkAt_is (P := X.prog) (w := X.w) I.hok nk
  have hr : (nestedKind X.prog X.w).room X.A.in1 := by show X.A.units + 1 + 8 < cLine; omega
  exact subscriptTail_builtinR (x := p.2) dd.typeIs PySem.F.slot_dict_getitem.lookup (wpAny_getItem_heap (Q := fun r s' => r = p.2 ∧ EP X pins σ Q r s') hr hk dd hp ⟨rfl, z, H, I.tok _, rz, q⟩) hs
def tTab : TE := fun _ H Q => ∀ p, H p = none → Q (.ref p) (upd H p (TabO p []))
theorem tabO_ok {P : Program} {w : World} {H : Hp} {h : Heap} {a : Addr} {xs : List (NestedKey × Addr × Value)} (q : ∃ o es ep, h.get? a = some o ∧ o.ExactDict ∧ o.data = .dict es ep ∧ es.toList = xs.map entN) : ObjOk P w H h a (TabO a xs) := by
  obtain ⟨o, es, ep, h1, h2, h3, h4⟩ := q
  exact ⟨⟨o, es, ep, h1, h2, h3, h4⟩, ⟨o, h1⟩, fun _ _ ⟨o, es, ep, h1, h2, h3, h4⟩ k => ⟨o, es, ep, k o h1, h2, h3, h4⟩⟩
theorem pe_tab {pos : Pos} : PE X (.Dict [] [] pos) tTab := ⟨fun pins s σ H Q I h =>
  wpAny_Dict_empty ⟨.ref s.heap.objs.size, _, I.laid (a := s.heap.objs.size) (o := TabO s.heap.objs.size []) (t' := s.toks) (fun _ _ q => Heap.get?_push_of_some _ q) (Nat.le_refl _) (tabO_ok ⟨_, #[], 0, Heap.get?_push_size _ rfl, ⟨rfl, rfl, rfl⟩, rfl, rfl⟩), rfl, h _ (I.hok.fresh (Nat.le_refl _))⟩⟩
def sTput (tj ti tv : TE) : TS := fun D σ H => tv σ H fun v H1 => tj σ H1 fun y H2 => ti σ H2 fun x H3 => ∃ a k xs, TKn H3 x y a k xs ∧ xs.length < sizeLine ∧ ∀ xs', (∃ b u, x = .ref b ∧ RelV v u ∧ xs' = storedH xs k b u) → (xs'.map (·.1)).Nodup → D.nx σ (upd H3 a (TabO a xs'))
theorem ps_tput {o i value : Expr} {tj ti tv : TE} {pos' pos : Pos} (hu : X.A.units + 66 < cLine) (ho : PE X o tj) (hi : PE X i ti) (hv : PE X value tv) (hs : swapsWith value (some (.Subscript o i pos')) pos.line X.env = pure false) :
    PS X (.Assign [.Subscript o i pos'] value pos) (sTput tj ti tv) := by
  refine ⟨fun pins s σ H D I h => ?_⟩
  refine wpAny_Assign_Subscript (thn (hv.run pins s σ H _ I h) fun r s1 ⟨v, H1, I1, rv, q1⟩ => thn (ho.run pins s1 σ H1 _ I1 q1) fun u s2 ⟨y, H2, I2, ry, q2⟩ => thn (hi.run pins s2 σ H2 _ I2 q2) fun iv s3 ⟨x, H3, I3, rx, a, k, xs, ⟨b, fz, kvs, hx, hy, ha, e, tp, nd, nk⟩, hz, q3⟩ => ?_) hs
  subst hx
  subst hy
  cases rx
  cases ry
  have dd := tab_dict I3.hok e tp nd
  have hk := nkAt_is (P := X.prog) (w := X.w) I3.hok nk
  have hr : (nestedKind X.prog X.w).room X.A.in1 := by show X.A.units + 1 + 8 < cLine; omega
  refine wpAny_setItem_heap (hsz := Nat.le_of_lt hz) hr hk dd fun h' dd' hs' => ?_
  obtain ⟨q, es, ep, hq, h2, h3, h4, h6, h5⟩ := dd'
  have nks : ∀ x ∈ storedH xs k b r, NkAt H3 x.1 x.2.1 := by
    intro x hx
    unfold storedH at hx
    split at hx
    · obtain ⟨y, hy, rfl⟩ := List.mem_map.mp hx
      have := tp.at y hy
      unfold putAt
      split <;> exact this
    · rcases List.mem_append.mp hx with hx | hx
      · exact tp.at x hx
      · simp at hx
        subst hx
        exact nk
  refine ⟨σ, upd H3 a (TabO a (storedH xs k b r)), ?_, q3 _ ⟨b, r, rfl, rv, rfl⟩ h5⟩
  exact d_write I3 (by rw [e]; exact True.intro) hs' ⟨q, hq⟩ (tabO_ok ⟨q, es, ep, hq, h2, h3, by rw [h4]; exact (ent_eq nks).symm⟩)
end
section
variable {G : Glob} {call : CallT} {ea : Nat → Addr} {k : Nat} {W : XK} {X : Cx} {c c3 : Cfg} {H H3 : Hp}
theorem step_newT (w : WF H c) {p : Addr} (hp : H p = none) : Step c H { c with os := c.os ++ [.tab []], om := c.om ++ [p] } (upd H p (TabO p [])) := by
  obtain ⟨s0, _, _⟩ := step_any w hp (TabO p [])
  have no : p ∉ c.om := w.free hp
  have nf : ¬ c.fz p := fun z => w.dom p z hp
  refine ⟨⟨?_, by simp [w.len], fun n a o h1 h2 => ?_, fun a h => ?_, s0.wf.dom, s0.wf.sm, s0.wf.tab⟩, s0.fz, s0.fzn, ⟨[p], rfl, fun a ha => ?_⟩, s0.keep, s0.tbl⟩
  · rw [List.nodup_append]
    exact ⟨w.nd, by simp, fun a ha b hb => by simp at hb; subst hb; exact fun z => no (by rw [← z]; exact ha)⟩
  · by_cases hl : n < c.om.length
    · rw [List.getElem?_append_left hl] at h1
      rw [List.getElem?_append_left (by rw [← w.len]; exact hl)] at h2
      exact objOk.keep ⟨fun _ h => h, fun _ _ _ h => h, fun _ _ h => h, fun _ _ _ h => h, fun _ _ _ h => h, fun _ _ h => h⟩ (fun u e => e) (s0.wf.obj n a o h1 h2)
    · have hl' : ¬ n < c.os.length := by rw [← w.len]; exact hl
      rw [List.getElem?_append_right (by omega)] at h1 h2
      rw [w.len] at h1
      cases hk : n - c.os.length with
      | zero =>
        rw [hk] at h1 h2
        simp at h1 h2
        subst h1
        subst h2
        refine ⟨fun z => ?_, [], upd_same, .nil, by simp, by simp⟩
        obtain ⟨φ, e⟩ := w.sm
        rw [← z, hp] at e
        cases e
      | succ m => rw [hk] at h1; simp at h1
  · intro z
    rcases List.mem_append.mp z with z | z
    · exact w.sep a h z
    · simp at z
      rw [z] at h
      exact nf h
  · simp at ha
    rw [ha]
    exact hp
theorem step_tput (w : WF H c) {n : Nat} {a : Addr} {kvs kvs' : List (NestedKey × PyData)} {xs xs' : List (NestedKey × Addr × Value)} (hn : c.om[n]? = some a) (hk : c.os[n]? = some (.tab kvs)) (h0 : a ≠ sysModules) (e : H a = some (TabO a xs)) (r : TabP H c.fz xs' kvs') (nd : (xs'.map (·.1)).Nodup) (hl' : xs'.length ≤ sizeLine) :
    Step c H { c with os := c.os.set n (.tab kvs') } (upd H a (TabO a xs')) ∧ Kp H (upd H a (TabO a xs')) c.fz c.fz := by
  have ha : a ∈ c.om := List.mem_of_getElem? hn
  have nf : ¬ c.fz a := fun z => w.sep a z ha
  have ne : ∀ {b : Addr} {u : HO}, H b = some u → (∀ (xs : List (NestedKey × Addr × Value)), u ≠ TabO a xs) → b ≠ a := fun {b u} h n z => by
    rw [z, e] at h
    exact n xs (Option.some.inj h).symm
  have kp : Kp H (upd H a (TabO a xs')) c.fz c.fz := ⟨fun _ h => h, fun b ys hb h => by rw [upd_ne (fun z => nf (by rw [← z]; exact hb))]; exact h, fun b ys h => h.imp fun u e2 z => by rw [upd_ne (ne e2 (fun xs y => z.elim (fun ⟨o, z⟩ => by rw [z] at y; cases y) fun z => by rw [z] at y; cases y))]; exact e2, fun b kvs hb h => by rw [upd_ne (fun z => nf (by rw [← z]; exact hb))]; exact h, fun b cls d h => by rw [upd_ne (fun z => by subst z; rw [e] at h; exact tab_ne (b := b) (fun h ⟨oe, vs, h1, _, h2⟩ => ⟨oe, vs, h1, h2⟩) (Option.some.inj h))]; exact h, fun b fs h => by rw [upd_ne (fun z => by subst z; rw [e] at h; cases h)]; exact h⟩
  have inj : ∀ m b, c.om[m]? = some b → b = a → m = n := fun m b hm hb => by
    exact (List.getElem?_inj (List.getElem?_eq_some_iff.mp hm).1 w.nd).mp (by rw [hm, hn, hb])
  have hl : n < c.os.length := (List.getElem?_eq_some_iff.mp hk).1
  refine ⟨⟨⟨w.nd, by simp [w.len], fun m b ob h1 h2 => ?_, w.sep, fun b hb => ?_, ?_, tabs_keepC (fun b ps hb => by rw [upd_ne (ne hb (by simp [TabO]))]; exact hb) (fun b q hb => ?_) w.tab⟩, fun _ h => h, fun _ h => .inl h, ⟨[], by simp, fun _ h => absurd h (by simp)⟩, fun b ob hb hn' _ => ?_, fun b ps hb => ?_⟩, kp⟩
  · by_cases hmn : m = n
    · subst hmn
      rw [List.getElem?_set_self hl] at h2
      cases h2
      rw [hn] at h1
      cases h1
      exact ⟨h0, xs', upd_same, TabP.keep kp r, nd, hl'⟩
    · rw [List.getElem?_set_ne (Ne.symm hmn)] at h2
      have hba : b ≠ a := fun z => hmn (inj m b h1 z)
      exact objOk.keep kp (fun u e1 => by rw [upd_ne hba]; exact e1) (w.obj m b ob h1 h2)
  · have : b ≠ a := fun z => nf (by rw [← z]; exact hb)
    rw [upd_ne this]
    exact w.dom b hb
  · obtain ⟨φ, e1⟩ := w.sm
    refine ⟨φ, ?_⟩
    rw [upd_ne (Ne.symm h0)]
    exact e1
  · rw [upd_ne (fun z => ?_)]
    · exact hb
    · rw [z] at hb
      exact w.not_om hb OmO.no_code ha
  · rw [upd_ne (fun z => hn' (by rw [z]; exact ha))]
    exact hb
  · refine ⟨ps, ?_⟩
    rw [upd_ne (ne hb (by simp [TabO]))]
    exact hb
theorem tabO_at {os : Objs} {n : Nat} {kvs : List (NestedKey × PyData)} (h : tabO os n = some kvs) : os[n]? = some (.tab kvs) := by
  unfold tabO at h
  split at h
  · rename_i kvs' e
    cases h
    exact e
  · cases h
theorem t_tin {ng : Bool} {i j : Nat} {σ : L2.St} {H : Hp} {Q : VK} (q : tE call ea W (.tin ng i j) σ H Q) : tOp (rTin ng) (tVar i) (tVar j) σ H Q := by
  obtain ⟨c, rel, q⟩ := q
  simp only [ev] at q
  split at q
  · rename_i x n hi hj
    split at q
    · rename_i kvs kk ht hk
      obtain ⟨v, e1, r1⟩ := rel.slot i _ hi
      obtain ⟨v2, e2, a, ha, rfl⟩ := rel.slot j _ hj
      obtain ⟨b, rfl, nk⟩ := nkAt_of hk r1
      obtain ⟨h0, xs, g1, g2, g3, g4⟩ := rel.wf.obj n a _ ha (tabO_at ht)
      refine ⟨_, e1, _, e2, a, kk, xs, ⟨b, c.fz, kvs, rfl, rfl, h0, g1, g2, g3, nk⟩, ?_⟩
      rw [g2.some kk]
      exact q (.bl _) H c (Step.refl rel.wf) rfl rfl (Rp.bl _)
    · exact q.elim
  · exact q.elim
theorem s_tin (g : Gd G call ea k W X) {ng : Bool} {i j : Nat} {x y : Str} {px py pos : Pos} (hx : varB X.N X.env.scope i x = true) (hy : varB X.N X.env.scope j y = true) (hm : behindInMarks (cmpT ng) (.Name y py) = false) :
    PE X (.Compare (.Name x px) [cmpT ng] [.Name y py] pos) (tE call ea W (.tin ng i j)) ∧ PT X (.Compare (.Name x px) [cmpT ng] [.Name y py] pos) (tT call ea W (.tin ng i j)) := by
  obtain ⟨h1, h2, h3, h4⟩ := varB_ok hx
  obtain ⟨g1, g2, g3, g4⟩ := varB_ok hy
  exact ⟨PE.imp (pe_cmpR (op_tin ng g.hu) (pe_var h1 h2 h3 h4) (pe_var g1 g2 g3 g4) hm) fun σ H Q q => t_tin q,
    PT.imp (pt_cmpR (op_tin ng g.hu) (pe_var h1 h2 h3 h4) (pe_var g1 g2 g3 g4) hm) fun _ _ _ q => tT_of rfl (fun _ _ _ q => t_tin q) q⟩
theorem t_tget {i j : Nat} {σ : L2.St} {H : Hp} {Q : VK} (q : tE call ea W (.tget j i) σ H Q) : tOp rTget (tVar j) (tVar i) σ H Q := by
  obtain ⟨c, rel, q⟩ := q
  simp only [ev] at q
  split at q
  · rename_i n x hj hi
    split at q
    · rename_i kvs kk ht hk
      obtain ⟨v, e1, r1⟩ := rel.slot i _ hi
      obtain ⟨v2, e2, a, ha, rfl⟩ := rel.slot j _ hj
      obtain ⟨b, rfl, nk⟩ := nkAt_of hk r1
      obtain ⟨h0, xs, g1, g2, g3, g4⟩ := rel.wf.obj n a _ ha (tabO_at ht)
      rcases g2.find kk with ⟨z1, z2⟩ | ⟨d, b2, u, z, z1, z2, z3, z4⟩
      · simp only [z1] at q
        exact q.elim
      · simp only [z1] at q
        exact ⟨_, e2, _, e1, a, kk, xs, (b2, u), z, ⟨b, c.fz, kvs, rfl, rfl, h0, g1, g2, g3, nk⟩, z2, z3, q z H c (Step.refl rel.wf) rfl rfl z4⟩
    · exact q.elim
  · exact q.elim
theorem s_tget (g : Gd G call ea k W X) {i j : Nat} {x y : Str} {px py pos : Pos} (hx : varB X.N X.env.scope i x = true) (hy : varB X.N X.env.scope j y = true) : PE X (.Subscript (.Name y py) (.Name x px) pos) (tE call ea W (.tget j i)) := by
  obtain ⟨h1, h2, h3, h4⟩ := varB_ok hx
  obtain ⟨g1, g2, g3, g4⟩ := varB_ok hy
  exact PE.imp (pe_ix (ix_tab g.hu) (pe_var g1 g2 g3 g4) (pe_var h1 h2 h3 h4) fun _ _ => rfl) fun σ H Q q => t_tget q
theorem s_tnew {pos : Pos} : PE X (.Dict [] [] pos) (tE call ea W .tnew) :=
  PE.imp pe_tab fun σ H Q ⟨c, rel, q⟩ => by
    intro p hp
    simp only [ev] at q
    refine q (.ref p) _ { c with os := c.os ++ [.tab []], om := c.om ++ [p] } (step_newT rel.wf hp) rfl rfl ⟨p, ?_, rfl⟩
    show (c.om ++ [p])[c.os.length]? = some p
    rw [← rel.wf.len]
    simp
end
end FC
end
section
set_option Elab.async false
set_option linter.all false
set_option maxRecDepth 100000
set_option maxHeartbeats 4000000
namespace PySem
theorem fz_no_len : typeLookup (.type "zip") "__len__" = pure none := am_miss_of_fast (by decide +kernel)
theorem fz_no_hint : typeLookup (.type "zip") "__length_hint__" = pure none := am_miss_of_fast (by decide +kernel)
section
variable {prog : Program} {w : World} {A : Around} {E : Value → Shared → Prop} {s : Shared}
def ZAt (z TI TO i1 i2 l1 l2 S : Addr) (xs ys : Array Value) (i : Nat) (h : Heap) : Prop :=
  IsPair h TI (.ref i1) (.ref i2) ∧ h.IsListIter i1 l1 i ∧ h.IsListIter i2 l2 i ∧ h.IsList l1 xs ∧ h.IsList l2 ys ∧ (∃ o, h.get? TO = some o) ∧
    ((IsZip h z TI TO .none ∧ ∃ a b, IsPair h TO a b) ∨ ∃ T f oT, IsZipHeld h z TI TO T f ∧ h.get? T = some oT ∧ T ≠ z ∧ T ≠ i1 ∧ T ≠ i2 ∧ T ≠ S)
def ZOut (S z TO i1 i2 : Addr) (xs ys : Array Value) (n0 : Nat) (Ts : List Addr) (i : Nat) (h : Heap) : Prop :=
  Ts.length = i ∧ Ts.Nodup ∧ ∀ (j : Nat) (T : Addr), Ts[j]? = some T → ∃ x y, xs[j]? = some x ∧ ys[j]? = some y ∧ IsPair h T x y ∧ n0 ≤ T ∧ T ≠ S ∧ T ≠ z ∧ T ≠ TO ∧ T ≠ i1 ∧ T ≠ i2
def refs (Ts : List Addr) : Array Value := (Ts.map Value.ref).toArray
theorem ZAt.upd {z TI TO i1 i2 l1 l2 S : Addr} {xs ys : Array Value} {i : Nat} {h h' : Heap} (x : ZAt z TI TO i1 i2 l1 l2 S xs ys i h) (hS : S ∉ [z, TI, TO, i1, i2, l1, l2]) (k : ∀ b o, b ≠ S → h.get? b = some o → h'.get? b = some o) : ZAt z TI TO i1 i2 l1 l2 S xs ys i h' := by
  simp only [List.mem_cons, List.not_mem_nil, or_false, not_or] at hS
  obtain ⟨dz, dTI, dTO, di1, di2, dl1, dl2⟩ := hS
  obtain ⟨hTI, h1, h2, hl1, hl2, ⟨o, hto⟩, hz⟩ := x
  refine ⟨k _ _ (Ne.symm dTI) hTI, h1.at fun o e => k _ o (Ne.symm di1) e, h2.at fun o e => k _ o (Ne.symm di2) e, hl1.at fun o e => k _ o (Ne.symm dl1) e, hl2.at fun o e => k _ o (Ne.symm dl2) e, ⟨o, k _ _ (Ne.symm dTO) hto⟩, ?_⟩
  rcases hz with ⟨hz, a, b, hTO⟩ | ⟨T, f, oT, hz, hT, r1, r2, r3, r4⟩
  · exact .inl ⟨k _ _ (Ne.symm dz) hz, a, b, k _ _ (Ne.symm dTO) hTO⟩
  · exact .inr ⟨T, f, oT, k _ _ (Ne.symm dz) hz, k _ _ r4 hT, r1, r2, r3, r4⟩
theorem ZOut.keep {S z TO i1 i2 : Addr} {xs ys : Array Value} {n0 i : Nat} {acc : List Addr} {h h' : Heap} (x : ZOut S z TO i1 i2 xs ys n0 acc i h) (k : ∀ b o, b ≠ S → b ≠ z → b ≠ TO → b ≠ i1 → b ≠ i2 → h.get? b = some o → h'.get? b = some o) : ZOut S z TO i1 i2 xs ys n0 acc i h' :=
  ⟨x.1, x.2.1, fun j T hj => let ⟨a, b, h2, h3, h4, h5, h6, h7, h8, h9, h10⟩ := x.2.2 j T hj; ⟨a, b, h2, h3, k _ _ h6 h7 h8 h9 h10 h4, h5, h6, h7, h8, h9, h10⟩⟩
theorem z_item {z TI TO i1 i2 l1 l2 S : Addr} (D : ZipApart z TI TO i1 i2 l1 l2) {xs ys : Array Value} {i : Nat} {Q : Option Value → Shared → Prop} (hi : i < min xs.size ys.size) (st : ZAt z TI TO i1 i2 l1 l2 S xs ys i s.heap) (hS : ∃ o, s.heap.get? S = some o)
    (hQ : ∀ T x y h' tk, xs[i]? = some x → ys[i]? = some y → T = s.heap.objs.size → IsPair h' T x y → ZAt z TI TO i1 i2 l1 l2 S xs ys (i + 1) h' → (∀ b o, b ≠ z → b ≠ TO → b ≠ i1 → b ≠ i2 → s.heap.get? b = some o → h'.get? b = some o) → Q (some (.ref T)) { s with heap := h', toks := tk }) :
    wpAny (model prog w) A (pyNext (.ref z)) Q E s := by
  obtain ⟨hTI, h1, h2, hl1, hl2, ⟨oTO, hto⟩, hz⟩ := st
  have hix : i < xs.size := Nat.lt_of_lt_of_le hi (Nat.min_le_left ..)
  have hiy : i < ys.size := Nat.lt_of_lt_of_le hi (Nat.min_le_right ..)
  have ex := Array.getElem?_eq_getElem hix
  have ey := Array.getElem?_eq_getElem hiy
  have lt : ∀ {c o}, s.heap.get? c = some o → s.heap.objs.size ≠ c := fun e => Nat.ne_of_gt (Heap.lt_size e)
  have n1 : s.heap.objs.size ≠ i1 := let ⟨_, e, _⟩ := h1; lt e
  have n2 : s.heap.objs.size ≠ i2 := let ⟨_, e, _⟩ := h2; lt e
  obtain ⟨oS, eS⟩ := hS
  rcases hz with ⟨hz, a, b, hTO⟩ | ⟨T, f, oT, hz, hT, r1, r2, r3, r4⟩
  · refine wpAny_pyNext_zip_item D hz hTI hTO h1 h2 hl1 hl2 ex ey fun h' a1 a2 a3 a4 a5 a6 hk => ?_
    exact hQ s.heap.objs.size _ _ h' s.toks ex ey rfl a5
      ⟨hk _ _ D.TIz D.TITO D.TIi1 D.TIi2 hTI, a3, a4, hl1.at fun o e => hk _ o D.l1z D.l1TO D.l1i1 D.l1i2 e, hl2.at fun o e => hk _ o D.l2z D.l2TO D.l2i1 D.l2i2 e, ⟨_, a2⟩,
        .inr ⟨s.heap.objs.size, false, _, a1, a5, lt hz, n1, n2, lt eS⟩⟩
      fun c o c1 c2 c3 c4 e => hk c o c1 c2 c3 c4 e
  · refine wpAny_pyNext_zip_item_held D hz hT hTI h1 h2 hl1 hl2 ex ey fun h' a1 a3 a4 a5 a6 hk => ?_
    exact hQ s.heap.objs.size _ _ h' s.toks ex ey rfl a5
      ⟨hk _ _ D.TIz D.TIi1 D.TIi2 hTI, a3, a4, hl1.at fun o e => hk _ o D.l1z D.l1i1 D.l1i2 e, hl2.at fun o e => hk _ o D.l2z D.l2i1 D.l2i2 e, ⟨_, hk _ _ D.TOz D.TOi1 D.TOi2 hto⟩,
        .inr ⟨T, true, oT, a1, hk _ _ r1 r2 r3 hT, r1, r2, r3, r4⟩⟩
      fun c o c1 c2 c3 c4 e => hk c o c1 c3 c4 e
theorem z_done (hh : A.handled = none) {z TI TO i1 i2 l1 l2 S : Addr} (D : ZipApart z TI TO i1 i2 l1 l2) {xs ys : Array Value} {Q : Option Value → Shared → Prop} (st : ZAt z TI TO i1 i2 l1 l2 S xs ys (min xs.size ys.size) s.heap)
    (hQ : ∀ h' tk, (∀ b o, b ≠ z → b ≠ TO → b ≠ i1 → b ≠ i2 → s.heap.get? b = some o → h'.get? b = some o) → Q none { s with heap := h', toks := tk }) : wpAny (model prog w) A (pyNext (.ref z)) Q E s := by
  obtain ⟨hTI, h1, h2, hl1, hl2, _, hz⟩ := st
  have hend : xs[min xs.size ys.size]? = none ∨ ys[min xs.size ys.size]? = none := by
    rcases Nat.le_total xs.size ys.size with h | h
    · exact .inl (Array.getElem?_eq_none (by rw [Nat.min_eq_left h]; exact Nat.le_refl _))
    · exact .inr (Array.getElem?_eq_none (by rw [Nat.min_eq_right h]; exact Nat.le_refl _))
  rcases hz with ⟨hz, a, b, hTO⟩ | ⟨T, f, oT, hz, hT, r1, r2, r3, r4⟩
  · exact wpAny_pyNext_zip_end hh D hz hTI hTO h1 h2 hl1 hl2 hend fun h' hk => hQ h' s.toks fun c o c1 c2 c3 c4 e => hk c o c1 c2 c3 c4 e
  · exact wpAny_pyNext_zip_end_held hh D hz hT hTI h1 h2 hl1 hl2 hend fun h' hk => hQ h' s.toks fun c o c1 c2 c3 c4 e => hk c o c1 c3 c4 e
end
section
variable {prog : Program} {w : World} {A : Around} {R : Result → Shared → Prop} {s : Shared} {z TI TO i1 i2 l1 l2 S : Addr} {xs ys : Array Value}
theorem z_loop (hh : A.handled = none) (D : ZipApart z TI TO i1 i2 l1 l2) (hS : S ∉ [z, TI, TO, i1, i2, l1, l2]) (hsz : min xs.size ys.size ≤ sizeLine) (n0 : Nat) (res : Value) {h₀ : Heap} (h0 : n0 ≤ h₀.objs.size)
    (hR : ∀ h' tk acc c, ZOut S z TO i1 i2 xs ys n0 acc (min xs.size ys.size) h' → h'.get? S = some { cls := .type "list", dict := none, data := .seq (refs acc) c, slots := #[] } → (∀ b o, b ≠ S → b ≠ z → b ≠ TO → b ≠ i1 → b ≠ i2 → h₀.get? b = some o → h'.get? b = some o) → R (.ok (.ret res)) { s with heap := h', toks := tk }) :
    ∀ (k i : Nat) (acc : List Addr) (c : Nat) (h : Heap) (tk : Tok), min xs.size ys.size - i = k → i ≤ min xs.size ys.size → ZAt z TI TO i1 i2 l1 l2 S xs ys i h → ZOut S z TO i1 i2 xs ys n0 acc i h → h.get? S = some { cls := .type "list", dict := none, data := .seq (refs acc) c, slots := #[] } → n0 ≤ h.objs.size →
      (∀ b o, b ≠ S → b ≠ z → b ≠ TO → b ≠ i1 → b ≠ i2 → h₀.get? b = some o → h.get? b = some o) → codeAny (model prog w) A (.builtin "list.extend.loop" ⟨[.ref S, .ref z, res], []⟩) R { s with heap := h, toks := tk } := by
  have hS0 := hS
  simp only [List.mem_cons, List.not_mem_nil, or_false, not_or] at hS0
  obtain ⟨dz, dTI, dTO, di1, di2, dl1, dl2⟩ := hS0
  intro k
  induction k with
  | zero =>
    intro i acc c h tk hk hi st ou e0 hn0 hkp
    have hin : i = min xs.size ys.size := by omega
    subst hin
    refine codeAny_builtin F.entry_extend_loop ?_
    rw [Around.under_plainId F.plain_extend_loop _]
    show wpAny _ A.in1 (pyNext (.ref z) >>= _) _ _ _
    refine wpAny_bind (z_done (A := A.in1) (s := { s with heap := h, toks := tk }) hh D st fun h' tk' hk' => ?_)
    exact wpAny_pure (hR h' tk' acc c (ou.keep fun b o _ c1 c2 c3 c4 e => hk' b o c1 c2 c3 c4 e) (hk' S _ dz dTO di1 di2 e0) fun b o c0 c1 c2 c3 c4 e => hk' b o c1 c2 c3 c4 (hkp b o c0 c1 c2 c3 c4 e))
  | succ k ih =>
    intro i acc c h tk hk hi st ou e0 hn0 hkp
    have hlt : i < min xs.size ys.size := by omega
    refine codeAny_builtin F.entry_extend_loop ?_
    rw [Around.under_plainId F.plain_extend_loop _]
    show wpAny _ A.in1 (pyNext (.ref z) >>= _) _ _ _
    have hTOlt : ∃ o, h.get? TO = some o := st.2.2.2.2.2.1
    have hzlt : ∃ o, h.get? z = some o := by
      obtain ⟨_, _, _, _, _, _, hz | ⟨_, _, _, hz, _⟩⟩ := st
      · exact ⟨_, hz.1⟩
      · exact ⟨_, hz⟩
    have hi1 : ∃ o, h.get? i1 = some o := let ⟨_, ⟨o, e, _⟩, _⟩ := st; ⟨o, e⟩
    have hi2 : ∃ o, h.get? i2 = some o := let ⟨_, _, ⟨o, e, _⟩, _⟩ := st; ⟨o, e⟩
    have lt : ∀ {c}, (∃ o, h.get? c = some o) → h.objs.size ≠ c := fun ⟨o, e⟩ => Nat.ne_of_gt (Heap.lt_size e)
    refine wpAny_bind (z_item (s := { s with heap := h, toks := tk }) D hlt st ⟨_, e0⟩ fun T x y h' tk' ex ey eT hT st' hk' => ?_)
    subst eT
    have hS' : h'.get? S = some { cls := .type "list", dict := none, data := .seq (refs acc) c, slots := #[] } := hk' S _ dz dTO di1 di2 e0
    have nS : h.objs.size ≠ S := lt ⟨_, e0⟩
    have ou' := ou.keep (h' := h') fun b o _ c1 c2 c3 c4 e => hk' b o c1 c2 c3 c4 e
    have hacc : (refs acc).size = i := by simp [refs, ou.1]
    have hpush : (refs acc).push (.ref h.objs.size) = refs (acc ++ [h.objs.size]) := by simp [refs]
    show wpAny _ A.in1 (updateSeq S (·.push (.ref h.objs.size)) >>= _) _ _ _
    refine wpAny_bind ?_
    have oth : ∀ b o, b ≠ S → h'.get? b = some o → (h'.update S (Obj.mapSeq (·.push (Value.ref h.objs.size)))).get? b = some o := fun b o hb e => (Heap.get?_update_other _ _ (Ne.symm hb)).trans e
    have hge : n0 ≤ (h'.update S (Obj.mapSeq (·.push (Value.ref h.objs.size)))).objs.size := by
      have := Heap.lt_size (oth _ _ nS hT)
      exact Nat.le_of_lt (Nat.lt_of_le_of_lt hn0 this)
    obtain ⟨c', hself⟩ : ∃ c', (h'.update S (Obj.mapSeq (·.push (Value.ref h.objs.size)))).get? S = some { cls := .type "list", dict := none, data := .seq (refs (acc ++ [h.objs.size])) c', slots := #[] } := ⟨_, by rw [← hpush]; exact Heap.get?_update_self _ hS' rfl⟩
    refine wpAny_updateSeq hS' rfl (wpAny_pure ⟨plainId_quiet F.plain_extend_loop _, ih (i + 1) (acc ++ [h.objs.size]) _ _ _ (by omega) hlt (st'.upd hS oth) ⟨by simp [ou.1], ?_, fun j T hj => ?_⟩ hself hge fun b o c0 c1 c2 c3 c4 e => oth b o c0 (hk' b o c1 c2 c3 c4 (hkp b o c0 c1 c2 c3 c4 e))⟩)
      (by rw [hacc]; omega) (by show ((refs acc).push _).size ≤ sizeLine + 1; rw [Array.size_push, hacc]; omega)
    · rw [List.nodup_append]
      refine ⟨ou.2.1, by simp, fun a ha b hb z0 => ?_⟩
      simp at hb
      obtain ⟨j, hj⟩ := List.mem_iff_getElem?.mp ha
      obtain ⟨x', y', _, _, g3, _⟩ := ou.2.2 j a hj
      rw [z0, hb] at g3
      exact absurd (Heap.lt_size g3) (Nat.lt_irrefl _)
    · by_cases z0 : j < acc.length
      · rw [List.getElem?_append_left z0] at hj
        obtain ⟨a, b, g2, g3, g4, g5, g6, g7⟩ := ou'.2.2 j T hj
        exact ⟨a, b, g2, g3, oth _ _ g6 g4, g5, g6, g7⟩
      · have hl := ou.1
        rw [List.getElem?_append_right (by omega)] at hj
        have hj0 : j - acc.length = 0 := by
          rcases Nat.eq_zero_or_pos (j - acc.length) with q | q
          · exact q
          · rw [List.getElem?_eq_none (by simp; omega)] at hj; cases hj
        rw [hj0] at hj
        simp at hj
        subst hj
        have hji : j = i := by omega
        subst hji
        exact ⟨x, y, ex, ey, oth _ _ nS hT, hn0, nS, lt hzlt, lt hTOlt, lt hi1, lt hi2⟩
end
section
variable {prog : Program} {w : World} {A : Around} {E : Value → Shared → Prop} {s : Shared} {z TI TO i1 i2 l1 l2 : Addr} {xs ys : Array Value}
theorem call_list_zip {Q : Value → Shared → Prop} (hh : A.handled = none) (D : ZipApart z TI TO i1 i2 l1 l2) (hsz : min xs.size ys.size ≤ sizeLine)
    (hz : IsZip s.heap z TI TO .none) (hTI : IsPair s.heap TI (.ref i1) (.ref i2)) (hTO : ∃ a b, IsPair s.heap TO a b) (h1 : s.heap.IsListIter i1 l1 0) (h2 : s.heap.IsListIter i2 l2 0) (hl1 : s.heap.IsList l1 xs) (hl2 : s.heap.IsList l2 ys)
    (hQ : ∀ h' tk acc c, ZOut s.heap.objs.size z TO i1 i2 xs ys s.heap.objs.size acc (min xs.size ys.size) h' → h'.get? s.heap.objs.size = some { cls := .type "list", dict := none, data := .seq (refs acc) c, slots := #[] } →
      (∀ b o, b ≠ z → b ≠ TO → b ≠ i1 → b ≠ i2 → s.heap.get? b = some o → h'.get? b = some o) → Q (.ref s.heap.objs.size) { s with heap := h', toks := tk }) :
    wpAny (model prog w) A (call (.type "list") [.ref z]) Q E s := by
  have lt : ∀ {c}, (∃ o, s.heap.get? c = some o) → s.heap.objs.size ≠ c := fun ⟨o, e⟩ => Nat.ne_of_gt (Heap.lt_size e)
  obtain ⟨a, b, hTO⟩ := hTO
  have hS : s.heap.objs.size ∉ [z, TI, TO, i1, i2, l1, l2] := by
    simp only [List.mem_cons, List.not_mem_nil, or_false, not_or]
    exact ⟨lt ⟨_, hz⟩, lt ⟨_, hTI⟩, lt ⟨_, hTO⟩, lt (let ⟨o, e, _⟩ := h1; ⟨o, e⟩), lt (let ⟨o, e, _⟩ := h2; ⟨o, e⟩), lt (let ⟨o, e, _⟩ := hl1; ⟨o, e⟩), lt (let ⟨o, e, _⟩ := hl2; ⟨o, e⟩)⟩
  have st : ZAt z TI TO i1 i2 l1 l2 s.heap.objs.size xs ys 0 s.heap := ⟨hTI, h1, h2, hl1, hl2, ⟨_, hTO⟩, .inl ⟨hz, a, b, hTO⟩⟩
  have hTy : ∀ h' : Heap, IsZip h' z TI TO .none → ∀ g : Shared, g.heap = h' → g.TypeIs (.ref z) "zip" := fun h' e g eg => ⟨_, by rw [eg]; exact e, rfl⟩
  generalize hs0 : s.heap.objs.size = S at *
  refine callType_codes (Q₁ := fun obj s₁ => obj = .ref S ∧ s₁ = { s with heap := s.heap.push { cls := .type "list", data := .seq #[] } }) F.called_list (F.typeCall_list_1 _) F.entry_list_init
    (code_list_new _ ⟨by rw [hs0], rfl⟩) fun obj s₁ h₁ => ?_
  obtain ⟨rfl, rfl⟩ := h₁
  have eS : (s.heap.push { cls := .type "list", data := .seq #[] }).get? S = some { cls := .type "list", data := .seq #[] } := by rw [← hs0]; exact Heap.get?_push_size _ rfl
  refine ⟨⟨_, eS, rfl⟩, F.args_list_init_2 _ _, ?_⟩
  have p0 : ∀ b o, s.heap.get? b = some o → (s.heap.push { cls := .type "list", data := .seq #[] }).get? b = some o := fun b o e => Heap.get?_push_of_some _ e
  generalize s.heap.push { cls := .type "list", data := .seq #[] } = g0 at eS p0
  show wpAny _ A.in1.in1 (do let old ← Builtin.List.listItems (.ref S); Builtin.List.listUpdate (.ref S) (fun _ => #[]); letGo old.toList.reverse; Builtin.List.listExtendWith (.ref S) (.ref z) .none) _ _ _
  refine wpAny_bind ?_
  unfold Builtin.List.listItems
  refine wpAny_bind (wpAny_seqItems eS rfl (wpAny_pure ?_))
  show wpAny _ A.in1.in1 (updateSeq S (fun _ => #[]) >>= fun _ => letGo (#[] : Array Value).toList.reverse >>= fun _ => Builtin.List.listExtendWith (.ref S) (.ref z) .none) _ _ _
  refine wpAny_bind (wpAny_updateSeq eS rfl ?_)
  have eS₂ := Heap.get?_update_self (Obj.mapSeq (fun _ => (#[] : Array Value))) eS rfl
  have p1 : ∀ b o, b ≠ S → s.heap.get? b = some o → (g0.update S (Obj.mapSeq (fun _ => (#[] : Array Value)))).get? b = some o := fun b o hb e => (Heap.get?_update_other _ _ (Ne.symm hb)).trans (p0 b o e)
  generalize g0.update S (Obj.mapSeq (fun _ => (#[] : Array Value))) = g1 at eS₂ p1
  refine wpAny_bind (wpAny_letGo ?_)
  unfold Builtin.List.listExtendWith
  have z1 : IsZip g1 z TI TO .none := p1 _ _ (fun e => hS (by simp [e])) hz
  refine wpAny_bind (wpAny_typeOf (hTy g1 z1 _ rfl) ?_)
  have hSz : S ≠ z := fun e => hS (by simp [e])
  have q1 : Builtin.List.listSameRef (.ref S) (.ref z) = false := by simp [Builtin.List.listSameRef, hSz]
  have q2 : (Value.type "zip" == Value.type "list") = false := by decide
  have q3 : (Value.type "zip" == Value.type "tuple") = false := by decide
  simp only [q1, q2, q3, Bool.or_false, Bool.false_eq_true, if_false]
  refine wpAny_bind (wpAny_pyIter_zip z1 ?_)
  refine wpAny_bind (wpAny_holding ?_)
  unfold Builtin.List.listLengthHint
  refine wpAny_bind (wpAny_specialOf (hTy g1 z1 _ rfl) fz_no_len ?_)
  show wpAny _ A.in1.in1 (specialOf (Value.ref z) (Str.ofString "__length_hint__") >>= _) _ _ _
  refine wpAny_bind (wpAny_specialOf (hTy g1 z1 _ rfl) fz_no_hint ?_)
  refine wpAny_pure ?_
  show wpAny _ A.in1.in1 (rule "list.extend.makes-room" >>= fun _ => Builtin.List.listTouch (.ref S) >>= fun _ =>
    again (.builtin "list.extend.loop" ⟨[.ref S, .ref z, .none], []⟩)) _ _ _
  refine wpAny_bind (wpAny_rule ?_)
  refine wpAny_bind ?_
  show wpAny _ A.in1.in1 (updateSeq S (·.push .none) >>= fun _ => updateSeq S (·.pop)) _ _ _
  refine wpAny_bind (wpAny_updateSeq eS₂ rfl ?_)
  have eS₃ := Heap.get?_update_self (Obj.mapSeq (·.push Value.none)) eS₂ rfl
  refine wpAny_updateSeq (hz := by seq_fits) eS₃ rfl ?_
  have eS₄ := Heap.get?_update_self (Obj.mapSeq (·.pop)) eS₃ rfl
  have p2 : ∀ b o, b ≠ S → s.heap.get? b = some o → ((g1.update S (Obj.mapSeq (·.push Value.none))).update S (Obj.mapSeq (·.pop))).get? b = some o :=
    fun b o hb e => (Heap.get?_update_other _ _ (Ne.symm hb)).trans ((Heap.get?_update_other _ _ (Ne.symm hb)).trans (p1 b o hb e))
  generalize (g1.update S (Obj.mapSeq (·.push Value.none))).update S (Obj.mapSeq (·.pop)) = g2 at eS₄ p2
  have hge : S ≤ g2.objs.size := Nat.le_of_lt (Heap.lt_size eS₄)
  refine wpAny_pure ⟨plainId_quiet F.plain_extend_loop _, z_loop (A := A.in1) (s := s) (h₀ := s.heap) hh D hS hsz S .none (by rw [hs0]; exact Nat.le_refl _) (fun h' tk acc c ou e k => ?_) _ 0 _ _ g2 _ rfl (Nat.zero_le _) (st.upd hS p2) (⟨rfl, .nil, fun j T hj => by simp at hj⟩ : ZOut S z TO i1 i2 xs ys S [] 0 g2) eS₄ hge fun b o c0 _ _ _ _ e => p2 b o c0 e⟩
  refine ⟨rfl, hQ h' tk acc c ou e fun b o c1 c2 c3 c4 eb => k b o (fun z0 => ?_) c1 c2 c3 c4 eb⟩
  rw [z0, ← hs0] at eb
  exact absurd (Heap.lt_size eb) (Nat.lt_irrefl _)
end
end PySem
end
section
set_option Elab.async false
set_option linter.all false
set_option maxRecDepth 100000
set_option maxHeartbeats 4000000
namespace FC
open PySem L2 PyProof.Rows
def layP : List (Addr × V × V) → Hp → Hp
  | [], H => H
  | (T, x, y) :: r, H => layP r (upd H T (.tup [x, y]))
theorem layP_old : ∀ {ps : List (Addr × V × V)} {H : Hp} {b : Addr}, (∀ p ∈ ps, p.1 ≠ b) → layP ps H b = H b
  | [], _, _, _ => rfl
  | p :: r, H, b, h => by
    rw [layP, layP_old fun q hq => h q (by simp [hq]), upd_ne (Ne.symm (h p (by simp)))]
theorem layP_at : ∀ {ps : List (Addr × V × V)} {H : Hp} {p : Addr × V × V}, (ps.map (·.1)).Nodup → p ∈ ps → layP ps H p.1 = some (.tup [p.2.1, p.2.2])
  | [], _, _, _, h => by simp at h
  | q :: r, H, p, hn, h => by
    simp only [List.map_cons, List.nodup_cons] at hn
    rw [layP]
    rcases List.mem_cons.mp h with rfl | h
    · rw [layP_old fun q' hq => fun z => hn.1 (List.mem_map.mpr ⟨q', hq, z⟩), upd_same]
    · exact layP_at hn.2 h
section
variable [EA]
theorem layP_fresh : ∀ {ps : List (Addr × V × V)} {H : Hp} {c : Cfg}, (ps.map (·.1)).Nodup → (∀ p ∈ ps, H p.1 = none) → WF H c → Step c H c (layP ps H)
  | [], _, _, _, _, w => Step.refl w
  | q :: r, H, c, hn, h, w => by
    simp only [List.map_cons, List.nodup_cons] at hn
    obtain ⟨s, _, _⟩ := step_any w (h q (by simp)) (.tup [q.2.1, q.2.2])
    refine s.trans (layP_fresh hn.2 (fun p hp => ?_) s.wf)
    rw [upd_ne (fun z => hn.1 (List.mem_map.mpr ⟨p, hp, z⟩))]
    exact h p (by simp [hp])
end
section
variable {X : Cx} {pins : List (Addr × Obj)} {σ : L2.St} {H : Hp} {s : Shared}
theorem lay_inv (I : Inv X pins σ H s) {h' : Heap} {t' n : Nat} {S : Addr} {ps : List (Addr × V × V)} (k : ∀ b o, s.heap.get? b = some o → h'.get? b = some o) (hS : s.heap.objs.size ≤ S) (hps : ∀ p ∈ ps, s.heap.objs.size ≤ p.1 ∧ p.1 ≠ S ∧ ∃ ux uy, RelV p.2.1 ux ∧ RelV p.2.2 uy ∧ IsPair h' p.1 ux uy) (hn : (ps.map (·.1)).Nodup) (hl : ps.length ≤ sizeLine)
    (eS : h'.get? S = some { cls := .type "list", dict := none, data := .seq (refs (ps.map (·.1))) n, slots := #[] }) :
    Inv X pins σ (upd (layP ps H) S (.lst (ps.map fun p => V.ref p.1))) { s with heap := h', toks := t' } := by
  have old : ∀ b, b < s.heap.objs.size → upd (layP ps H) S (.lst (ps.map fun p => V.ref p.1)) b = H b := fun b hb => by
    rw [upd_ne (Nat.ne_of_lt (Nat.lt_of_lt_of_le hb hS)), layP_old fun p hp => Ne.symm (Nat.ne_of_lt (Nat.lt_of_lt_of_le hb (hps p hp).1))]
  have lt : ∀ {b u}, H b = some u → b < s.heap.objs.size := fun {b u} e => (I.hok b u e).lt
  have oldS : ∀ {b u}, H b = some u → upd (layP ps H) S (.lst (ps.map fun p => V.ref p.1)) b = some u := fun {b u} e => by rw [old b (lt e)]; exact e
  refine I.un ⟨fun b o q _ _ _ => k b o q, fun b o q _ _ _ => ⟨o.slots, k b o q⟩, fun b o q e _ => by rw [old b (Heap.lt_size q)]; exact e, fun b o q _ => ⟨o, k b o q⟩, fun b xs q => oldS q, fun b o u q => oldS q, fun b qs q => ⟨#[], by rw [oldS q]; simp⟩⟩ fun b u e => ?_
  by_cases hb : b = S
  · subst hb
    rw [upd_same] at e
    cases e
    refine ⟨by simpa using hl, ps.map (fun p => Value.ref p.1), n, ?_, ?_⟩
    · clear hps hn hl eS oldS old
      induction ps with
      | nil => exact .nil
      | cons p r ih => exact .cons rfl ih
    · rw [eS]; simp [refs, Function.comp_def]
  · rw [upd_ne hb] at e
    by_cases hT : ∃ p ∈ ps, p.1 = b
    · obtain ⟨p, hp, rfl⟩ := hT
      rw [layP_at hn hp] at e
      cases e
      obtain ⟨_, _, ux, uy, r1, r2, e1⟩ := hps p hp
      exact ⟨by simp [sizeLine_eq], [ux, uy], .cons r1 (.cons r2 .nil), _, e1, rfl, _, rfl⟩
    · rw [layP_old fun p hp z => hT ⟨p, hp, z⟩] at e
      exact (I.hok b u e).stay (fun c v _ q => k c v q) (fun c q => oldS q) fun c xs q => oldS q
end
section
variable {X : Cx}
def tZl (K : PySem.W.Frag) (ta : TA) : TE := fun σ H Q => ta σ H fun vs H1 => ∃ a b us ws, vs = [.ref a, .ref b] ∧ SqL K H1 a us ∧ SqL K H1 b ws ∧ ∀ (ps : List (Addr × V × V)) (S : Addr), ps.map (·.2) = us.zip ws → (ps.map (·.1)).Nodup → (∀ p ∈ ps, H1 p.1 = none ∧ p.1 ≠ S) → H1 S = none → Q (.ref S) (upd (layP ps H1) S (.lst (ps.map fun p => V.ref p.1)))
theorem vals_get : ∀ {vs : List V} {us : List Value} {j : Nat} {u : Value}, Vals vs us → us[j]? = some u → ∃ v, vs[j]? = some v ∧ RelV v u
  | _, _, _, _, .nil, h => by simp at h
  | _ :: _, _ :: _, 0, _, .cons r _, h => by simp at h; subst h; exact ⟨_, rfl, r⟩
  | _ :: _, _ :: _, j + 1, _, .cons _ t, h => by
    obtain ⟨v, h1, h2⟩ := vals_get t (by simpa using h)
    exact ⟨v, by simpa using h1, h2⟩
theorem pe_zl {e e2 : Expr} {ta : TA} {p pos p2 pos2 : Pos} (hc : X.calm = true) (hg : Gl X "zip") (hm : X.mg "zip" = none) (hgl : Gl X "list") (hml : X.mg "list" = none) (ha : PA X [e, e2] ta)
    (hs : starEach [e, e2] X.env = (false, eval e X.env) :: starEach [e2] X.env := by rfl) (hpl : (backTo pos2 (starEach [e2] X.env)).any (·.1) = false := by rfl) :
    PE X (.Call (.Name "list" p) [.Call (.Name "zip" p2) [e, e2] [] pos2] [] pos) (tZl X.K ta) := by
  refine ⟨fun pins s σ H Q I h => ?_⟩
  refine Call_ (ld_blt I hgl hml PyProof.Rows.boot_list ?_)
  refine PySem.callWith_type1 (t := eval (.Call (.Name "zip" p2) [e, e2] [] pos2) X.env) ?_
  refine Call_ (ld_blt I hg hm PyProof.Rows.boot_zip (PyProof.Rows.callWith_type1 (thn (ha.run pos2 pins s σ H _ I h) fun us s1 ⟨vs, H1, I1, r1, q1⟩ => ?_) hs hpl))
  obtain ⟨a, b, xs, ys, ex, hqx, hqy, q⟩ := q1
  subst ex
  cases r1 with
  | cons r rr =>
    cases rr with
    | cons r' rr =>
      cases rr
      cases r
      cases r'
      obtain ⟨its, rv, p1, z1⟩ := I1.list hqx
      obtain ⟨its2, rv2, p2, z2⟩ := I1.list hqy
      have la : a < s1.heap.objs.size := p1.lt
      have lb : b < s1.heap.objs.size := p2.lt
      refine call_zip_2 p1.isList p2.isList fun h' hz hTI hTO h1 h2 hsz hk => ?_
      have hmin : min its.toArray.size its2.toArray.size ≤ sizeLine := by
        have := rv.length
        simp only [List.size_toArray]
        exact Nat.le_trans (Nat.min_le_left ..) (by omega)
      refine call_list_zip (s := { s1 with heap := h' }) (I1.ok.hd hc) (PySem.W.ktu_apart s1.heap.objs.size a b la lb) hmin hz hTI ⟨_, _, hTO⟩ h1 h2 (p1.isList.at fun o e => hk _ o e) (p2.isList.at fun o e => hk _ o e) fun h2' tk Ts n ou eS k2 => ?_
      have hsz' : s1.heap.objs.size ≤ h'.objs.size := by omega
      obtain ⟨o1, o2, o3⟩ := ou
      -- the pairs, shown
      have hlen : Ts.length = (xs.zip ys).length := by
        rw [o1, List.length_zip, rv.length, rv2.length]; simp
      generalize hps : Ts.zip (xs.zip ys) = ps
      have e1 : ps.map (·.1) = Ts := by rw [← hps]; exact List.map_fst_zip (by omega)
      have e2 : ps.map (·.2) = xs.zip ys := by rw [← hps]; exact List.map_snd_zip (by omega)
      have kept : ∀ c o, s1.heap.get? c = some o → h2'.get? c = some o := fun c o ec => by
        have hb := Heap.lt_size ec
        exact k2 c o (Nat.ne_of_lt (Nat.lt_of_lt_of_le hb (Nat.le_add_right _ 4))) (Nat.ne_of_lt (Nat.lt_of_lt_of_le hb (Nat.le_add_right _ 3))) (Nat.ne_of_lt hb) (Nat.ne_of_lt (Nat.lt_of_lt_of_le hb (Nat.le_add_right _ 1))) (hk c o ec)
      have hall : ∀ p ∈ ps, s1.heap.objs.size ≤ p.1 ∧ p.1 ≠ h'.objs.size ∧ ∃ ux uy, RelV p.2.1 ux ∧ RelV p.2.2 uy ∧ IsPair h2' p.1 ux uy := fun p hp => by
        obtain ⟨j, hj⟩ := List.mem_iff_getElem?.mp hp
        rw [← hps, List.getElem?_zip_eq_some] at hj
        obtain ⟨j1, j2⟩ := hj
        rw [List.getElem?_zip_eq_some] at j2
        obtain ⟨x, y, g1, g2, g3, g4, g5, _⟩ := o3 j p.1 j1
        have g1 : its[j]? = some x := by simpa using g1
        have g2 : its2[j]? = some y := by simpa using g2
        obtain ⟨v1, f1, f2⟩ := vals_get rv g1
        obtain ⟨v2, f3, f4⟩ := vals_get rv2 g2
        rw [j2.1] at f1; cases f1
        rw [j2.2] at f3; cases f3
        exact ⟨Nat.le_trans hsz' g4, g5, x, y, f2, f4, g3⟩
      have hnd : (ps.map (·.1)).Nodup := by rw [e1]; exact o2
      refine ⟨.ref h'.objs.size, _, lay_inv I1 (t' := tk) (h' := h2') (n := n) (S := h'.objs.size) kept hsz' hall hnd (by rw [← List.length_map (f := (·.1)), e1, o1]; exact hmin) (by rw [e1]; exact eS), rfl, q ps _ e2 hnd (fun p hp => ⟨I1.hok.fresh (hall p hp).1, (hall p hp).2.1⟩) (I1.hok.fresh hsz')⟩
end
section
variable [EA]
variable {G : Glob} {call : CallT} {ea : Nat → Addr} {k : Nat} {W : XK} {X : Cx}
theorem rp_pairs {H : Hp} {al : Addr → Prop} : ∀ {us ws : List V} {xs ys : List PyData} {ps : List (Addr × V × V)}, RpA H al us xs → RpA H al ws ys → ps.map (·.2) = us.zip ws → (∀ p ∈ ps, H p.1 = some (.tup [p.2.1, p.2.2])) → (∀ (i : Nat) (x y : PyData), xs[i]? = some x → ys[i]? = some y → isEs [x, y] = false) → RpA H al (ps.map fun p => V.ref p.1) (zipL xs ys)
  | _, _, _, _, ps, .nil, _, e, _, _ => by
    have : ps = [] := by simpa using e
    subst this
    simp only [List.map_nil, zipL, List.zip_nil_left]
    exact .nil
  | _, _, _, _, ps, .cons _ _, .nil, e, _, _ => by
    have : ps = [] := by simpa using e
    subst this
    simp only [List.map_nil, zipL, List.zip_nil_right]
    exact .nil
  | u :: us, w :: ws, x :: xs, y :: ys, ps, .cons r1 t1, .cons r2 t2, e, h, hz => by
    match ps, e, h with
    | p :: r, e, h =>
      simp only [List.map_cons, List.zip_cons_cons, List.cons.injEq] at e
      have h0 := h p (by simp)
      rw [e.1] at h0
      refine .cons (.tup (.inr ⟨hz 0 x y rfl rfl, h0⟩) (.cons r1 (.cons r2 .nil))) (rp_pairs t1 t2 e.2 (fun q hq => h q (by simp [hq])) fun i x' y' h1 h2 => hz (i + 1) x' y' (by simpa using h1) (by simpa using h2))
theorem s_zlst (g : Gd G call ea k W X) {a b : Ex} {a' b' : Expr} {f f2 : Str} {p pos p2 pos2 : Pos} (hg : glB X.env.scope f = true) (hf : f = "list") (hg2 : glB X.env.scope f2 = true) (hf2 : f2 = "zip") (hs : stE a' = false) (hs2 : stE b' = false) (hb1 : isBor a = false) (hb2 : isBor b = false) (h : PE X a' (tE call ea W a)) (h2 : PE X b' (tE call ea W b)) :
    PE X (.Call (.Name f p) [.Call (.Name f2 p2) [a', b'] [] pos2] [] pos) (tE call ea W (.zlst a b)) := by
  obtain ⟨q1, q2, q3⟩ := glB_gl hg
  obtain ⟨w1, w2, w3⟩ := glB_gl hg2
  subst hf
  subst hf2
  have m1 := g.blt "list" (by decide)
  have m2 := g.blt "zip" (by decide)
  refine PE.imp (pe_zl g.calm w1 m2 q1 m1 (pa_cons h (pa_one h2 hs2) (star_no hs _ _)) (by rw [star_no hs]) (back_no fun x hx => by simp at hx; subst hx; exact hs2)) fun σ H Q ⟨c, rel, q⟩ => ?_
  simp only [ev] at q
  refine tE.dat rel q fun d os x H1 c1 _ s1 e1 o1 rel1 r1 n1 q1 => ?_
  rw [← e1, ← o1] at q1
  refine tE.dat rel1 q1 fun d2 os2 y H2 c2 _ s2 e2 o2 rel2 r2 n2 q2 => ?_
  have r1 := Rp.keep (s2.kp rel1.wf) (n1 hb1)
  have r2 := n2 hb2
  cases r1 with
  | lst ha hx rx =>
    cases r2 with
    | lst hb hy ry =>
      dsimp only at q2
      split at q2
      case isFalse => exact q2.elim
      rename_i hz
      refine ⟨_, _, _, _, rfl, SqL.of hx, SqL.of hy, fun ps S e hn hf hS => ?_⟩
      have st1 := layP_fresh hn (fun p hp => (hf p hp).1) rel2.wf
      have hS1 : layP ps H2 S = none := by rw [layP_old fun p hp => (hf p hp).2]; exact hS
      obtain ⟨_, st2, kp⟩ := step_any st1.wf hS1 (.lst (ps.map fun p => V.ref p.1))
      have st := st1.trans st2
      refine q2 (.ref S) _ (c2.fr S) st rfl o2 ?_
      have ra := RpA.keep (st.kp rel2.wf) rx
      have rb := RpA.keep (st.kp rel2.wf) ry
      exact .lst (.inr rfl) upd_same (rp_pairs ra rb e (fun p hp => by rw [upd_ne (hf p hp).2]; exact layP_at hn hp) fun i x y h1 h2 => noEE_at hz h1 h2)
    | _ => exact q2.elim
  | _ => exact q2.elim
end
section
variable {X : Cx}
def tZd (K : PySem.W.Frag) (ta : TA) : TE := fun σ H Q => ta σ H fun vs H1 => ∃ (a b : Addr) (us ws : List V) (kvs : List (Key × V)), vs = [.ref a, .ref b] ∧ SqL K H1 a us ∧ SqL K H1 b ws ∧ (kvs.map fun p => (kV p.1, p.2)) = us.zip ws ∧ ∀ d, H1 d = none → Q (.ref d) (upd H1 d (.dK (mergeK [] kvs)))
theorem kv_of : ∀ {kvs : List (Key × V)} {us ws : List V} {is js : List Value}, (kvs.map fun p => (kV p.1, p.2)) = us.zip ws → Vals us is → Vals ws js → ∃ vks : List (Key × Value), KV kvs vks ∧ vks.length = min is.length js.length ∧ ∀ (i : Nat) k v, is[i]? = some k → js[i]? = some v → ∃ kk, vks[i]? = some (kk, v) ∧ keyIs kk k = true
  | kvs, _, _, _, _, e, .nil, _ => by
    have : kvs = [] := by simpa using e
    subst this
    exact ⟨[], .nil, by simp, fun i k v h => by simp at h⟩
  | kvs, _, _, _, _, e, .cons _ _, .nil => by
    have : kvs = [] := by simpa using e
    subst this
    exact ⟨[], .nil, by simp, fun i k v _ h => by simp at h⟩
  | kvs, u :: us, w :: ws, x :: is, y :: js, e, .cons r1 t1, .cons r2 t2 => by
    match kvs, e with
    | kv :: kvs, e =>
      simp only [List.map_cons, List.zip_cons_cons, List.cons.injEq, Prod.mk.injEq] at e
      obtain ⟨⟨e1, e2⟩, e3⟩ := e
      obtain ⟨vks, h1, h2, h3⟩ := kv_of e3 t1 t2
      have hk : keyIs kv.1 x = true := by
        rw [← e1] at r1
        cases hkv : kv.1 with
        | inl i => rw [hkv] at r1; obtain ⟨t, rfl⟩ := r1; exact keyIs_int i t
        | inr z => rw [hkv] at r1; obtain ⟨t, rfl⟩ := r1; exact keyIs_str z t
      refine ⟨(kv.1, y) :: vks, .cons ⟨rfl, by rw [e2]; exact r2⟩ h1, by simp only [List.length_cons, h2]; omega, fun i k v hi hj => ?_⟩
      cases i with
      | zero => simp at hi hj; subst hi; subst hj; exact ⟨kv.1, rfl, hk⟩
      | succ i => exact h3 i k v (by simpa using hi) (by simpa using hj)
theorem pe_zd {e e2 : Expr} {ta : TA} {p pos p2 pos2 : Pos} (hc : X.calm = true) (hg : Gl X "zip") (hm : X.mg "zip" = none) (hgl : Gl X "dict") (hml : X.mg "dict" = none) (ha : PA X [e, e2] ta)
    (hs : starEach [e, e2] X.env = (false, eval e X.env) :: starEach [e2] X.env := by rfl) (hpl : (backTo pos2 (starEach [e2] X.env)).any (·.1) = false := by rfl) :
    PE X (.Call (.Name "dict" p) [.Call (.Name "zip" p2) [e, e2] [] pos2] [] pos) (tZd X.K ta) := by
  refine ⟨fun pins s σ H Q I h => ?_⟩
  refine Call_ (ld_blt I hgl hml PyProof.Rows.boot_dict ?_)
  refine PySem.callWith_type1 (t := eval (.Call (.Name "zip" p2) [e, e2] [] pos2) X.env) ?_
  refine Call_ (ld_blt I hg hm PyProof.Rows.boot_zip (PyProof.Rows.callWith_type1 (thn (ha.run pos2 pins s σ H _ I h) fun us s1 ⟨vs, H1, I1, r1, q1⟩ => ?_) hs hpl))
  obtain ⟨a, b, xs, ys, kvs, ex, hqx, hqy, hkv, q⟩ := q1
  subst ex
  cases r1 with
  | cons r rr =>
    cases rr with
    | cons r' rr =>
      cases rr
      cases r
      cases r'
      obtain ⟨its, rv, p1, z1⟩ := I1.list hqx
      obtain ⟨its2, rv2, p2, z2⟩ := I1.list hqy
      have la : a < s1.heap.objs.size := p1.lt
      have lb : b < s1.heap.objs.size := p2.lt
      obtain ⟨vks, g1, g2, g3⟩ := kv_of hkv rv rv2
      refine call_zip_2 p1.isList p2.isList fun h' hz hTI hTO h1 h2 hsz hk => ?_
      have hmin : min its.toArray.size its2.toArray.size ≤ sizeLine := by
        have := rv.length
        simp only [List.size_toArray]
        exact Nat.le_trans (Nat.min_le_left ..) (by omega)
      have hsz' : s1.heap.objs.size ≤ h'.objs.size := by omega
      refine PySem.call_dict_pairs (s := { s1 with heap := h' }) (knd := mixKind X.prog X.w) (kvs := vks) (PairArg.zip _ _ _ _ _ a b (PySem.W.ktu_apart s1.heap.objs.size a b la lb) its.toArray its2.toArray) (I1.ok.hd hc)
        ⟨hz, hTI, ⟨_, _, hTO⟩, h1, h2, p1.isList.at fun o e => hk _ o e, p2.isList.at fun o e => hk _ o e⟩ ⟨by rw [g2]; simp, fun i key v ⟨j1, j2⟩ => g3 i key v (by simpa using j1) (by simpa using j2)⟩ hmin fun h2' tk hd k2 => ?_
      have kept : ∀ c o, s1.heap.get? c = some o → h2'.get? c = some o := fun c o ec => by
        have hb := Heap.lt_size ec
        refine k2 c o (fun hm => ?_) (hk c o ec)
        simp only [List.mem_cons, List.not_mem_nil, or_false] at hm
        rcases hm with z | z | z | z
        · exact Nat.ne_of_lt (Nat.lt_of_lt_of_le hb (Nat.le_add_right _ 4)) z
        · exact Nat.ne_of_lt (Nat.lt_of_lt_of_le hb (Nat.le_add_right _ 3)) z
        · exact Nat.ne_of_lt hb z
        · exact Nat.ne_of_lt (Nat.lt_of_lt_of_le hb (Nat.le_add_right _ 1)) z
      have hmS : (h'.objs.size == sysModules) = false := beq_eq_false_iff_ne.mpr (Nat.ne_of_gt (Nat.lt_of_lt_of_le I1.big hsz'))
      have hlen : (mergeK [] kvs).length ≤ sizeLine := by
        refine Nat.le_trans (length_mergeK kvs []) ?_
        have h5 := g1.length
        have h6 := hmin
        simp only [List.size_toArray] at h6
        rw [List.length_nil, Nat.zero_add]
        omega
      exact ⟨.ref h'.objs.size, upd H1 h'.objs.size (.dK (mergeK [] kvs)), I1.laid (t' := tk) kept hsz' (show ObjOk X.prog X.w _ _ _ (.dK (mergeK [] kvs)) from ⟨hlen, hmS, merged [] vks, KV.merge g1 .nil, hd⟩), rfl, q _ (I1.hok.fresh hsz')⟩
end
section
variable [EA]
variable {G : Glob} {call : CallT} {ea : Nat → Addr} {k : Nat} {W : XK} {X : Cx}
theorem zd_rp {H : Hp} {al : Addr → Prop} : ∀ {us ws : List V} {xs ys : List PyData} {kd : List (PyData × PyData)}, RpA H al us xs → RpA H al ws ys → pairsD (zipL xs ys) = some kd → ∃ kvs : List (Key × V), (kvs.map fun p => (kV p.1, p.2)) = us.zip ws ∧ RpK H al kvs kd
  | _, _, _, _, kd, .nil, _, e => by
    simp only [zipL, List.zip_nil_left, List.map_nil, pairsD] at e
    cases e
    exact ⟨[], by simp, .nil⟩
  | _, _, _, _, kd, .cons _ _, .nil, e => by
    simp only [zipL, List.zip_nil_right, List.map_nil, pairsD] at e
    cases e
    exact ⟨[], by simp, .nil⟩
  | u :: us, w :: ws, x :: xs, y :: ys, kd, .cons r1 t1, .cons r2 t2, e => by
    have e : pairsD (.tuple [x, y] :: zipL xs ys) = some kd := e
    simp only [pairsD] at e
    split at e
    · rename_i hk
      simp only [Option.map_eq_some_iff] at e
      obtain ⟨kd', e1, rfl⟩ := e
      obtain ⟨kvs, h1, h2⟩ := zd_rp t1 t2 e1
      obtain ⟨kk, rfl⟩ := isKey_key hk
      have hx := Ro.key (.inl r1)
      subst hx
      exact ⟨(kk, w) :: kvs, by simp [h1], .cons r2 h2⟩
    · cases e
theorem s_zdic (g : Gd G call ea k W X) {a b : Ex} {a' b' : Expr} {f f2 : Str} {p pos p2 pos2 : Pos} (hg : glB X.env.scope f = true) (hf : f = "dict") (hg2 : glB X.env.scope f2 = true) (hf2 : f2 = "zip") (hs : stE a' = false) (hs2 : stE b' = false) (hb1 : isBor a = false) (hb2 : isBor b = false) (h : PE X a' (tE call ea W a)) (h2 : PE X b' (tE call ea W b)) :
    PE X (.Call (.Name f p) [.Call (.Name f2 p2) [a', b'] [] pos2] [] pos) (tE call ea W (.zdic a b)) := by
  obtain ⟨q1, q2, q3⟩ := glB_gl hg
  obtain ⟨w1, w2, w3⟩ := glB_gl hg2
  subst hf
  subst hf2
  have m1 := g.blt "dict" (by decide)
  have m2 := g.blt "zip" (by decide)
  refine PE.imp (pe_zd g.calm w1 m2 q1 m1 (pa_cons h (pa_one h2 hs2) (star_no hs _ _)) (by rw [star_no hs]) (back_no fun x hx => by simp at hx; subst hx; exact hs2)) fun σ H Q ⟨c, rel, q⟩ => ?_
  simp only [ev] at q
  refine tE.dat rel q fun d os x H1 c1 _ s1 e1 o1 rel1 r1 n1 q1 => ?_
  rw [← e1, ← o1] at q1
  refine tE.dat rel1 q1 fun d2 os2 y H2 c2 _ s2 e2 o2 rel2 r2 n2 q2 => ?_
  have r1 := Rp.keep (s2.kp rel1.wf) (n1 hb1)
  have r2 := n2 hb2
  cases r1 with
  | lst ha hx rx =>
    cases r2 with
    | lst hb hy ry =>
      dsimp only at q2
      cases hp : pairsD (zipL _ _) with
      | none => rw [hp] at q2; exact q2.elim
      | some kd =>
        rw [hp] at q2
        obtain ⟨kvs, h3, h4⟩ := zd_rp rx ry hp
        refine ⟨_, _, _, _, kvs, rfl, SqL.of hx, SqL.of hy, h3, fun D hD => ?_⟩
        obtain ⟨_, st, kp⟩ := step_any rel2.wf hD (.dK (mergeK [] kvs))
        exact q2 (.ref D) _ (c2.fr D) st rfl o2 (.dct (.inr rfl) upd_same (RpK.keep kp (RpK.merge .nil h4)))
    | _ => exact q2.elim
  | _ => exact q2.elim
end
end FC
end
section
set_option Elab.async false
set_option linter.all false
set_option maxRecDepth 100000
set_option maxHeartbeats 4000000
namespace FC
open PySem PySem.Spec L2 PyProof.Rows
section
variable {X : Cx}
def rIndexT (K : PySem.W.Frag) : V → List V → Hp → VK → Prop := fun x xs H Q => ∃ (a : Addr) (y : V) (d : PyData) (ds : List PyData) (j : Nat) (z : PyData), x = V.ref a ∧ xs = [y] ∧ Dp K H (V.ref a) (.tuple ds) ∧ Dp K H y d ∧
  SeqAt.shaped (.tuple ds) = true ∧ SeqAt.shaped d = true ∧ ds[j]? = some z ∧ PyData.eqv z d = true ∧ (∀ (m : Nat) (z' : PyData), m < j → ds[m]? = some z' → PyData.eqv z' d = false) ∧ Q (.int (j : Nat)) H
theorem mt_indexT (hu : X.A.units + 65 < cLine) : MtR X "tuple.index" (rIndexT X.K) := by
  intro pins s σ H x xs v us Q I rx rxs h
  obtain ⟨a, y, d, ds, j, z, rfl, rfl, hl, hy, sl, sd, hz, hzj, hno, q⟩ := h
  cases rx
  cases rxs with
  | cons ry rt =>
    rename_i uy ut
    cases rt
    obtain ⟨bs, r1⟩ := Dp.reads I d y uy hy ry
    have hxs : PyData.canLayAll0 ds = true := SeqAt.canLay_of_shaped sl
    have hroom : X.A.units + 1 + min (PyData.depthAll ds) d.depth < cLine := room_in_shaped sd hu
    cases hl with
    | tup hs ha =>
      obtain ⟨its, rv, ⟨⟨cls, dd, data, sls⟩, ho, hc, n, hdt⟩, hlen⟩ := I.tuple hs
      simp only at hc hdt
      subst hc hdt
      obtain ⟨as, h4⟩ := Dp.readsAll I ds _ its ha rv
      have hn : its.length = ds.length := SeqAt.ReadsAll.length ds its as h4
      have hmap : its.map (SeqAt.readOf s.heap) = ds := SeqAt.readsAll_map ds its as hxs h4
      obtain ⟨hjd, _⟩ := List.getElem?_eq_some_iff.mp hz
      have hjl : j < its.length := by omega
      have hj : j < its.toArray.size := by simpa using hjl
      have at_ : ∀ (m : Nat) (hm : m < its.toArray.size) (z' : PyData), ds[m]? = some z' → SeqAt.readOf s.heap its.toArray[m] = z' := by
        intro m hm z' hz'
        have hml : m < its.length := by simpa using hm
        rw [← hmap, List.getElem?_map, List.getElem?_eq_getElem hml] at hz'
        have e1 : SeqAt.readOf s.heap its[m] = z' := Option.some.inj (show some (SeqAt.readOf s.heap its[m]) = some z' from hz')
        simpa using e1
      refine call_meets PySem.F.slot_tuple_index ⟨_, ho, rfl⟩ PySem.F.entry_tuple_index (PySem.F.args_tuple_index_2 _ _)
        (_root_.TI.tuple_indexAt a its.toArray n dd sls uy (fun u => PyData.eqv (SeqAt.readOf s.heap u) d) j hj ?_ ?_) ⟨ho, SeqAt.items_eqAt (vs := its.toArray) (show ReadsAll s.heap its.toArray.toList ds as from h4) r1 hxs (SeqAt.canLay_of_shaped sd) hroom, ?_⟩
      · show PyData.eqv (SeqAt.readOf s.heap its.toArray[j]) d = true
        rw [at_ j hj z hz]
        exact hzj
      · intro m hm hmj
        have hmd : m < ds.length := by omega
        have hz' : ds[m]? = some ds[m] := List.getElem?_eq_getElem hmd
        show PyData.eqv (SeqAt.readOf s.heap its.toArray[m]) d = false
        rw [at_ m hm _ hz']
        exact hno m _ hmj hz'
      · exact ⟨.int (j : Nat), H, I.tok _, ⟨_, rfl⟩, q⟩
end
end FC
end
section
set_option Elab.async false
set_option linter.all false
set_option maxRecDepth 100000
set_option maxHeartbeats 4000000
namespace FC
open PySem L2 PyProof.Rows
variable [EA]
section
variable {G : Glob} {call : CallT} {ea : Nat → Addr} {k : Nat} {W : XK} {X : Cx}
def tBMT (r : V → List V → Hp → VK → Prop) (to : TE) (t : TA) : TE := fun σ H Q => to σ H fun x H1 => (∃ (p : Addr) (o : Obj) (xs : List V), x = .ref p ∧ H1 p = some (.frz o (.tup xs)) ∧ o.dict = none) ∧ t σ H1 fun xs H2 => r x xs H2 Q
theorem pe_bmT {o e : Expr} {es : List Expr} {to : TE} {t : TA} {name : Str} {apos cpos : Pos} {id : String} {r : V → List V → Hp → VK → Prop} (pa : PlainAttrs "tuple") (slot : Slot "tuple" name id) (hty : typeOf (.builtin id) = pure (.type "method_descriptor")) (hm : MtR X id r) (ho : PE X o to) (ha : PA X (e :: es) t)
    (hbase : attributeBase o name X.env (eval o X.env) = eval o X.env)
    (hfew : ((backTo cpos (starEach (e :: es) X.env)).all (fun x => !x.1) && (backToKw cpos (keywordEach [] X.env)).all (fun x => x.1.isSome)
      && decide ((e :: es).length + ([] : List Keyword).length + (if ([] : List Keyword).isEmpty then 0 else 1) < 30)) = true)
    (hline : (apos.endLine == cpos.line) = true) (hs : starEach (e :: es) X.env = (false, eval e X.env) :: starEach es X.env) (hplain : (backTo cpos (starEach es X.env)).any (·.1) = false) :
    PE X (.Call (.Attribute o name apos) (e :: es) [] cpos) (tBMT r to t) := by
  refine ⟨fun pins s σ H Q I h => ?_⟩
  refine wpAny_Call_method_late hbase hfew hline rfl (thn (ho.run pins s σ H _ I h) fun v s1 ⟨x, H1, I1, r1, ⟨p, o2, xs, ex, hp, hd⟩, q1⟩ => ?_)
  subst ex
  obtain rfl : v = Value.ref p := r1
  obtain ⟨ho2, _, its, _, pl⟩ := I1.hok p _ hp
  refine ⟨"tuple", id, pa, slot, hty, pl.typeIs, fun a e2 => ?_, ?_⟩
  · cases e2
    exact ⟨o2, ho2, hd⟩
  have hA := ha.run cpos pins s1 σ H1 _ I1 q1
  rw [hs] at hA ⊢
  refine Calls.callWith_builtin (by show (false || (backTo cpos (starEach es X.env)).any (·.1)) = false; rw [hplain] <;> rfl) (Calls.evalArgs_plain ?_)
  exact thn hA fun us s2 ⟨vs, H2, I2, r2, q2⟩ => hm pins s2 σ H2 (.ref p) vs _ us Q I2 rfl r2 q2
theorem RpA.strs {H : Hp} {al : Addr → Prop} : ∀ {ds : List PyData} {vs : List V} {ns : List Str}, RpA H al vs ds → strsD ds = some ns → vs = ns.map V.str
  | [], _, ns, .nil, e => by simp [strsD] at e; subst e; rfl
  | .str i :: ds, _, ns, .cons r t, e => by
    simp only [strsD, Option.map_eq_some_iff] at e
    obtain ⟨ms, e1, rfl⟩ := e
    cases r
    rw [RpA.strs t e1]; rfl
  | .none :: _, _, _, _, e => by simp [strsD] at e
  | .bool _ :: _, _, _, _, e => by simp [strsD] at e
  | .int _ :: _, _, _, _, e => by simp [strsD] at e
  | .list _ :: _, _, _, _, e => by simp [strsD] at e
  | .tuple _ :: _, _, _, _, e => by simp [strsD] at e
  | .dict _ :: _, _, _, _, e => by simp [strsD] at e
theorem rp_strs {H : Hp} {al : Addr → Prop} : ∀ ys : List Str, RpA H al (ys.map V.str) (ys.map PyData.str)
  | [] => .nil
  | y :: ys => .cons (.str y) (rp_strs ys)
theorem idxOfD_ok {y w : PyData} {xs : List PyData} (h : idxOfD y xs = some w) : SeqAt.shaped y = true ∧ ∃ (j : Nat) (z : PyData), w = .int (j : Nat) ∧ xs[j]? = some z ∧ PyData.eqv z y = true ∧ ∀ (m : Nat) (z' : PyData), m < j → xs[m]? = some z' → PyData.eqv z' y = false := by
  unfold idxOfD at h
  split at h
  · rename_i hc
    simp only [Option.map_eq_some_iff] at h
    obtain ⟨j, hj, rfl⟩ := h
    obtain ⟨hlt, hp, hno⟩ := List.findIdx?_eq_some_iff_getElem.mp hj
    refine ⟨hc, j, xs[j], rfl, List.getElem?_eq_getElem hlt, by simpa using hp, fun m z' hm hz' => ?_⟩
    obtain ⟨hml, rfl⟩ := List.getElem?_eq_some_iff.mp hz'
    have := hno m hm
    simpa using this
  · cases h
theorem star1 {e : Expr} {env : Env} (h : stE e = false) : starEach [e] env = [(false, eval e env)] := by rw [star_no h]; rfl
theorem few1 {e : Expr} {env : Env} {pos : Pos} (h : stE e = false) : ((backTo pos (starEach [e] env)).all (fun x => !x.1) && (backToKw pos (keywordEach [] env)).all (fun x => x.1.isSome)
      && decide (([e] : List Expr).length + ([] : List Keyword).length + (if ([] : List Keyword).isEmpty then 0 else 1) < 30)) = true := by rw [star1 h]; rfl
theorem s_mth (g : Gd G call ea k W X) {m : Mth} {a b : Ex} {a' b' : Expr} {ap cp : Pos} (hn : noSup a' = true) (hl : (ap.endLine == cp.line) = true) (hs : stE b' = false) (ha : PE X a' (tE call ea W a)) (hb : PE X b' (tE call ea W b)) :
    PE X (.Call (.Attribute a' (mNm m) ap) [b'] [] cp) (tE call ea W (.mth m a b)) := by
  have hu := g.hu
  have step1 : ∀ {σ : L2.St} {H : Hp} {Q : VK} {Q' : V → Hp → Prop}, tE call ea W (.mth m a b) σ H Q →
      (∀ (d : PyData) (x : V) (H1 : Hp) (c1 : Cfg), Rel c1 σ H1 → Ro H1 c1.fz x d → mRcv m d = true →
        (tE call ea W b σ H1 fun y H2 => ∃ (c2 : Cfg) (d2 w : PyData), WF H2 c2 ∧ Ro H2 c2.fz x d ∧ Ro H2 c2.fz y d2 ∧ mD m d d2 = some w ∧ Po c2 H2 w Q) → Q' x H1) → tE call ea W a σ H Q' := by
    intro σ H Q Q' ⟨c, rel, q⟩ hk
    simp only [ev] at q
    refine tE.dat rel q fun d os x H1 c1 _ s1 e1 o1 rel1 r1 _ q1 => ?_
    split at q1
    · rename_i hm
      refine hk d x H1 c1 rel1 r1.ro hm ?_
      rw [← e1, ← o1] at q1
      refine tE.dat rel1 q1 fun d2 os2 y H2 c2 _ s2 e2 o2 rel2 r2 _ q2 => ?_
      cases hz : mD m d d2 with
      | none => rw [hz] at q2; exact q2.elim
      | some w =>
        rw [hz] at q2
        exact ⟨c2, d2, w, rel2.wf, (r1.step s2 rel1.wf).ro, r2.ro, hz, q2.po o2⟩
    · exact q1.elim
  cases m with
  | split =>
    refine PE.imp (pe_split ha hb (star1 hs) (noSup_ok hn) hl) fun σ H Q q => ?_
    refine step1 q fun d x H1 c1 rel1 r1 hm q1 => ?_
    cases d <;> simp only [mRcv] at hm <;> try contradiction
    rename_i z
    refine ⟨⟨z, r1.str⟩, ?_⟩
    obtain ⟨c1', rel1', q1⟩ := q1
    refine ⟨c1', rel1', q1.mono fun y H2 ⟨c2, d2, w, wf, ra, rb, hz, po⟩ => ?_⟩
    cases d2 <;> simp only [mD] at hz <;> try contradiction
    rename_i sp
    split at hz
    · rename_i hc
      cases hz
      simp only [Bool.and_eq_true, Bool.not_eq_true'] at hc
      exact ⟨z, sp, ra.str, by rw [rb.str], hc.1, fit_le hc.2, po.lst wf (rp_strs _)⟩
    · cases hz
  | part =>
    refine PE.imp (pe_partition ha hb (star1 hs) (noSup_ok hn) hl) fun σ H Q q => ?_
    refine step1 q fun d x H1 c1 rel1 r1 hm q1 => ?_
    cases d <;> simp only [mRcv] at hm <;> try contradiction
    rename_i z
    refine ⟨⟨z, r1.str⟩, ?_⟩
    obtain ⟨c1', rel1', q1⟩ := q1
    refine ⟨c1', rel1', q1.mono fun y H2 ⟨c2, d2, w, wf, ra, rb, hz, po⟩ => ?_⟩
    cases d2 <;> simp only [mD] at hz <;> try contradiction
    rename_i sp
    split at hz
    · rename_i hc
      cases hz
      simp only [Bool.and_eq_true, Bool.not_eq_true'] at hc
      exact ⟨z, sp, ra.str, by rw [rb.str], hc.1, fit_le hc.2, po.tup wf (.cons (.str _) (.cons (.str _) (.cons (.str _) .nil))) rfl⟩
    · cases hz
  | join =>
    refine PE.imp (pe_join ha hb (star1 hs) (noSup_ok hn) hl) fun σ H Q q => ?_
    refine step1 q fun d x H1 c1 rel1 r1 hm q1 => ?_
    cases d <;> simp only [mRcv] at hm <;> try contradiction
    rename_i z
    refine ⟨⟨z, r1.str⟩, ?_⟩
    obtain ⟨c1', rel1', q1⟩ := q1
    refine ⟨c1', rel1', q1.mono fun y H2 ⟨c2, d2, w, wf, ra, rb, hz, po⟩ => ?_⟩
    cases d2 <;> simp only [mD] at hz <;> try contradiction
    rename_i xs
    split at hz
    · rename_i ys hys
      split at hz
      · rename_i hc
        cases hz
        obtain ⟨p, us, rfl, h1, r2⟩ := rb.list
        rw [r2.strs hys] at h1
        exact ⟨z, p, ys, ra.str, rfl, .inl (SqL.of h1), of_decide_eq_true hc, po.here wf (.str _)⟩
      · cases hz
    · cases hz
  | idxT =>
    refine PE.imp (pe_bmT PySem.F.plainAttrs_tuple PySem.F.slot_tuple_index PySem.F.type_tuple_index (mt_indexT (by omega)) ha (pa_one hb hs) (noSup_ok hn) (few1 hs) hl (star1 hs) rfl) fun σ H Q q => ?_
    refine step1 q fun d x H1 c1 rel1 r1 hm q1 => ?_
    cases d <;> simp only [mRcv] at hm <;> try contradiction
    rename_i ds
    obtain ⟨p, us, rfl, h1, r2⟩ := r1.tup
    refine ⟨?_, ?_⟩
    · rcases h1 with ⟨o, e, hd⟩ | ⟨z, _⟩
      · exact ⟨p, o, us, rfl, e, hd⟩
      · rw [show isEs ds = true from hm] at z; cases z
    obtain ⟨c1', rel1', q1⟩ := q1
    refine ⟨c1', rel1', q1.mono fun y H2 ⟨c2, d2, w, wf, ra, rb, hz, po⟩ => ?_⟩
    simp only [mD] at hz
    split at hz
    · rename_i hsh
      obtain ⟨hy, j, z, rfl, g1, g2, g3⟩ := idxOfD_ok hz
      exact ⟨p, y, d2, ds, j, z, rfl, rfl, ra.dp (SeqAt.canLay_of_shaped hsh), rb.dp (SeqAt.canLay_of_shaped hy), hsh, hy, g1, g2, g3, po.here wf (.int _)⟩
    · cases hz
  | idxL =>
    refine PE.imp (pe_bm PySem.F.plainAttrs_list PySem.F.slot_list_index PySem.F.type_list_index (mt_indexD (by omega)) ha (pa_one hb hs) (noSup_ok hn) (few1 hs) hl (star1 hs) rfl) fun σ H Q q => ?_
    refine step1 q fun d x H1 c1 rel1 r1 hm q1 => ?_
    cases d <;> simp only [mRcv] at hm <;> try contradiction
    rename_i ds
    obtain ⟨p, us, rfl, h1, r2⟩ := r1.list
    refine ⟨.inl ⟨rfl, us, SqL.of h1⟩, ?_⟩
    obtain ⟨c1', rel1', q1⟩ := q1
    refine ⟨c1', rel1', q1.mono fun y H2 ⟨c2, d2, w, wf, ra, rb, hz, po⟩ => ?_⟩
    simp only [mD] at hz
    split at hz
    · rename_i hsh
      obtain ⟨hy, j, z, rfl, g1, g2, g3⟩ := idxOfD_ok hz
      exact ⟨p, y, d2, ds, j, z, rfl, rfl, ra.dp (SeqAt.canLay_of_shaped hsh), rb.dp (SeqAt.canLay_of_shaped hy), hsh, hy, g1, g2, g3, po.here wf (.int _)⟩
    · cases hz
theorem t_fst : ∀ {as : List Ex} {acc : Str} {σ : L2.St} {c : Cfg} {H : Hp} {Q : VK}, (∀ a ∈ as, isStar a = false ∧ isBor a = false) → Rel c σ H → acc.length ≤ sizeLine → (∃ vs os ds z, evs call as c.env c.os = .ok vs os ∧ dataAll vs = some ds ∧ fstD ds acc = some z ∧ ∀ (H' : Hp) (c' : Cfg), Step c H c' H' → c'.env = c.env → c'.os = os → Q (.str z) H') →
    tJs (as.map fun a => tFmt (tE call ea W a)) acc σ H fun out H1 => Q (.str out) H1
  | [], acc, σ, c, H, Q, _, rel, _, h => by
    obtain ⟨vs, os, ds, z, h1, h2, h3, h4⟩ := h
    simp only [evs] at h1
    cases h1
    cases h2
    cases h3
    exact h4 H c (Step.refl rel.wf) rfl rfl
  | a :: as, acc, σ, c, H, Q, hs, rel, hacc, h => by
    obtain ⟨vs, os, ds, z, h1, h2, h3, h4⟩ := h
    obtain ⟨n1, n2⟩ := hs a (by simp)
    rw [evs_cons n1] at h1
    cases hv : ev call a c.env c.os with
    | er e o => rw [hv] at h1; cases h1
    | st => rw [hv] at h1; cases h1
    | ok v os1 =>
      rw [hv] at h1
      simp only [R.bind] at h1
      cases hw : evs call as c.env os1 with
      | er e o => rw [hw] at h1; cases h1
      | st => rw [hw] at h1; cases h1
      | ok us os2 =>
        rw [hw] at h1
        cases h1
        cases v <;> simp only [dataAll] at h2 <;> try contradiction
        rename_i d
        simp only [Option.map_eq_some_iff] at h2
        obtain ⟨ds', e1, rfl⟩ := h2
        simp only [fstD] at h3
        split at h3
        · rename_i y hy
          split at h3
          · rename_i hf
            simp only [List.map_cons, tJs]
            refine ⟨c, rel, ?_⟩
            rw [hv]
            intro x H1 c1 s1 e2 o2 r1
            rw [n2] at r1
            have rel1 := rel.step s1 e2
            have tlj : tJs (as.map fun a => tFmt (tE call ea W a)) (acc ++ y) σ H1 fun out H2 => Q (.str out) H2 := t_fst (fun b hb => hs b (by simp [hb])) rel1 (fit_le hf) ⟨us, os, ds', z, by rw [e2, o2]; exact hw, e1, h3, fun H' c' s e o => h4 H' c' (s1.trans s) (e.trans e2) o⟩
            have r1 : Rp H1 c1.fz x d := r1
            clear hv
            cases d with
            | int i =>
              simp only [fmtD] at hy
              split at hy
              · rename_i hl
                cases hy
                cases r1
                exact .inr ⟨i, rfl, of_decide_eq_true hl, _, rfl, fit_le hf, tlj⟩
              · cases hy
            | str y0 =>
              simp only [fmtD, Option.some.injEq] at hy
              subst hy
              cases r1
              refine .inl ⟨_, rfl, ?_, _, rfl, fit_le hf, tlj⟩
              have l1 : (acc ++ y0).length = (TL.tl (acc ++ y0)).length := TL.len_tl _
              have l2 : y0.length = (TL.tl y0).length := TL.len_tl _
              rw [TL.tl_append, List.length_append] at l1
              have := fit_le hf
              omega
            | _ => simp [fmtD] at hy
          · cases h3
        · cases h3
theorem s_fst {as : List Ex} {v1 v2 : Expr} {vs : List Expr} {pos : Pos} (hs : ∀ a ∈ as, isStar a = false ∧ isBor a = false) (h : PJ X (v1 :: v2 :: vs) (as.map fun a => tFmt (tE call ea W a))) : PE X (.JoinedStr (v1 :: v2 :: vs) pos) (tE call ea W (.fst as)) := by
  refine PE.imp (pe_joined h) fun σ H Q ⟨c, rel, q⟩ => ?_
  simp only [ev] at q
  refine t_fst hs rel (Nat.zero_le _) ?_
  cases hv : evs call as c.env c.os with
  | er e o => rw [hv] at q; exact q.elim
  | st => rw [hv] at q; exact q.elim
  | ok us os =>
    rw [hv] at q
    simp only [R.noer, R.bind] at q
    cases hd : dataAll us with
    | none => rw [hd] at q; exact q.elim
    | some ds =>
      rw [hd] at q
      dsimp only at q
      cases hz : fstD ds Str.empty with
      | none => rw [hz] at q; exact q.elim
      | some z =>
        rw [hz] at q
        exact ⟨us, os, ds, z, rfl, hd, hz, fun H' c' s e o => q (.str z) H' c' s e o (.str z)⟩
theorem s_tint (g : Gd G call ea k W X) {a : Ex} {f : Str} {a' : Expr} {p pos : Pos} (hg : glB X.env.scope f = true) (hf : f = "int") (hs : stE a' = false) (ha : PE X a' (tE call ea W a)) : PE X (.Call (.Name f p) [a'] [] pos) (tE call ea W (.tint a)) := by
  obtain ⟨q1, q2, q3⟩ := glB_gl hg
  have m := g.blt f (by rw [hf]; decide)
  have b : bootBuiltins f = some (.type "int") := by rw [hf]; exact boot_int
  refine PE.imp (pe_callTy call_int_str q1 m b (pa_one ha hs) q3 q2 (star_no hs _ _) rfl) fun σ H Q ⟨c, rel, q⟩ => ?_
  simp only [ev] at q
  refine tE.dat rel q fun d os x H1 c1 _ s1 e1 o1 rel1 r1 _ q1 => ?_
  cases hz : tintD d with
  | none => rw [hz] at q1; exact q1.elim
  | some z =>
    rw [hz] at q1
    cases d with
    | str y =>
      simp only [tintD] at hz
      split at hz
      · rename_i hl
        simp only [Option.map_eq_some_iff] at hz
        obtain ⟨n, hn, rfl⟩ := hz
        exact ⟨y, n, by rw [r1.ro.str], hn, of_decide_eq_true hl, (q1.po o1).here rel1.wf (.int _)⟩
      · cases hz
    | _ => cases hz
theorem call_chrs (hc : X.calm = true) : CallR X (.type "list") (fun xs G Q => ∃ z : Str, xs = [.str z] ∧ z.cps.size ≤ sizeLine ∧ ∀ p, G p = none → Q (.ref p) (upd G p (.lst (z.cps.toList.map fun c => V.str ⟨#[c]⟩)))) := by
  rintro pn sh sl G xs us Q J r ⟨z, rfl, hz, q⟩
  obtain ⟨u, rfl, ru⟩ := vals1 r
  obtain ⟨t, rfl⟩ := ru
  refine call_list_str (J.ok.hd hc) z t (fun g tk acc c0 hk hS hacc => ?_) hz
  have vals : Vals (z.cps.toList.map fun c => V.str ⟨#[c]⟩) acc.toList := by
    obtain ⟨hlen, hat⟩ := hacc
    have : ∀ (cs : List Nat) (ws : List Value), ws.length = cs.length → (∀ (i : Nat) (v : Value), ws[i]? = some v → ∃ c u, cs[i]? = some c ∧ v = .str ⟨#[c]⟩ u) → Vals (cs.map fun c => V.str ⟨#[c]⟩) ws := by
      intro cs
      induction cs with
      | nil => intro ws hl _; rw [List.eq_nil_of_length_eq_zero hl]; exact .nil
      | cons c cs ih =>
        intro ws hl hw
        cases ws with
        | nil => simp at hl
        | cons w ws =>
          obtain ⟨c', u, h1, h2⟩ := hw 0 w rfl
          simp at h1
          subst h1
          exact .cons ⟨u, h2⟩ (ih ws (by simpa using hl) fun i v hv => hw (i + 1) v (by simpa using hv))
    refine this _ _ (by simp [hlen]) fun i v hv => ?_
    obtain ⟨c, u, h1, h2⟩ := hat i v (by simpa using hv)
    exact ⟨c, u, by simpa using h1, h2⟩
  have new : ObjOk X.prog X.w (upd G sh.heap.objs.size (.lst (z.cps.toList.map fun c => V.str ⟨#[c]⟩))) g sh.heap.objs.size (.lst (z.cps.toList.map fun c => V.str ⟨#[c]⟩)) := ⟨by simpa using hz, acc.toList, c0, vals, by rw [Array.toArray_toList]; exact hS⟩
  exact ⟨.ref _, _, J.laid (t' := tk) hk (Nat.le_refl _) new, rfl, q _ (J.hok.fresh (Nat.le_refl _))⟩
theorem chars_rp {H : Hp} {al : Addr → Prop} : ∀ cs : List Nat, RpA H al (cs.map fun c => V.str ⟨#[c]⟩) (cs.map fun c => PyData.str ⟨#[c]⟩)
  | [] => .nil
  | c :: cs => .cons (.str _) (chars_rp cs)
theorem s_chrs (g : Gd G call ea k W X) {a : Ex} {f : Str} {a' : Expr} {p pos : Pos} (hg : glB X.env.scope f = true) (hf : f = "list") (hs : stE a' = false) (ha : PE X a' (tE call ea W a)) : PE X (.Call (.Name f p) [a'] [] pos) (tE call ea W (.chrs a)) := by
  obtain ⟨q1, q2, q3⟩ := glB_gl hg
  have m := g.blt f (by rw [hf]; decide)
  have b : bootBuiltins f = some (.type "list") := by rw [hf]; exact boot_list
  refine PE.imp (pe_callTy (call_chrs g.calm) q1 m b (pa_one ha hs) q3 q2 (star_no hs _ _) rfl) fun σ H Q ⟨c, rel, q⟩ => ?_
  simp only [ev] at q
  refine tE.dat rel q fun d os x H1 c1 _ s1 e1 o1 rel1 r1 _ q1 => ?_
  cases d with
  | str z =>
    dsimp only at q1
    split at q1
    · rename_i hf
      exact ⟨z, by rw [r1.ro.str], by have := fit_le hf; rwa [show z.length = z.cps.size from rfl] at this, (q1.po o1).lst rel1.wf (chars_rp _)⟩
    · exact q1.elim
  | _ => exact q1.elim
theorem s_chars {e : Ex} {e' tg : Expr} (hb : isBor e = false) (h : PE X e' (tE call ea W e)) : PI X tg e' (tI call ea W (.chars e)) := by
  refine PI.imp (pi_str h) fun σ H R ⟨c, rel, q⟩ => ?_
  simp only [evI] at q
  refine tE.datI rel q fun d os x H1 c1 s1 e1 o1 rel1 r1 _ q1 => ?_
  cases d with
  | str z =>
    refine ⟨z, r1.ro.str, q1 _ H1 c1 (Step.refl rel1.wf) rfl o1 fun c2 H2 w2 kp => ⟨fun i d hd => ?_, ?_⟩⟩
    · unfold charsL at hd
      rw [List.getElem?_map, Option.map_eq_some_iff] at hd
      obtain ⟨c0, h0, rfl⟩ := hd
      have h0' : z.cps[i]? = some c0 := by simpa using h0
      refine ⟨(Array.getElem?_eq_some_iff.mp h0').1, fun x' H3 ⟨e3, c3, h3, e4⟩ => ?_⟩
      subst e3
      subst e4
      rw [h0'] at h3
      cases h3
      exact ⟨c2, Step.refl w2, rfl, rfl, .str _⟩
    · show z.cps.size ≤ (charsL z).length
      simp [charsL]
  | _ => exact q1.elim
end
end FC
end
section
set_option Elab.async false
set_option linter.all false
set_option maxRecDepth 100000
set_option maxHeartbeats 4000000
namespace FC
open PySem L2 PyProof.Rows
variable [EA]
theorem rsize {i j m : Int} (hm : 0 < m) : Builtin.Range.rangeSize i j m = (((j - i + m - 1) / m).toNat : Int) := by
  unfold Builtin.Range.rangeSize
  rw [if_pos hm]
  split
  · rename_i h
    have e : j - i + m - 1 = (j - i - 1) + m * 1 := by omega
    rw [e, Int.add_mul_ediv_left _ _ (by omega)]
    have : 0 ≤ (j - i - 1) / m := Int.ediv_nonneg (by omega) (by omega)
    omega
  · rename_i h
    have : (j - i + m - 1) / m < 1 := Int.ediv_lt_of_lt_mul hm (by omega)
    omega
theorem rsmall {i j m : Int} (h1 : rngOk i = true) (h2 : rngOk j = true) (hm : 0 < m) (hm2 : m < 1000) : Builtin.Range.small i j m = true := by
  simp only [rngOk, Bool.and_eq_true, decide_eq_true_eq] at h1 h2
  have hn : 0 ≤ Builtin.Range.rangeSize i j m := by rw [rsize hm]; omega
  have hs : Builtin.Range.rangeSize i j m ≤ 2 ^ 63 - 1 := by
    rw [rsize hm]
    have : (j - i + m - 1) / m ≤ 2 ^ 63 - 1 := by
      by_cases hp : 0 ≤ j - i + m - 1
      · by_cases m1 : m = 1
        · subst m1; simp; omega
        · have : (j - i + m - 1) / m ≤ (j - i + m - 1) / 2 := by
            refine Int.le_ediv_of_mul_le (by omega) ?_
            have a1 : (j - i + m - 1) / m * m ≤ j - i + m - 1 := Int.ediv_mul_le _ (by omega)
            have a2 : 0 ≤ (j - i + m - 1) / m := Int.ediv_nonneg hp (by omega)
            have a3 : (j - i + m - 1) / m * 2 ≤ (j - i + m - 1) / m * m := Int.mul_le_mul_of_nonneg_left (by omega) a2
            omega
          omega
      · have : (j - i + m - 1) / m ≤ 0 := Int.le_of_lt (Int.ediv_neg_of_neg_of_pos (by omega) hm)
        omega
    omega
  unfold Builtin.Range.small
  simp only [Builtin.Range.rangeFitsLong, Bool.and_eq_true, Bool.or_eq_true, decide_eq_true_eq, beq_iff_eq, hm, if_true]
  omega
section
variable {G : Glob} {call : CallT} {ea : Nat → Addr} {k : Nat} {W : XK} {X : Cx}
theorem isBC_eq {c : Expr} {b : Bool} (h : isBC c = some b) : ∃ j p, c = .Constant (.bool b) j p := by
  unfold isBC at h
  split at h
  · cases h; exact ⟨_, _, rfl⟩
  · cases h
theorem tI_eq {b : Bool} {a : Ex} {σ : L2.St} {H : Hp} {Q : VK} (q : tE call ea W (.isB b a) σ H Q) : tOp rIsB (tE call ea W a) (tC (.bl b)) σ H Q := by
  obtain ⟨c, rel, q⟩ := q
  simp only [ev] at q
  refine (tE.bool rel q (Q' := fun k H1 => Q (.bl (k == b)) H1) fun k os H1 c1 s1 e1 o1 rel1 q1 => (q1.po o1).here rel1.wf (.bl _)) |> fun ⟨c0, r0, z⟩ => ⟨c0, r0, z.mono fun x H1 ⟨k, ex, qq⟩ => ⟨k, b, ex, rfl, ?_⟩⟩
  have : decide (k = b) = (k == b) := by cases k <;> cases b <;> rfl
  rw [this]
  exact qq
theorem s_isB {b : Bool} {a : Ex} {a' c' : Expr} {pos : Pos} (hc : isBC c' = some b) (ha : PE X a' (tE call ea W a)) : PE X (.Compare a' [.Is] [c'] pos) (tE call ea W (.isB b a)) ∧ PT X (.Compare a' [.Is] [c'] pos) (tT call ea W (.isB b a)) := by
  obtain ⟨j, p, rfl⟩ := isBC_eq hc
  have pb : PE X (.Constant (.bool b) j p) (tC (.bl b)) := pe_bl
  exact ⟨PE.imp (pe_cmpR op_isBl ha pb rfl) fun _ _ _ q => tI_eq q, PT.imp (pt_cmpR op_isBl ha pb rfl) fun _ _ _ q => tT_of rfl (fun _ _ _ q => tI_eq q) q⟩
theorem s_rng3 (g : Gd G call ea k W X) {a b c0 : Ex} {a' b' c' tg : Expr} {f : Str} {p pos : Pos} (hg : glB X.env.scope f = true) (hf : f = "range") (hs : stE a' = false) (hs2 : stE b' = false) (hs3 : stE c' = false) (h : PE X a' (tE call ea W a)) (h2 : PE X b' (tE call ea W b)) (h3 : PE X c' (tE call ea W c0)) :
    PI X tg (.Call (.Name f p) [a', b', c'] [] pos) (tI call ea W (.rng3 a b c0)) := by
  obtain ⟨q1, q2, q3⟩ := glB_gl hg
  subst hf
  refine PI.imp (pi_range3 q1 (g.blt _ (by decide)) (pa_cons h (pa_cons h2 (pa_one h3 hs3) (star_no hs2 _ _)) (star_no hs _ _)) (star_no hs _ _) (back_no fun x hx => by simp at hx; rcases hx with rfl | rfl <;> assumption)) fun σ H R ⟨c, rel, q⟩ => ?_
  simp only [evI] at q
  refine tE.datI rel q fun d os x H1 c1 s1 e1 o1 rel1 r1 _ q1 => ?_
  rw [← e1, ← o1] at q1
  refine tE.datI rel1 q1 fun d2 os2 y H2 c2 s2 e2 o2 rel2 r2 _ q2 => ?_
  rw [← e2, ← o2] at q2
  refine tE.datI rel2 q2 fun d3 os3 z H3 c3 s3 e3 o3 rel3 r3 _ q3 => ?_
  cases d with
  | int i =>
    cases d2 with
    | int j =>
      cases d3 with
      | int m =>
        dsimp only at q3
        split at q3
        · rename_i hr
          simp only [Bool.and_eq_true, decide_eq_true_eq] at hr
          obtain ⟨⟨⟨h1, h2⟩, h3⟩, h4⟩ := hr
          refine ⟨i, j, m, ((j - i + m - 1) / m).toNat, by rw [((r1.step s2 rel1.wf).step s3 rel2.wf).ro.int, (r2.step s3 rel2.wf).ro.int, r3.ro.int], ⟨by omega, by omega, rsmall h1 h2 h3 h4, rsize h3⟩, q3 _ H3 c3 (Step.refl rel3.wf) rfl o3 fun c4 H4 w4 _ => ⟨fun n d hd => ?_, ?_⟩⟩
          · unfold rngL3 at hd
            rw [List.getElem?_map, Option.map_eq_some_iff] at hd
            obtain ⟨n', g1, rfl⟩ := hd
            obtain ⟨g2, g3⟩ := List.getElem?_eq_some_iff.mp g1
            simp only [List.length_range] at g2
            simp only [List.getElem_range] at g3
            subst g3
            refine ⟨g2, fun x' H5 ⟨e5, g4⟩ => ?_⟩
            subst e5
            subst g4
            rw [Int.mul_comm]
            exact ⟨c4, Step.refl w4, rfl, rfl, .int _⟩
          · show _ ≤ _
            simp [rngL3]
        · exact q3.elim
      | _ => exact q3.elim
    | _ => exact q3.elim
  | _ => exact q3.elim
end
end FC
end
section
set_option Elab.async false
set_option linter.all false
set_option maxRecDepth 100000
set_option maxHeartbeats 4000000
namespace FC
open PySem PySem.Spec L2 PyProof.Rows
variable [EA]
theorem look_str {kvs : List (Str × Int)} (z : Str) : valV (keysI kvs) (Sum.inr z) = (kvs.lookup z).map V.int := by
  induction kvs with
  | nil => rfl
  | cons p r ih =>
    obtain ⟨x, i⟩ := p
    by_cases e : z = x
    · subst e
      simp [keysI, valV, List.lookup]
    · have e1 : (z == x) = false := beq_eq_false_iff_ne.mpr e
      simp only [List.lookup, e1]
      rw [← ih]
      have e2 : ¬ (Sum.inr x : Key) = Sum.inr z := fun q => e (Sum.inr.inj q).symm
      simp [keysI, valV, e2]
section
variable {G : Glob} {call : CallT} {ea : Nat → Addr} {k : Nat} {W : XK} {X : Cx}
def tKGet (K : PySem.W.Frag) (w : World) (kvs : List (Str × Int)) (ty : TE) : TE := fun σ H Q => ty σ H fun y H2 => ∃ z : Str, y = .str z ∧ Q (((kvs.lookup z).map V.int).getD .non) H2
theorem pe_kget {kvs : List (Str × Int)} {x : Str} {a : Addr} {p apos cpos : Pos} {e : Expr} {ty : TE} (hg : Gl X x) (hm : X.mg x = some (.ref a)) (hx : (x == ("__debug__" : Str)) = false) (D : DctK X.K X.w a kvs) (nd : (kvs.map (·.1)).Nodup) (he : PE X e ty) (m : M1 X (.Name x p) "get" apos e cpos) :
    PE X (.Call (.Attribute (.Name x p) "get" apos) [e] [] cpos) (tKGet X.K X.w kvs ty) := by
  refine ⟨fun pins s σ H Q I h => ?_⟩
  have ho : PE X (.Name x p) (tC (.ref a)) := pe_glob hg hm rfl hx
  refine wpAny_Call_method m.base m.few m.line PySem.F.plainAttrs_dict PySem.F.slot_dict_get PySem.F.type_dict_get (thn (ho.run pins s σ H (fun v H1 => v = .ref a ∧ ty σ H1 fun y H2 => ∃ z : Str, y = .str z ∧ Q (((kvs.lookup z).map V.int).getD .non) H2) I ⟨rfl, h⟩) fun u s1 ⟨x', H1, I1, rx, ex, q1⟩ => ?_)
  subst ex
  obtain rfl : u = Value.ref a := rx
  obtain ⟨vs, g1, g2⟩ := D.at_ (P := X.prog) nd I1.kIn
  refine ⟨g2.typeIs, fun b e2 => ?_, ?_⟩
  · cases e2
    obtain ⟨ob, _, _, h1, h2, _⟩ := g2
    exact ⟨ob, h1, h2.2.1⟩
  rw [m.trees]
  refine Calls.callWith_builtin rfl (Calls.evalArgs_plain (Calls.spliced_cons (thn (he.run pins s1 σ H1 _ I1 q1) fun iv s2 ⟨y, H2, I2, ry, z, ey, q2⟩ => Calls.spliced_nil ?_)))
  subst ey
  obtain ⟨vs2, r1, r2⟩ := D.at_ (P := X.prog) nd I2.kIn
  have lo : (a == sysModules) = false := let ⟨_, _, _, h2, _⟩ := D; h2
  refine call_meetsIn PySem.F.slot_dict_get r2.typeIs PySem.F.entry_dict_get (PySem.F.args_dict_get_2 _ _) (meets_dict_get (mixKind X.prog X.w) a (k := Sum.inr z) (kV_is ry) lo) ⟨_, r2.mapOf, ⟨_, H2, I2.tok _, ?_, q2⟩⟩
  have := r1.val (Sum.inr z)
  rw [look_str] at this
  exact this.getD rfl
theorem s_kget (g : Gd G call ea k W X) {kvs : List (Str × Int)} {x : Str} {b : Ex} {b' : Expr} {p ap cp : Pos} (hx : glB X.env.scope x = true) (hd : G.dct x = some kvs) (hl : (ap.endLine == cp.line) = true) (hs : stE b' = false) (hb : PE X b' (tE call ea W b)) :
    PE X (.Call (.Attribute (.Name x p) "get" ap) [b'] [] cp) (tE call ea W (.kget x kvs b)) := by
  obtain ⟨q1, q2, q3⟩ := glB_gl hx
  obtain ⟨a, m1, m2, m3, _⟩ := g.dct x kvs hd
  refine PE.imp (pe_kget q1 m1 q2 m2 m3 hb ⟨rfl, by rw [star_no hs]; rfl, hl, by rw [star_no hs]; rfl⟩) fun σ H Q ⟨c, rel, q⟩ => ?_
  simp only [ev] at q
  refine tE.dat rel q fun d os x H1 c1 _ s1 e1 o1 rel1 r1 _ q1 => ?_
  cases d with
  | str z =>
    refine ⟨z, r1.ro.str, ?_⟩
    have q2 := q1.po o1
    cases hk : kvs.lookup z with
    | none => rw [hk] at q2; exact q2.here rel1.wf .non
    | some i => rw [hk] at q2; exact q2.here rel1.wf (.int i)
  | _ => exact q1.elim
theorem keysI_rp {H : Hp} {fz : Addr → Prop} : ∀ kvs : List (Str × Int), RpK H fz (keysI kvs) (kvs.map fun p => (.str p.1, .int p.2))
  | [] => .nil
  | p :: r => .cons (.int _) (keysI_rp r)
theorem call_dictK {kvs : List (Str × Int)} {a : Addr} (D : DctK X.K X.w a kvs) (nd : (kvs.map (·.1)).Nodup) (hz : kvs.length ≤ sizeLine) : CallR X (.type "dict") (fun xs H Q => xs = [.ref a] ∧ ∀ p, H p = none → Q (.ref p) (upd H p (.dK (keysI kvs)))) := by
  intro pins s σ H xs us Q I r q
  obtain ⟨ex, q⟩ := q
  subst ex
  obtain ⟨u, eu, rx⟩ := vals1 r
  subst eu
  cases rx
  obtain ⟨vs, rel, dd⟩ := D.at_ (P := X.prog) nd I.kIn
  have lo : (a == sysModules) = false := let ⟨_, _, _, h2, _⟩ := D; h2
  have z : (keysI kvs).length ≤ sizeLine := by simpa [keysI] using hz
  refine kt_call_dict lo dd (by rw [← rel.length]; exact z) fun h' d' hs => ?_
  have hm : (s.heap.objs.size == sysModules) = false := beq_eq_false_iff_ne.mpr (Nat.ne_of_gt I.big)
  exact ⟨.ref s.heap.objs.size, upd H s.heap.objs.size (.dK (keysI kvs)), I.laid (t' := s.toks) (fun b u e => (hs.2 b (Nat.ne_of_lt (Heap.lt_size e))).trans (Heap.get?_push_of_some _ e)) (Nat.le_refl _)
    (show ObjOk X.prog X.w _ _ _ (.dK (keysI kvs)) from ⟨z, hm, vs, rel, d'⟩), rfl, q _ (I.hok.fresh (Nat.le_refl _))⟩
theorem s_kcpy (g : Gd G call ea k W X) {kvs : List (Str × Int)} {x f : Str} {p fp cp : Pos} (hx : glB X.env.scope x = true) (hf : glB X.env.scope f = true) (hn : f = "dict") (hd : G.dct x = some kvs) :
    PE X (.Call (.Name f fp) [.Name x p] [] cp) (tE call ea W (.kcpy x kvs)) := by
  obtain ⟨q1, q2, q3⟩ := glB_gl hx
  obtain ⟨u1, u2, u3⟩ := glB_gl hf
  subst hn
  obtain ⟨a, m1, m2, m3, m4⟩ := g.dct x kvs hd
  have ho : PE X (.Name x p) (tC (.ref a)) := pe_glob q1 m1 rfl q2
  refine PE.imp (pe_callTy (call_dictK m2 m3 m4) u1 (g.blt "dict" (by decide)) boot_dict (pa_one ho rfl) u3 u2 rfl rfl) fun σ H Q ⟨c, rel, q⟩ => ?_
  simp only [ev] at q
  exact ⟨rfl, (q.po rfl).dct rel.wf (keysI_rp kvs)⟩
end
end FC
end
section
set_option Elab.async false
set_option linter.all false
set_option maxRecDepth 100000
set_option maxHeartbeats 4000000
namespace PySem
section
variable {prog : Program} {w : World} {A : Around} {E : Value → Shared → Prop} {s : Shared}
def Z1 (z TI TO i1 i2 l1 l2 : Addr) (i : Nat) (h : Heap) (T : Option Addr) : Prop :=
  IsPair h TI (.ref i1) (.ref i2) ∧ h.IsListIter i1 l1 i ∧ h.IsListIter i2 l2 i ∧ (∃ o, h.get? TO = some o ∧ ∀ v, o.data ≠ .cell v) ∧ (∃ o, h.get? z = some o ∧ ∀ v, o.data ≠ .cell v) ∧
    (match T with
    | none => IsZip h z TI TO .none ∧ ∃ a b, IsPair h TO a b
    | some T => ∃ f, IsZipHeld h z TI TO T f ∧ T ≠ z ∧ T ≠ i1 ∧ T ≠ i2)
theorem Z1.obj {z TI TO i1 i2 l1 l2 : Addr} {i : Nat} {h : Heap} {T : Option Addr} (x : Z1 z TI TO i1 i2 l1 l2 i h T) : ∀ b ∈ [z, TI, TO, i1, i2], ∃ o, h.get? b = some o ∧ ∀ v, o.data ≠ .cell v := by
  obtain ⟨hTI, ⟨o1, e1, _, d1⟩, ⟨o2, e2, _, d2⟩, hTO, hz, _⟩ := x
  intro b hb
  simp only [List.mem_cons, List.not_mem_nil, or_false] at hb
  rcases hb with rfl | rfl | rfl | rfl | rfl
  · exact hz
  · exact ⟨_, hTI, fun v q => nomatch q⟩
  · exact hTO
  · exact ⟨o1, e1, fun v q => by rw [d1] at q; cases q⟩
  · exact ⟨o2, e2, fun v q => by rw [d2] at q; cases q⟩
theorem Z1.keep {z TI TO i1 i2 l1 l2 : Addr} {i : Nat} {h h' : Heap} {T : Option Addr} (x : Z1 z TI TO i1 i2 l1 l2 i h T) (k : ∀ b ∈ [z, TI, TO, i1, i2], ∀ o, h.get? b = some o → h'.get? b = some o) : Z1 z TI TO i1 i2 l1 l2 i h' T := by
  obtain ⟨hTI, h1, h2, ⟨o, hTO, c1⟩, ⟨o', hz, c2⟩, r⟩ := x
  refine ⟨k TI (by simp) _ hTI, h1.at fun o q => k i1 (by simp) o q, h2.at fun o q => k i2 (by simp) o q, ⟨o, k TO (by simp) _ hTO, c1⟩, ⟨o', k z (by simp) _ hz, c2⟩, ?_⟩
  cases T with
  | none => obtain ⟨q1, a, b, q2⟩ := r; exact ⟨k z (by simp) _ q1, a, b, k TO (by simp) _ q2⟩
  | some T => obtain ⟨f, q1, q2⟩ := r; exact ⟨f, k z (by simp) _ q1, q2⟩
theorem z1_item {z TI TO i1 i2 l1 l2 : Addr} (D : ZipApart z TI TO i1 i2 l1 l2) {xs ys : Array Value} {i : Nat} {x y : Value} {T : Option Addr} {Q : Option Value → Shared → Prop} (hl1 : s.heap.IsList l1 xs) (hl2 : s.heap.IsList l2 ys) (ex : xs[i]? = some x) (ey : ys[i]? = some y)
    (st : Z1 z TI TO i1 i2 l1 l2 i s.heap T) (hT : ∀ T', T = some T' → ∃ o, s.heap.get? T' = some o)
    (hQ : ∀ h', IsPair h' s.heap.objs.size x y → Z1 z TI TO i1 i2 l1 l2 (i + 1) h' (some (T.getD s.heap.objs.size)) → (∀ b o, b ∉ [z, TI, TO, i1, i2] → s.heap.get? b = some o → h'.get? b = some o) → Q (some (.ref s.heap.objs.size)) { s with heap := h' }) :
    wpAny (model prog w) A (pyNext (.ref z)) Q E s := by
  obtain ⟨hTI, h1, h2, ⟨oTO, hto, c1⟩, _, r⟩ := st
  have lt : ∀ {c o}, s.heap.get? c = some o → s.heap.objs.size ≠ c := fun e => Nat.ne_of_gt (Heap.lt_size e)
  have n1 : s.heap.objs.size ≠ i1 := let ⟨_, e, _⟩ := h1; lt e
  have n2 : s.heap.objs.size ≠ i2 := let ⟨_, e, _⟩ := h2; lt e
  cases T with
  | none =>
    obtain ⟨hz, a, b, hTO⟩ := r
    refine wpAny_pyNext_zip_item D hz hTI hTO h1 h2 hl1 hl2 ex ey fun h' a1 a2 a3 a4 a5 a6 hk => ?_
    exact hQ h' a5 ⟨hk _ _ D.TIz D.TITO D.TIi1 D.TIi2 hTI, a3, a4, ⟨_, a2, fun v q => nomatch q⟩, ⟨_, a1, fun v q => nomatch q⟩, false, a1, lt hz, n1, n2⟩
      fun c o hc e => by simp only [List.mem_cons, List.not_mem_nil, or_false, not_or] at hc; exact hk c o hc.1 hc.2.2.1 hc.2.2.2.1 hc.2.2.2.2 e
  | some T =>
    obtain ⟨f, hz, r1, r2, r3⟩ := r
    obtain ⟨oT, eT⟩ := hT T rfl
    refine wpAny_pyNext_zip_item_held D hz eT hTI h1 h2 hl1 hl2 ex ey fun h' a1 a3 a4 a5 a6 hk => ?_
    exact hQ h' a5 ⟨hk _ _ D.TIz D.TIi1 D.TIi2 hTI, a3, a4, ⟨oTO, hk _ _ D.TOz D.TOi1 D.TOi2 hto, c1⟩, ⟨_, a1, fun v q => nomatch q⟩, true, a1, r1, r2, r3⟩
      fun c o hc e => by simp only [List.mem_cons, List.not_mem_nil, or_false, not_or] at hc; exact hk c o hc.1 hc.2.2.2.1 hc.2.2.2.2 e
theorem z1_done (hh : A.handled = none) {z TI TO i1 i2 l1 l2 : Addr} (D : ZipApart z TI TO i1 i2 l1 l2) {xs ys : Array Value} {i : Nat} {T : Option Addr} {Q : Option Value → Shared → Prop} (hl1 : s.heap.IsList l1 xs) (hl2 : s.heap.IsList l2 ys) (hend : xs[i]? = none ∨ ys[i]? = none)
    (st : Z1 z TI TO i1 i2 l1 l2 i s.heap T) (hT : ∀ T', T = some T' → ∃ o, s.heap.get? T' = some o)
    (hQ : ∀ h', (∀ b o, b ∉ [z, TI, TO, i1, i2] → s.heap.get? b = some o → h'.get? b = some o) → Q none { s with heap := h' }) : wpAny (model prog w) A (pyNext (.ref z)) Q E s := by
  obtain ⟨hTI, h1, h2, _, _, r⟩ := st
  cases T with
  | none =>
    obtain ⟨hz, a, b, hTO⟩ := r
    exact wpAny_pyNext_zip_end hh D hz hTI hTO h1 h2 hl1 hl2 hend fun h' hk => hQ h' fun c o hc e => by simp only [List.mem_cons, List.not_mem_nil, or_false, not_or] at hc; exact hk c o hc.1 hc.2.2.1 hc.2.2.2.1 hc.2.2.2.2 e
  | some T =>
    obtain ⟨f, hz, _⟩ := r
    obtain ⟨oT, eT⟩ := hT T rfl
    exact wpAny_pyNext_zip_end_held hh D hz eT hTI h1 h2 hl1 hl2 hend fun h' hk => hQ h' fun c o hc e => by simp only [List.mem_cons, List.not_mem_nil, or_false, not_or] at hc; exact hk c o hc.1 hc.2.2.2.1 hc.2.2.2.2 e
theorem Z1.self {z TI TO i1 i2 l1 l2 : Addr} {i : Nat} {T : Option Addr} {Q : Value → Shared → Prop} (x : Z1 z TI TO i1 i2 l1 l2 i s.heap T) (hn : T = none) (h : Q (.ref z) s) : wpAny (model prog w) A (pyIter (.ref z)) Q E s := by
  subst hn
  exact wpAny_pyIter_zip x.2.2.2.2.2.1 h
end
end PySem
namespace FC
open PySem L2 PyProof.Rows
section
variable {X : Cx}
def tLcz (K : PySem.W.Frag) (ta : TA) (g : TG) (tt : TT) (te : TE) (vs : List Nat) : TE := fun sl G Q => ta sl G fun us G1 => ∃ (a b : Addr) (xs ys : List V), us = [.ref a, .ref b] ∧ SqL K G1 a xs ∧ SqL K G1 b ys ∧
  ∀ D, G1 D = none → ∃ W : Nat → Nat → Hp → Prop, (∃ m, W 0 m (upd G1 D (.lst []))) ∧ ∀ i m G, W i m G →
    ((Itz K a b).stop i G ∧ Q (.ref D) G) ∨ ((Itz K a b).go i G ∧ ∃ Nx : Hp → Prop, (∀ G', Nx G' → ∃ m', m' < m ∧ W (i + 1) m' G') ∧ ∀ T G', (Itz K a b).yld i G (.ref T) G' → g (.ref T) (wipe sl vs) G' fun s2 G2 => wipe s2 vs = wipe sl vs ∧ tt s2 G2 fun c G3 =>
      if c = true then te s2 G3 fun y G4 => ∃ acc, G4 D = some (.lst acc) ∧ acc.length < sizeLine ∧ (Nx (upd G4 D (.lst (acc ++ [y]))) ∧ ∀ c, G' c ≠ none → upd G4 D (.lst (acc ++ [y])) c ≠ none) else Nx G3 ∧ ∀ c, G' c ≠ none → G3 c ≠ none)
theorem tracked_obj {pn : List (Addr × Obj)} {sl : L2.St} {G : Hp} {sh : Shared} {T : Addr} (J : Inv X pn sl G sh) (h : G T ≠ none) : ∃ o, sh.heap.get? T = some o := by
  cases e : G T with
  | none => exact absurd e h
  | some u =>
    have x := J.hok T u e
    cases u with
    | lst _ => obtain ⟨_, its, m, _, q⟩ := x; exact ⟨_, q⟩
    | tup _ => obtain ⟨_, its, _, ob, q, _⟩ := x; exact ⟨ob, q⟩
    | dK _ => obtain ⟨_, _, vs, _, ob, es, ep, q, _⟩ := x; exact ⟨ob, q⟩
    | dT _ => obtain ⟨_, _, vs, _, ob, es, ep, q, _⟩ := x; exact ⟨ob, q⟩
    | set S m => obtain ⟨ob, es, ep, tb, q, _⟩ := x; exact ⟨ob, q⟩
    | ins C dx fs => obtain ⟨_, _, _, q, _⟩ := x; exact ⟨_, q⟩
    | own y => exact x
    | xd fs => obtain ⟨m, ⟨ob, es, ep, q, _⟩, _⟩ := x; exact ⟨ob, q⟩
    | rng lo hi => obtain ⟨_, _, _, q⟩ := x; exact ⟨_, q⟩
    | frz ob u => obtain ⟨q, _⟩ := x; exact ⟨ob, q⟩
    | tbl ps => exact ⟨_, (show sh.heap.get? T = some _ from x)⟩
    | met f y => exact ⟨_, (show sh.heap.get? T = some _ from x)⟩
    | ext φ => obtain ⟨_, q, _⟩ := x; exact q
theorem pe_lcz {elt e e2 : Expr} {tx : Str} {tp p zp : Pos} {ifs : List Expr} {scope : Scope} {own : List (Str × Nat)} {pos : Pos} {ta : TA} {g : TG} {tt : TT} {te : TE} (hc : X.calm = true) (hN : X.N.Nodup) (hgl : Gl X "zip") (hmg : X.mg "zip" = none) (ha : PA X [e, e2] ta)
    (hs1 : starEach [e, e2] X.env = (false, eval e X.env) :: starEach [e2] X.env) (hs2 : (backTo zp (starEach [e2] X.env)).any (·.1) = false) (ok : BlkOk X.N X.env.scope scope own)
    (hg : ∀ (sh : Shared) (G : Hp) (C : Addr) (cl : List (Str × Addr)) (fp : List Addr), PG (X.blk sh G scope (compEnvC scope cl C X.env) fp) (.Name tx tp) g) (ht : ∀ (sh : Shared) (G : Hp) (C : Addr) (cl : List (Str × Addr)) (fp : List Addr), PTs (X.blk sh G scope (compEnvC scope cl C X.env) fp) ifs tt)
    (he : ∀ (sh : Shared) (G : Hp) (C : Addr) (cl : List (Str × Addr)) (fp : List Addr), PE (X.blk sh G scope (compEnvC scope cl C X.env) fp) elt te) :
    PE X (.ListComp elt [⟨.Name tx tp, .Call (.Name "zip" p) [e, e2] [] zp, ifs, 0⟩] scope pos) (tLcz X.K ta g tt te (own.map (·.2))) := by
  refine ⟨fun pn sh sl G Q J hw => ?_⟩
  rw [eval_ListComp]
  have fr : ∀ y ∈ scope.names, y.2 = .free → ∃ c, X.env.cells.lookup y.1 = some c := fun y hy e => (ok.free y hy e).elim (fun k => J.ok.has _ (.inl k)) fun k => J.ok.has _ (.inr k)
  refine wpAny_comprehension_free (use := none) rfl (fun _ => rfl) (closure_ok fr) ok.kind (fun y hy e => by rw [ok.uniq y hy, e]) ?_
  refine Call_ (ld_blt J hgl hmg PyProof.Rows.boot_zip (PyProof.Rows.callWith_type1 (thn (ha.run zp pn sh sl G _ J hw) fun us s1 ⟨vs, G1, J1, r1, q1⟩ => ?_) hs1 hs2))
  obtain ⟨a, b, xs, ys, rfl, hqx, hqy, q⟩ := q1
  cases r1 with
  | cons ra rr =>
  cases rr with
  | cons rb rr =>
  cases rr
  cases ra
  cases rb
  obtain ⟨its, rv, p1, _⟩ := J1.list hqx
  obtain ⟨its2, rv2, p2, _⟩ := J1.list hqy
  refine call_zip_2 p1.isList p2.isList fun hz0 hz hTI hTO h1 h2 hsz hk => wpAny_pyIter_zip hz ?_
  have D0 := PySem.W.ktu_apart s1.heap.objs.size a b p1.lt p2.lt
  generalize eN : s1.heap.objs.size = n at *
  have J2 : Inv X pn sl G1 { s1 with heap := hz0 } := J1.kept (t' := s1.toks) hk
  have fpo : ∀ c ∈ [n + 4, n + 2, n + 3, n, n + 1], FpOk X pn G1 c ∧ c < hz0.objs.size := fun c hcm => by
    simp only [List.mem_cons, List.not_mem_nil, or_false] at hcm
    have hle : n ≤ c := by omega
    refine ⟨J1.fpOk (eN ▸ hle) (J1.hok.fresh (eN ▸ hle)), by omega⟩
  have st2 : Z1 (n + 4) (n + 2) (n + 3) n (n + 1) a b 0 hz0 none := ⟨hTI, h1, h2, ⟨_, hTO, fun v q => nomatch q⟩, ⟨_, hz, fun v q => nomatch q⟩, hz, _, _, hTO⟩
  generalize hfpe : [n + 4, n + 2, n + 3, n, n + 1] = fp at *
  refine wpAny_newObj_type (newEnv_comp ?_) (by show 0 ≤ sizeLine; decide)
  generalize hD : hz0.objs.size = D at *
  have hDn : G1 D = none := J2.hok.fresh (Nat.le_of_eq hD)
  obtain ⟨W, ⟨m0, w0⟩, turn⟩ := q D hDn
  generalize es3 : ({ s1 with heap := hz0.push { cls := .type "list", data := .seq ([] : List Value).toArray } } : Shared) = s3
  have h3 : s3.heap = hz0.push { cls := .type "list", data := .seq ([] : List Value).toArray } := by rw [← es3]
  have J3 : Inv X pn sl (upd G1 D (.lst [])) s3 := by
    rw [← es3]
    have new : ObjOk X.prog X.w (upd G1 D (.lst [])) (hz0.push { cls := .type "list", data := .seq ([] : List Value).toArray }) D (.lst []) := ⟨Nat.zero_le _, [], 0, .nil, by rw [← hD]; exact Heap.get?_push_size _ rfl⟩
    exact J2.laid (t' := s1.toks) (fun _ _ e => Heap.get?_push_of_some _ e) (Nat.le_of_eq hD) new
  have f3 : ∀ c ∈ fp, FpOk X pn (upd G1 D (.lst [])) c ∧ c < s3.heap.objs.size := fun c hcm => by
    obtain ⟨⟨g0, g1⟩, lt⟩ := fpo c hcm
    refine ⟨⟨?_, g1⟩, ?_⟩
    · rw [upd_ne (Nat.ne_of_lt lt)]; exact g0
    · rw [h3, Heap.size_push, hD]; omega
  have st3 : Z1 (n + 4) (n + 2) (n + 3) n (n + 1) a b 0 s3.heap none := st2.keep fun c _ o e => by rw [h3]; exact Heap.get?_push_of_some _ e
  have J4 := block_start J3 ok hN f3
  have pg := hg s3 (upd G1 D (.lst [])) s3.heap.objs.size (cellsFrom (s3.heap.objs.size + 1) scope.names (cloFrom X.env.cells scope.names [])) fp
  have pt := ht s3 (upd G1 D (.lst [])) s3.heap.objs.size (cellsFrom (s3.heap.objs.size + 1) scope.names (cloFrom X.env.cells scope.names [])) fp
  have pe := he s3 (upd G1 D (.lst [])) s3.heap.objs.size (cellsFrom (s3.heap.objs.size + 1) scope.names (cloFrom X.env.cells scope.names [])) fp
  show codeAny _ _ (.compStart (.ListComp elt [⟨.Name tx tp, .Call (.Name "zip" p) [e, e2] [] zp, ifs, 0⟩] scope pos) 0 (.ref (n + 4)) (.ref D) (compEnvC scope (cellsFrom (s3.heap.objs.size + 1) scope.names (cloFrom X.env.cells scope.names [])) s3.heap.objs.size X.env)) _ { s3 with heap := pushCells (s3.heap.push { cls := .type "dict", data := .dict #[] }) scope.names }
  have nfp : ∀ c ∈ fp, (upd G1 D (.lst [])) c = none := fun c hcm => (f3 c hcm).1.1
  generalize hce : compEnvC scope (cellsFrom (s3.heap.objs.size + 1) scope.names (cloFrom X.env.cells scope.names [])) s3.heap.objs.size X.env = ce at J4 pg pt pe ⊢
  have cL : ce.locals = s3.heap.objs.size := by subst hce; rfl
  generalize hG3 : upd G1 D (.lst []) = G3 at J3 J4 pg pt pe w0 nfp f3
  generalize es4 : ({ s3 with heap := pushCells (s3.heap.push { cls := .type "dict", data := .dict #[] }) scope.names } : Shared) = s4 at J4 ⊢
  have st4 : Z1 (n + 4) (n + 2) (n + 3) n (n + 1) a b 0 s4.heap none := st3.keep fun c _ o e => by rw [← es4]; exact pushCells_keeps _ _ _ _ (Heap.get?_push_of_some _ e)
  have stat : ∀ {sl' : L2.St} {G' : Hp} {sh' : Shared}, Inv (X.blk s3 G3 scope ce fp) [] sl' G' sh' → (∀ c ∈ fp, G' c = none) → ∀ c ∈ fp, FpOk (X.blk s3 G3 scope ce fp) [] G' c := fun {sl' G' sh'} J' hn c hcm =>
    ⟨hn c hcm, (J'.ok.exf c hcm).1, J'.ok.exfs c hcm, .inl hcm, fun x k e => (J'.ok.exf c hcm).2 x k e, fun q hq => absurd (show q ∈ ([] : List (Addr × Obj)) ++ [] from hq) (by simp)⟩
  have loop : codeAny (model X.prog X.w) X.A (.compLoop (.ListComp elt [⟨.Name tx tp, .Call (.Name "zip" p) [e, e2] [] zp, ifs, 0⟩] scope pos) 0 (.ref (n + 4)) (.ref D) ce) (compPost (model X.prog X.w) X.A X.xe none (EP X pn sl Q) (.ref D) s3.heap.objs.size) s4 := by
    refine compLoop_any (fun k sh' => ∃ i G' T, Inv (X.blk s3 G3 scope ce fp) [] (wipe sl (own.map (·.2))) G' sh' ∧ Z1 (n + 4) (n + 2) (n + 3) n (n + 1) a b i sh'.heap T ∧ (∀ T', T = some T' → G' T' ≠ none) ∧ (∀ c ∈ fp, G' c = none) ∧ W i k G') ?_ m0 ⟨0, G3, none, J4, st4, (fun _ z => nomatch z), nfp, w0⟩
    rintro k s5 ⟨i, G5, T5, J5, st5, hT5, n5, w5⟩
    have hTo : ∀ T', T5 = some T' → ∃ o, s5.heap.get? T' = some o := fun T' e => tracked_obj J5 (hT5 T' e)
    have obs : ∀ c ∈ fp, ∃ o, s5.heap.get? c = some o ∧ ∀ v, o.data ≠ .cell v := by rw [← hfpe]; exact st5.obj
    rcases turn i k G5 w5 with ⟨⟨xs5, ys5, hx5, hy5, hend⟩, qq⟩ | ⟨⟨xs5, ys5, x5, y5, hx5, hy5, ex5, ey5⟩, Nx, hNx, step⟩
    · obtain ⟨jt1, rv1, pl1, _⟩ := J5.list (show SqL (X.blk s3 G3 scope ce fp).K G5 a xs5 from hx5)
      obtain ⟨jt2, rv3, pl2, _⟩ := J5.list (show SqL (X.blk s3 G3 scope ce fp).K G5 b ys5 from hy5)
      have len1 := rv1.length
      have len2 := rv3.length
      have hend' : jt1.toArray[i]? = none ∨ jt2.toArray[i]? = none := by
        rcases hend with z | z
        · left; simp; omega
        · right; simp; omega
      refine z1_done (J5.ok.hd hc) D0 pl1.isList pl2.isList hend' st5 hTo fun h' hk' => ?_
      have J6 : Inv (X.blk s3 G3 scope ce fp) [] (wipe sl (own.map (·.2))) G5 { s5 with heap := h' } := J5.turnedL (t' := s5.toks) (ch := fp) (fun c o hcm e => hk' c o (by rw [hfpe]; exact hcm) e) (stat J5 n5)
      have J7 : Inv X pn sl G5 { s5 with heap := h' } := J3.call' (ch := fp) J6.os J6.base J6.hok J6.bare fun c hcm => ⟨(f3 c hcm).1.2.2.2.1, (f3 c hcm).1.2.1, (f3 c hcm).1.2.2.2.2.1, (f3 c hcm).1.2.2.2.2.2⟩
      have nC : G5 s3.heap.objs.size = none := cL ▸ J6.free
      obtain ⟨mm, hn, _⟩ := J6.loc
      have hn : h'.Ns ce.locals mm := hn
      rw [cL] at hn
      obtain ⟨f0, f1, f2, f4, f5, f6⟩ := J3.fpOk (H' := G5) (Nat.le_refl _) nC
      refine ⟨mm, hn, fun h'' sb => ?_⟩
      exact ⟨.ref D, G5, J7.turned (t' := s5.toks) (fun c o hcm e => (sb.2 c hcm).trans e) f0 f1 f4 f5 f6, rfl, qq⟩
    · obtain ⟨jt1, rv1, pl1, _⟩ := J5.list (show SqL (X.blk s3 G3 scope ce fp).K G5 a xs5 from hx5)
      obtain ⟨jt2, rv3, pl2, _⟩ := J5.list (show SqL (X.blk s3 G3 scope ce fp).K G5 b ys5 from hy5)
      obtain ⟨u, hu, ru⟩ := rv1.get ex5
      obtain ⟨u2, hu2, ru2⟩ := rv3.get ey5
      refine z1_item D0 pl1.isList pl2.isList (x := u) (y := u2) (by simpa using hu) (by simpa using hu2) st5 hTo fun h' hp st' hk' => ?_
      refine wpAny_pure (M := model X.prog X.w) (A := X.A) (a := ()) ?_
      have new : ObjOk X.prog X.w (upd G5 s5.heap.objs.size (.tup [x5, y5])) h' s5.heap.objs.size (.tup [x5, y5]) := ⟨by show 2 ≤ sizeLine; decide, [u, u2], .cons ru (.cons ru2 .nil), ⟨_, hp, rfl, _, rfl⟩⟩
      have J7 : Inv (X.blk s3 G3 scope ce fp) [] (wipe sl (own.map (·.2))) (upd G5 s5.heap.objs.size (.tup [x5, y5])) { s5 with heap := h' } := J5.turnedNew (t' := s5.toks) (ch := fp) (fun c o hcm e => hk' c o (by rw [hfpe]; exact hcm) e) (stat J5 n5) (Nat.le_refl _) new
      have frT : G5 s5.heap.objs.size = none := J5.hok.fresh (Nat.le_refl _)
      have n7 : ∀ c ∈ fp, upd G5 s5.heap.objs.size (.tup [x5, y5]) c = none := fun c hcm => by
        obtain ⟨o, e, _⟩ := obs c hcm
        rw [upd_ne (Nat.ne_of_lt (Heap.lt_size e))]
        exact n5 c hcm
      have J8 := J7.pinned (stat J7 n7) (fp := fp) (by rw [← hfpe]; exact st'.obj)
      have yl : (Itz X.K a b).yld i G5 (.ref s5.heap.objs.size) (upd G5 s5.heap.objs.size (.tup [x5, y5])) := ⟨_, x5, y5, rfl, frT, rfl, fun l hl => by rw [J5.list_inj (show SqL (X.blk s3 G3 scope ce fp).K G5 a l from hl) hx5]; exact ex5, fun l hl => by rw [J5.list_inj (show SqL (X.blk s3 G3 scope ce fp).K G5 b l from hl) hy5]; exact ey5⟩
      refine thnF (pg.run _ _ _ _ (.ref s5.heap.objs.size) _ _ J8 rfl (step _ _ yl)) fun _ s8 ⟨sl8, G8, J9, hw8, q8⟩ => ?_
      refine thnF (pt.run _ s8 sl8 G8 _ J9 q8) fun c s9 ⟨G9, J10, q9⟩ => ?_
      have fin : ∀ {sh' : Shared} {G' : Hp}, Inv (X.blk s3 G3 scope ce fp) ([] ++ pinsAt fp h') sl8 G' sh' → (Nx G' ∧ ∀ c, upd G5 s5.heap.objs.size (.tup [x5, y5]) c ≠ none → G' c ≠ none) → ∃ m, m < k ∧ ∃ i G' T, Inv (X.blk s3 G3 scope ce fp) [] (wipe sl (own.map (·.2))) G' sh' ∧ Z1 (n + 4) (n + 2) (n + 3) n (n + 1) a b i sh'.heap T ∧ (∀ T', T = some T' → G' T' ≠ none) ∧ (∀ c ∈ fp, G' c = none) ∧ W i m G' := fun {sh' G'} J' nx => by
        obtain ⟨m', hm, w'⟩ := hNx G' nx.1
        have pin' : ∀ c ∈ fp, ∀ o, h'.get? c = some o → sh'.heap.get? c = some o ∧ G' c = none := fun c hcm o e =>
          let z := J'.pin (c, o) (List.mem_append_right _ (List.mem_append_right _ (mem_pinsAt hcm e)))
          ⟨z.1, z.2.1⟩
        have hl : (wipe sl (own.map (·.2))).length = sl8.length := by rw [← hw8, wipe_length]
        refine ⟨m', hm, i + 1, G', some (T5.getD s5.heap.objs.size), (J'.unpinned (pins := [])).weak hl (fun j v e => ?_), st'.keep fun c hcm o e => (pin' c (by rw [← hfpe]; exact hcm) o e).1, fun T' e => ?_, fun c hcm => ?_, w'⟩
        · rw [← hw8] at e
          exact (wipe_some e).1
        · cases e
          refine nx.2 _ ?_
          cases T5 with
          | none => show upd G5 s5.heap.objs.size (.tup [x5, y5]) s5.heap.objs.size ≠ none; rw [upd_same]; simp
          | some T' =>
            show upd G5 s5.heap.objs.size (.tup [x5, y5]) T' ≠ none
            have z := hT5 T' rfl
            rw [upd_ne (fun y => z (by rw [y]; exact frT))]
            exact z
        · obtain ⟨o, e, _⟩ := st'.obj c (by rw [hfpe]; exact hcm)
          exact (pin' c hcm o e).2
      cases c with
      | false =>
        simp only [Bool.false_eq_true, if_false] at q9 ⊢
        exact fin J10 q9
      | true =>
        simp only [if_true] at q9 ⊢
        refine thnF (pe.run _ s9 sl8 G9 _ J10 q9) fun z s10 ⟨yv, G10, J11, r10, acc, hD10, hz10, nx⟩ => ?_
        exact app_ok (X := X.blk s3 G3 scope ce fp) J11 hD10 hz10 r10 fun s11 J12 => fin J12 nx
  exact codeAny_compStart_list loop (st4.self rfl loop)
end
section
variable [EA]
variable {G : Glob} {call : CallT} {ea : Nat → Addr} {k : Nat} {W : XK} {X : Cx}
theorem comz_core {t : Tgt} {cnd : Option Ex} {el : Ex} {σ : L2.St} {H1 : Hp} {Q : VK} {c1 : Cfg} {J : L2.It} {xs : List PyData} (hbe : isBor el = false) (rel1 : Rel c1 σ H1) (hJ : ItOk J xs c1 H1)
    (q : PoR ea W c1 H1 ((compL (compF call t cnd el c1.env) xs c1.os).bind fun ys os5 => if fit ys.length then .ok (.d (.list ys)) os5 else .st) Q) : ∀ D, H1 D = none → ∃ W : Nat → Nat → Hp → Prop, (∃ m, W 0 m (upd H1 D (.lst []))) ∧ ∀ i m G, W i m G →
    (J.stop i G ∧ Q (.ref D) G) ∨ (J.go i G ∧ ∃ Nx : Hp → Prop, (∀ G', Nx G' → ∃ m', m' < m ∧ W (i + 1) m' G') ∧ ∀ x G', J.yld i G x G' → tG t x (L2.wipe σ (tgtIx t)) G' fun s2 G2 => L2.wipe s2 (tgtIx t) = L2.wipe σ (tgtIx t) ∧ tCo call ea cnd s2 G2 fun c G3 =>
      if c = true then tE call ea W0 el s2 G3 fun y G4 => ∃ acc, G4 D = some (.lst acc) ∧ acc.length < sizeLine ∧ (Nx (upd G4 D (.lst (acc ++ [y]))) ∧ ∀ c, G' c ≠ none → upd G4 D (.lst (acc ++ [y])) c ≠ none) else Nx G3 ∧ ∀ c, G' c ≠ none → G3 c ≠ none) := by
  intro D hD
  generalize hF : compF call t cnd el c1.env = F at q
  have hC : ∃ ys osF, compL F xs c1.os = .ok ys osF ∧ fit ys.length = true ∧ PoR ea W c1 H1 (.ok (.d (.list ys)) osF) Q := by
    cases hv : compL F xs c1.os with
    | ok ys osF =>
      have q2 : PoR ea W c1 H1 (if fit ys.length then .ok (.d (.list ys)) osF else .st) Q := by
        simp only [R.bind, hv] at q
        exact q
      split at q2
      · exact ⟨ys, osF, rfl, by assumption, q2⟩
      · exact q2.elim
    | er e o => exact absurd hv compL_ne
    | st => simp only [R.bind, hv] at q; exact q.elim
  obtain ⟨ys, osF, hC, hfit, q⟩ := hC
  have w1 := rel1.wf
  have hfit := fit_le hfit
  refine ⟨fun i m Hi => ∃ (ci : Cfg) (acc : List V) (ds rest : List PyData), Step c1 H1 ci Hi ∧ ci.env = c1.env ∧ Hi D = some (.lst acc) ∧ ¬ ci.fz D ∧ RpA Hi ci.fz acc ds ∧ compL F (xs.drop i) ci.os = .ok rest osF ∧ ds ++ rest = ys ∧ m = xs.length - i ∧ i ≤ xs.length, ⟨xs.length, c1, [], [], ys, (step_any w1 hD (.lst [])).1, rfl, upd_same, fun z => w1.dom D z hD, .nil, ?_, rfl, by simp, Nat.zero_le _⟩, ?_⟩
  · exact hC
  rintro i m Hi ⟨ci, acc, ds, rest, si, ei, aD, nf, rA, hr, hy, rfl, hle⟩
  have hJi := hJ ci Hi si.wf (si.kp w1)
  have noD := own_om si.wf aD
  by_cases hlt : i < xs.length
  · right
    have hx : xs[i]? = some xs[i] := List.getElem?_eq_getElem hlt
    obtain ⟨hgo, hyl⟩ := hJi.1 i _ hx
    rw [List.drop_eq_getElem_cons hlt] at hr
    obtain ⟨y, os2, ys2, f1, f2, f3⟩ := compL_cons hr
    refine ⟨hgo, fun H' => ∃ (ci : Cfg) (acc : List V) (ds rest : List PyData), Step c1 H1 ci H' ∧ ci.env = c1.env ∧ H' D = some (.lst acc) ∧ ¬ ci.fz D ∧ RpA H' ci.fz acc ds ∧ compL F (xs.drop (i + 1)) ci.os = .ok rest osF ∧ ds ++ rest = ys, fun H' ⟨cj, acc', ds', rest', a1, a2, a3, a4, a5, a6, a7⟩ => ⟨xs.length - (i + 1), by omega, cj, acc', ds', rest', a1, a2, a3, a4, a5, a6, a7, rfl, hlt⟩, fun x H2 hy2 => ?_⟩
    obtain ⟨c2, s2, e2, o2, r2⟩ := hyl x H2 hy2
    have t2 : Step c1 H1 c2 H2 := si.trans s2
    have relW : Rel { c2 with env := clrL c1.env (tgtIx t) } (L2.wipe σ (tgtIx t)) H2 := by
      have := (rel1.step t2 (e2.trans ei)).wipe (tgtIx t)
      rw [show c2.env = c1.env from e2.trans ei] at this
      exact this
    rw [← hF] at f1
    unfold compF at f1
    cases hb : bindT t xs[i] (clrL c1.env (tgtIx t)) with
    | none => rw [hb] at f1; cases f1
    | some env' =>
      rw [hb] at f1
      dsimp only at f1
      refine ⟨{ c2 with env := clrL c1.env (tgtIx t) }, xs[i], env', relW, r2, hb, fun σ2 rel2 w2 => ⟨?_, ?_⟩⟩
      · rw [w2 (tgtIx t) fun _ h => h, wipe_wipe]
      have accN : acc.length = ds.length := rA.length
      -- behind the test
      have tail : ∀ (b : Bool) (H3 : Hp) (c3 : Cfg), Step { c2 with env := env' } H2 c3 H3 → c3.env = env' → evC call cnd env' ci.os = .ok b c3.os → Rel c3 σ2 H3 →
          (if b = true then tE call ea W0 el σ2 H3 fun y H4 => ∃ acc, H4 D = some (.lst acc) ∧ acc.length < sizeLine ∧ ((∃ (ci : Cfg) (acc' : List V) (ds rest : List PyData), Step c1 H1 ci (upd H4 D (.lst (acc ++ [y]))) ∧ ci.env = c1.env ∧ upd H4 D (.lst (acc ++ [y])) D = some (.lst acc') ∧ ¬ ci.fz D ∧ RpA (upd H4 D (.lst (acc ++ [y]))) ci.fz acc' ds ∧ compL F (xs.drop (i + 1)) ci.os = .ok rest osF ∧ ds ++ rest = ys) ∧ ∀ z, H2 z ≠ none → upd H4 D (.lst (acc ++ [y])) z ≠ none)
            else (∃ (ci : Cfg) (acc : List V) (ds rest : List PyData), Step c1 H1 ci H3 ∧ ci.env = c1.env ∧ H3 D = some (.lst acc) ∧ ¬ ci.fz D ∧ RpA H3 ci.fz acc ds ∧ compL F (xs.drop (i + 1)) ci.os = .ok rest osF ∧ ds ++ rest = ys) ∧ ∀ z, H2 z ≠ none → H3 z ≠ none) := by
        intro b H3 c3 s3 e3 hv rel3
        rw [hv] at f1
        simp only [R.bind] at f1
        have s3' : Step c2 H2 c3 H3 := ⟨s3.wf, s3.fz, s3.fzn, s3.om, s3.keep, s3.tbl⟩
        have u3 : Step ci Hi c3 H3 := s2.trans s3'
        have D3 : H3 D = some (.lst acc) := u3.keep D _ aD noD (by simp)
        have nf3 : ¬ c3.fz D := fun z => by
          rcases u3.fzn D z with z | z
          · exact nf z
          · rw [aD] at z; cases z
        have r3 : RpA H3 c3.fz acc ds := RpA.keep (u3.kp si.wf) rA
        cases b with
        | false =>
          rw [if_neg Bool.false_ne_true] at f1 ⊢
          cases f1
          refine ⟨⟨{ c3 with env := c1.env }, acc, ds, ys2, (si.trans u3).env _, rfl, D3, nf3, r3, f2, ?_⟩, fun z hz => s3'.dom hz⟩
          rw [← hy, f3]
        | true =>
          rw [if_pos rfl] at f1 ⊢
          refine ⟨c3, rel3, ?_⟩
          rw [e3]
          match hw : ev call el env' c3.os, f1 with
          | .ok (.d z) os4, f1 =>
            simp only [R.dat] at f1
            cases f1
            intro yv H4 c4 s4 e4 o4 r4
            rw [hbe] at r4
            have u4 : Step ci Hi c4 H4 := u3.trans s4
            have D4 : H4 D = some (.lst acc) := u4.keep D _ aD noD (by simp)
            have nf4 : ¬ c4.fz D := fun z => by
              rcases u4.fzn D z with z | z
              · exact nf z
              · rw [aD] at z; cases z
            have own4 : OwnO (H4 D) := by rw [D4]; trivial
            have kp4 : Kp H4 (upd H4 D (.lst (acc ++ [yv]))) c4.fz c4.fz := Kp.mut own4 nf4
            have hlen : acc.length < sizeLine := by
              have : (ds ++ z :: ys2).length = ys.length := by rw [← hy, f3]
              rw [List.length_append, List.length_cons] at this
              omega
            refine ⟨acc, D4, hlen, ⟨{ c4 with env := c1.env }, acc ++ [yv], ds ++ [z], ys2, ((si.trans u4).mut hD own4 nf4 (own_om u4.wf D4)).env _, rfl, upd_same, nf4, (RpA.keep ((u4.kp si.wf).trans kp4) rA).append (.cons (Rp.keep kp4 r4) .nil), by rw [show ({ c4 with env := c1.env } : Cfg).os = _ from o4]; exact f2, ?_⟩, fun z hz => ?_⟩
            · rw [← hy, f3]
              simp
            · have := (s3'.trans s4).dom hz
              by_cases hzD : z = D
              · subst hzD; rw [upd_same]; simp
              · rw [upd_ne hzD]; exact this
      have os2e : c2.os = ci.os := o2
      cases cnd with
      | none =>
        exact tail true H2 { c2 with env := env' } (Step.refl (t2.wf.env _)) rfl (by simp only [evC]; rw [os2e]) rel2
      | some a =>
        refine ⟨{ c2 with env := env' }, rel2, ?_⟩
        simp only [evC, ← os2e] at f1 tail
        show PoT ea W0 σ2 _ H2 (ev call a env' c2.os) _
        match hw : ev call a env' c2.os, f1 with
        | .ok (.d (.bool b)) os3, f1 =>
          intro H3 c3 s3 e3 o3
          refine tail b H3 c3 s3 e3 ?_ (rel2.step s3 e3)
          rw [hw, o3]
          rfl
  · left
    have ei' : i = xs.length := by omega
    subst ei'
    refine ⟨hJi.2, ?_⟩
    rw [List.drop_of_length_le (Nat.le_refl _)] at hr
    simp only [compL] at hr
    cases hr
    rw [List.append_nil] at hy
    subst hy
    exact q.2 D Hi ci si ei rfl nf noD hD ⟨acc, aD, rA⟩
theorem R.dat_bind {α β : Type} (x : R PV) (f : PyData → Objs → R α) (g : α → Objs → R β) : (x.dat f).bind g = x.dat fun d o => (f d o).bind g := by
  cases x with
  | ok v o => cases v <;> rfl
  | er e o => rfl
  | st => rfl
theorem compz_own {call : CallT} {t : Tgt} {cnd : Option Ex} {el : Ex} {env : PEnv} {xs : List PyData} {os : Objs} : ∀ v o, ((compL (compF call t cnd el env) xs os).bind fun ys os5 => if fit ys.length then R.ok (PV.d (.list ys)) os5 else .st) = .ok v o → ∃ d, v = .d d ∧ ownD d = true := by
  intro v o h
  cases hv : compL (compF call t cnd el env) xs os with
  | ok ys o2 =>
    rw [hv] at h
    simp only [R.bind] at h
    split at h
    · cases h; exact ⟨_, rfl, rfl⟩
    · cases h
  | er e o => exact absurd hv compL_ne
  | st => rw [hv] at h; cases h
theorem s_compz (g : Gd G call ea k W X) {i : Nat} {a b el : Ex} {cnd : Option Ex} {a' b' el' : Expr} {y f : Str} {yp fp zp pos : Pos} {ifs : List Expr} {scope : Scope} (hgl : glB X.env.scope f = true) (hf : f = "zip") (hs : stE a' = false) (hs2 : stE b' = false) (hb1 : isBor a = false) (hb2 : isBor b = false) (hbe : isBor el = false)
    (ha : PE X a' (tE call ea W a)) (hb : PE X b' (tE call ea W b)) (ok : BlkOk X.N X.env.scope scope (ownOf X.N [i])) (oi : (ownOf X.N [i]).map (·.2) = [i])
    (hg : ∀ (s : Shared) (H : Hp) (C : Addr) (cl : List (Str × Addr)) (fp : List Addr), PG (X.blk s H scope (compEnvC scope cl C X.env) fp) (.Name y yp) (tG (.one i))) (ht : ∀ (s : Shared) (H : Hp) (C : Addr) (cl : List (Str × Addr)) (fp : List Addr), PTs (X.blk s H scope (compEnvC scope cl C X.env) fp) ifs (tCo call ea cnd))
    (he : ∀ (s : Shared) (H : Hp) (C : Addr) (cl : List (Str × Addr)) (fp : List Addr), PE (X.blk s H scope (compEnvC scope cl C X.env) fp) el' (tE call ea W0 el)) :
    PE X (.ListComp el' [⟨.Name y yp, .Call (.Name f fp) [a', b'] [] zp, ifs, 0⟩] scope pos) (tE call ea W (.compz i a b cnd el)) := by
  obtain ⟨q1, q2, q3⟩ := glB_gl hgl
  subst hf
  have m := g.blt "zip" (by decide)
  refine PE.imp (pe_lcz g.calm g.nd q1 m (pa_cons ha (pa_one hb hs2) (star_no hs _ _)) (by rw [star_no hs]) (back_no fun x hx => by simp at hx; subst hx; exact hs2) ok hg ht he) fun σ H Q ⟨c, rel, q⟩ => ?_
  simp only [ev, R.dat_bind] at q
  refine tE.dat rel q fun d os x H1 c1 _ s1 e1 o1 rel1 r1 n1 q1 => ?_
  rw [← e1, ← o1] at q1
  refine tE.dat rel1 q1 fun d2 os2 y H2 c2 _ s2 e2 o2 rel2 r2 n2 q2 => ?_
  have r1 := Rp.keep (s2.kp rel1.wf) (n1 hb1)
  have r2 := n2 hb2
  rw [← o2, ← e2] at q2
  cases r1 with
  | lst hxa hx rx =>
    cases r2 with
    | lst hya hy ry =>
      dsimp only at q2
      split at q2
      · rename_i hz
        refine ⟨_, _, _, _, rfl, SqL.of hx, SqL.of hy, ?_⟩
        rw [oi]
        exact fun D hD => let ⟨W', w0, st⟩ := comz_core (t := .one i) (cnd := cnd) (el := el) hbe rel2 (it_zipL (X := X) hxa hya hx hy rx ry hz) (PoE.raw compz_own q2) D hD
          ⟨W', w0, fun i m G h => (st i m G h).imp id fun ⟨go, Nx, h1, h2⟩ => ⟨go, Nx, h1, fun T G' hy => h2 _ G' hy⟩⟩
      · exact q2.elim
    | _ => exact q2.elim
  | _ => exact q2.elim
end
end FC
end
section
set_option Elab.async false
set_option linter.all false
set_option maxRecDepth 100000
set_option maxHeartbeats 4000000
namespace FC
open PySem L2 PyProof.Rows
variable [EA]
def isAO : Ex → Bool
  | .an _ _ => true
  | .orr _ _ => true
  | _ => false
section
variable {G : Glob} {call : CallT} {ea : Nat → Addr} {k : Nat}
structure Ok3 (call : CallT) (ea : Nat → Addr) (W : XK) (X : Cx) (e : Ex) (x : Expr) : Prop where
  pe : PE X x (tE call ea W e)
  pt : tst e = true → PT X x (tT call ea W e)
  pw : isAO e = true → tst e = true → PW X x (tT call ea W e)
theorem Ok3.of {W : XK} {X : Cx} {e : Ex} {x : Expr} (h : PE X x (tE call ea W e)) (hb : isAO e = false) (he : ∀ whole, isTrue x X.env whole = (do let v ← whole; standAt x.pos; holding [v] (truthy v))) : Ok3 call ea W X e x :=
  ⟨h, fun ht => PT.imp (pt_val h he) fun σ H Q q => by
    have hb : isBor e = false := by cases e <;> first | rfl | (simp [tst] at ht)
    exact tT_of hb (fun _ _ _ q => q) q, fun z => by rw [hb] at z; cases z⟩
theorem Ok3.of2 {W : XK} {X : Cx} {e : Ex} {x : Expr} (h : PE X x (tE call ea W e)) (h2 : PT X x (tT call ea W e)) (hb : isAO e = false) : Ok3 call ea W X e x := ⟨h, fun _ => h2, fun z => by rw [hb] at z; cases z⟩
theorem chks_star {N : List Str} {sc : Scope} : ∀ {as : List Ex} {es : List Expr}, chks G N sc as es = true → as.any isStar = false → ∀ e ∈ es, stE e = false
  | [], [], _, _ => by simp
  | [], _ :: _, h, _ => by simp [chks] at h
  | a :: as, [], h, _ => by cases a <;> simp [chks] at h
  | a :: as, e :: es, h, hs => by
    simp only [List.any_cons, Bool.or_eq_false_iff] at hs
    have : chk G N sc a e = true ∧ stE e = false ∧ isBor a = false ∧ chks G N sc as es = true := by
      cases a <;> first | (simp [isStar] at hs; done) | (simp only [chks, Bool.and_eq_true, Bool.not_eq_true'] at h; exact ⟨h.1.1.1, h.1.1.2, h.1.2, h.2⟩)
    intro x hx
    rcases List.mem_cons.mp hx with rfl | hx
    · exact this.2.1
    · exact chks_star this.2.2.2 hs.2 x hx
theorem chkA_star {N : List Str} {sc : Scope} : ∀ {bs : List Bool} {as : List Ex} {es : List Expr}, chkA G N sc bs as es = true → ∀ e ∈ es, stE e = false
  | _, [], [], _ => by simp
  | _, [], _ :: _, h => by simp [chkA] at h
  | _, a :: as, [], h => by simp [chkA] at h
  | bs, a :: as, e :: es, h => by
    simp only [chkA, Bool.and_eq_true, Bool.not_eq_true'] at h
    intro x hx
    rcases List.mem_cons.mp hx with rfl | hx
    · exact h.1.1.1.2
    · exact chkA_star h.2 x hx
theorem tup_of {N : List Str} {sc : Scope} {t : Tgt} {tg : Expr} (h : tgtB N sc t tg = true) (ht : isTupT t = true) : ∃ elts kk pos, tg = .Tuple elts kk pos := by
  cases t with
  | one i => simp [isTupT] at ht
  | tup ts => cases tg <;> first | exact ⟨_, _, _, rfl⟩ | (simp [tgtB] at h)
mutual
theorem snd : ∀ {G : Glob} (e : Ex) (X : Cx) (W : XK) (x : Expr), Gd G call ea k W X → chk G X.N X.env.scope e x = true → Ok3 call ea W X e x
  | _, .var i, X, W, x, g, h => by
    simp only [chk] at h
    split at h
    · exact .of (s_var h) rfl fun _ => rfl
    · cases h
  | _, .bor i, X, W, x, g, h => by
    simp only [chk] at h
    split at h
    · exact .of (s_bor h) rfl fun _ => rfl
    · cases h
  | _, .cst d, X, W, x, g, h => by
    simp only [chk] at h
    split at h
    · exact .of (s_cst h) rfl fun _ => rfl
    · simp only [Bool.and_eq_true] at h
      obtain ⟨h1, h2⟩ := h
      split at h2
      · exact .of (s_glb g h1 (by assumption) h2) rfl fun _ => rfl
      · cases h2
    · cases h
  | _, .op1 p a, X, W, x, g, h => by
    simp only [chk] at h
    split at h
    · simp only [Bool.and_eq_true, decide_eq_true_eq] at h
      obtain ⟨rfl, h⟩ := h
      exact .of (s_neg (snd a X W _ g h).pe) rfl fun _ => rfl
    · rcases Bool.or_eq_true_iff.mp h with h | h
      · simp only [Bool.and_eq_true, Bool.or_eq_true, decide_eq_true_eq, Bool.not_eq_true'] at h
        obtain ⟨⟨⟨h1, h2⟩, h3⟩, h4⟩ := h
        exact .of (s_call1 g h1 h2 h4 (snd a X W _ g h3).pe) rfl fun _ => rfl
      · split at h
        · simp only [Bool.and_eq_true, decide_eq_true_eq, Bool.not_eq_true'] at h
          obtain ⟨⟨⟨⟨⟨⟨rfl, h1⟩, h2⟩, h3⟩, h4⟩, h5⟩, h6⟩ := h
          exact .of (s_srtset g h1 h2 h3 h4 h6 (snd a X W _ g h5).pe) rfl fun _ => rfl
        · cases h
    · simp only [Bool.and_eq_true, decide_eq_true_eq, Bool.not_eq_true'] at h
      obtain ⟨⟨⟨⟨⟨h1, h2⟩, h3⟩, h4⟩, h5⟩, h6⟩ := h
      split at h4
      · simp only [Bool.and_eq_true, Bool.or_eq_true, decide_eq_true_eq] at h4
        exact .of (s_isi g h1 h2 h3 h4.1 (by rcases h4.2 with (((z | z) | z) | z) | z <;> simp [z]) h6 (snd a X W _ g h5).pe) rfl fun _ => rfl
      · cases h4
    · simp only [Bool.and_eq_true, decide_eq_true_eq] at h
      obtain ⟨⟨rfl, rfl⟩, h⟩ := h
      exact .of (s_rev (snd a X W _ g h).pe) rfl fun _ => rfl
    · cases h
  | _, .op2 p a b, X, W, x, g, h => by
    simp only [chk] at h
    split at h
    · simp only [Bool.and_eq_true, decide_eq_true_eq] at h
      exact .of (s_bin h.1.1 (snd a X W _ g h.1.2).pe (snd b X W _ g h.2).pe) rfl fun _ => rfl
    · simp only [Bool.and_eq_true, decide_eq_true_eq, Bool.not_eq_true'] at h
      exact .of2 (s_cmp g h.1.1.1 h.1.1.2 (snd a X W _ g h.1.2).pe (snd b X W _ g h.2).pe) (t_cmp g h.1.1.1 h.1.1.2 (snd a X W _ g h.1.2).pe (snd b X W _ g h.2).pe) rfl
    · simp only [Bool.and_eq_true, decide_eq_true_eq] at h
      obtain ⟨⟨⟨rfl, h1⟩, h2⟩, h3⟩ := h
      exact .of (s_idx g h1 (snd a X W _ g h2).pe (snd b X W _ g h3).pe) rfl fun _ => rfl
    · simp only [Bool.and_eq_true, decide_eq_true_eq, Bool.not_eq_true'] at h
      obtain ⟨⟨⟨⟨⟨h1, h2⟩, h3⟩, h4⟩, h5⟩, h6⟩ := h
      exact .of (s_call2 g h1 h2 h5 h6 (snd a X W _ g h3).pe (snd b X W _ g h4).pe) rfl fun _ => rfl
    · cases h
  | _, .slc a lo hi, X, W, x, g, h => by
    simp only [chk] at h
    split at h
    · simp only [Bool.and_eq_true] at h
      obtain ⟨⟨h1, h2⟩, h3⟩ := h
      obtain ⟨p1, p2⟩ := sndO lo X W _ g h2
      obtain ⟨p3, p4⟩ := sndO hi X W _ g h3
      exact .of (s_slc (snd a X W _ g h1).pe p1 p2 p3 p4) rfl fun _ => rfl
    · cases h
  | _, .chain p q a b c, X, W, x, g, h => by
    simp only [chk] at h
    split at h
    · simp only [Bool.and_eq_true, decide_eq_true_eq, Bool.not_eq_true'] at h
      obtain ⟨⟨⟨⟨⟨h1, h2⟩, h3⟩, h4⟩, h5⟩, h6⟩ := h
      obtain ⟨z1, z2⟩ := s_chain (pos := _) g h1 h2 h3 (snd a X W _ g h4).pe (snd b X W _ g h5).pe (snd c X W _ g h6).pe
      exact .of2 z1 z2 rfl
    · cases h
  | _, .nt a, X, W, x, g, h => by
    simp only [chk] at h
    split at h
    · simp only [Bool.and_eq_true] at h
      have z := snd a X W _ g h.1
      exact ⟨s_nt z.pe, fun ht => t_nt (z.pt ht), fun q => by cases q⟩
    · cases h
  | _, .an a b, X, W, x, g, h => by
    simp only [chk] at h
    split at h
    · rename_i a' b' pos
      simp only [Bool.and_eq_true] at h
      have z1 := snd a X W _ g h.1
      have z2 := snd b X W _ g h.2
      have w : tst (.an a b) = true → PW X (.BoolOp .And [a', b'] pos) (tT call ea W (.an a b)) := fun ht => by
        simp only [tst, Bool.and_eq_true] at ht
        exact t_an (z1.pt ht.1) (pw_and1 (z2.pt ht.2))
      exact ⟨s_an z1.pe (pe_one z2.pe), fun ht => (w ht).pt, fun _ ht => w ht⟩
    · rename_i a' b' c' rest pos
      simp only [Bool.and_eq_true] at h
      have z1 := snd a X W _ g h.1
      have z2 := snd b X W _ g h.2
      have w : tst (.an a b) = true → PW X (.BoolOp .And (a' :: b' :: c' :: rest) pos) (tT call ea W (.an a b)) := fun ht => by
        simp only [tst, Bool.and_eq_true] at ht
        refine t_an (z1.pt ht.1) (z2.pw ?_ ht.2)
        cases b <;> first | rfl | (simp [chk] at h; done) | (simp [tst] at ht)
      exact ⟨s_an z1.pe z2.pe, fun ht => (w ht).pt, fun _ ht => w ht⟩
    · cases h
  | _, .orr a b, X, W, x, g, h => by
    simp only [chk] at h
    split at h
    · rename_i a' b' pos
      simp only [Bool.and_eq_true] at h
      have z1 := snd a X W _ g h.1
      have z2 := snd b X W _ g h.2
      have w : tst (.orr a b) = true → PW X (.BoolOp .Or [a', b'] pos) (tT call ea W (.orr a b)) := fun ht => by
        simp only [tst, Bool.and_eq_true] at ht
        exact t_or (z1.pt ht.1) (pw_or1 (z2.pt ht.2))
      exact ⟨s_or z1.pe (pe_one z2.pe), fun ht => (w ht).pt, fun _ ht => w ht⟩
    · rename_i a' b' c' rest pos
      simp only [Bool.and_eq_true] at h
      have z1 := snd a X W _ g h.1
      have z2 := snd b X W _ g h.2
      have w : tst (.orr a b) = true → PW X (.BoolOp .Or (a' :: b' :: c' :: rest) pos) (tT call ea W (.orr a b)) := fun ht => by
        simp only [tst, Bool.and_eq_true] at ht
        refine t_or (z1.pt ht.1) (z2.pw ?_ ht.2)
        cases b <;> first | rfl | (simp [chk] at h; done) | (simp [tst] at ht)
      exact ⟨s_or z1.pe z2.pe, fun ht => (w ht).pt, fun _ ht => w ht⟩
    · cases h
  | _, .ite c a b, X, W, x, g, h => by
    simp only [chk] at h
    split at h
    · simp only [Bool.and_eq_true, Bool.not_eq_true'] at h
      obtain ⟨⟨⟨⟨⟨h0, h1⟩, h2⟩, h3⟩, h4⟩, h5⟩ := h
      exact ⟨s_ite h4 h5 ((snd c X W _ g h1).pt h0) (snd a X W _ g h2).pe (snd b X W _ g h3).pe, fun z => by simp [tst] at z, fun z => by cases z⟩
    · cases h
  | _, .isN a, X, W, x, g, h => by
    simp only [chk] at h
    split at h
    · obtain ⟨z1, z2⟩ := s_isN (snd a X W _ g h).pe
      exact .of2 z1 z2 rfl
    · cases h
  | _, .nN a, X, W, x, g, h => by
    simp only [chk] at h
    split at h
    · obtain ⟨z1, z2⟩ := s_nN (snd a X W _ g h).pe
      exact .of2 z1 z2 rfl
    · cases h
  | _, .tup as, X, W, x, g, h => by
    simp only [chk] at h
    split at h
    · exact .of (s_tup (snds as X W _ g h)) rfl fun _ => rfl
    · cases h
  | _, .lst as, X, W, x, g, h => by
    simp only [chk] at h
    split at h
    · exact .of (s_lst (snds as X W _ g h)) rfl fun _ => rfl
    · cases h
  | _, .star _, X, W, x, g, h => by simp [chk] at h
  | _, .dic0, X, W, x, g, h => by
    simp only [chk] at h
    split at h
    · exact .of s_dic0 rfl fun _ => rfl
    · cases h
  | _, .dic1 a b, X, W, x, g, h => by
    simp only [chk] at h
    split at h
    · simp only [Bool.and_eq_true, Bool.not_eq_true'] at h
      obtain ⟨⟨⟨h1, h2⟩, h3⟩, h4⟩ := h
      exact .of (s_dic1 h3 h4 (snd a X W _ g h1).pe (snd b X W _ g h2).pe) rfl fun _ => rfl
    · cases h
  | _, .comp t it c el, X, W, x, g, h => by
    simp only [chk] at h
    split at h
    · rename_i el' tg it' ifs scope pos
      simp only [Bool.and_eq_true, Bool.not_eq_true'] at h
      obtain ⟨⟨⟨⟨⟨⟨⟨h1, h2⟩, h3⟩, h4⟩, h5⟩, h6⟩, h7⟩, h8⟩ := h
      obtain ⟨b1, b2⟩ := blkB_ok h7
      have hpi := sndI it X W tg it' g h3 (fun z => tup_of h1 (by simpa [z] using h8))
      have pe := pe_lc (pos := pos) g.calm g.nd hpi b1 (g := tG t) (tt := tCo call ea c) (te := tE call ea W0 el)
        (fun s H C cl fp => s_tgt (X := X.blk s H scope (compEnvC scope cl C X.env) fp) g.calm g.nd t tg (fun i hi y hy hc => by
          exfalso
          simp only [List.all_eq_true] at h2
          have z := h2 i hi
          have hy' : X.N[i]? = some y := hy
          rw [hy'] at z
          have hc' : (relS scope X.env.scope).names.lookup y = some .cell := hc
          simp only [lclB, hc'] at z
          cases z) h1)
        (fun s H C cl fp => sndC c (X.blk s H scope (compEnvC scope cl C X.env) fp) ifs (g.blk s H scope _ fp) h4)
        (fun s H C cl fp => (snd el (X.blk s H scope (compEnvC scope cl C X.env) fp) W0 el' (g.blk s H scope _ fp) h5).pe)
        (fun y => by cases it' <;> first | rfl | (exfalso; revert h3; cases it <;> simp [chkI]))
      rw [b2] at pe
      exact .of (PE.imp pe fun σ H Q q => t_comp h6 q) rfl fun _ => rfl
    · cases h
  | G, .call f as, X, W, x, g, h => by
    simp only [chk] at h
    split at h
    · rename_i nm p es pos
      simp only [Bool.and_eq_true, decide_eq_true_eq] at h
      obtain ⟨⟨h1, h2⟩, h3⟩ := h
      exact .of (s_call g h1 h2 (chkA_star h3) (fun e => by
        subst e
        cases as with
        | nil => rfl
        | cons a as => simp [chkA] at h3) (sndA (G.bs f) as X W _ g h3)) rfl fun _ => rfl
    · cases h
  | _, .said f e, X, W, x, g, h => by
    simp only [chk] at h
    split at h
    · rename_i nm p ps a' scope lpos pos
      simp only [Bool.and_eq_true, Bool.not_eq_true', decide_eq_true_eq] at h
      obtain ⟨hax, ⟨⟨⟨h1, h2⟩, h3⟩, h4⟩, h5⟩ := h
      exact .of (g.sd _ _ h2 hax ps a' scope lpos p pos e h1 h3 h5 fun A outer s H E fa c' hr hgu => (snd e (LamX.lamCx X A outer s H E scope fa c') E a' (g.lam hr hgu) h4).pe) rfl fun _ => rfl
    · cases h
  | _, .isx a cs, X, W, x, g, h => by
    simp only [chk] at h
    split at h
    · simp only [Bool.and_eq_true, Bool.not_eq_true', decide_eq_true_eq] at h
      obtain ⟨hax, ⟨⟨⟨⟨⟨h1, h2⟩, h3⟩, h4⟩, h5⟩, h6⟩, h7⟩ := h
      split at h4
      · exact .of (s_isx1 g h1 h2 h3 (of_decide_eq_true h4) h6 h7 hax (snd a X W _ g h5).pe) rfl fun _ => rfl
      · cases h4
    · simp only [Bool.and_eq_true, Bool.not_eq_true', decide_eq_true_eq] at h
      obtain ⟨hax, ⟨⟨⟨⟨⟨⟨h1, h2⟩, h2b⟩, h3⟩, h4⟩, h5⟩, h6⟩, h7⟩ := h
      split at h4
      · simp only [Bool.and_eq_true, decide_eq_true_eq] at h4
        exact .of (s_isx2 g h1 h2 h2b h3 h4.1 h4.2 h6 h7 hax (snd a X W _ g h5).pe) rfl fun _ => rfl
      · cases h4
    · cases h
  | _, .xget a k, X, W, x, g, h => by
    simp only [chk] at h
    split at h
    · simp only [Bool.and_eq_true, decide_eq_true_eq, Bool.not_eq_true'] at h
      obtain ⟨hax, ⟨rfl, h2⟩, h3⟩ := h
      exact .of (s_xget g h3 hax (snd a X W _ g h2).pe) rfl fun _ => rfl
    · simp only [Bool.and_eq_true, decide_eq_true_eq, Bool.not_eq_true'] at h
      obtain ⟨hax, ⟨⟨rfl, h2⟩, h3⟩, h4⟩ := h
      exact .of (s_xgetC g h3 hax (base_call h4) (snd a X W _ g h2).pe) rfl fun _ => rfl
    · cases h
  | _, .mkx cl kw as, X, W, x, g, h => by
    simp only [chk] at h
    split at h
    · simp only [Bool.and_eq_true, decide_eq_true_eq, List.all_eq_true, Bool.not_eq_true'] at h
      obtain ⟨⟨⟨⟨⟨h1, rfl⟩, h2⟩, h3⟩, h4⟩, h5⟩ := h
      exact .of (s_mkx g h1 h2 h3 h4 (snds as X W _ g h5)) rfl fun _ => rfl
    · simp only [Bool.and_eq_true, Bool.or_eq_true, decide_eq_true_eq, List.all_eq_true, Bool.not_eq_true'] at h
      obtain ⟨⟨⟨⟨⟨h1, h2⟩, h3⟩, h4⟩, h5⟩, h6⟩ := h
      exact .of (s_mkxK g h1 h2 h3 h4 (sndK as X W _ g h5 h6)) rfl fun _ => rfl
    · cases h
  | _, .isy w a, X, W, x, g, h => by
    simp only [chk] at h
    split at h
    · simp only [Bool.and_eq_true, decide_eq_true_eq, Bool.not_eq_true'] at h
      obtain ⟨⟨h1, h2⟩, ⟨⟨⟨⟨⟨h3, h4⟩, h5⟩, h6⟩, h7⟩, h8⟩, h9⟩ := h
      exact .of (s_isy g h2 h3 h4 h5 h6 h8 h9 h1 (snd a X W _ g h7).pe) rfl fun _ => rfl
    · cases h
  | _, .isf, X, W, x, g, h => by
    simp only [chk] at h
    split at h
    · simp only [Bool.and_eq_true, decide_eq_true_eq] at h
      obtain ⟨⟨⟨⟨⟨⟨h1, h2⟩, h3⟩, h4⟩, h5⟩, h6⟩, h7⟩ := h
      exact .of (s_isf g h1 h2 h3 h4 h5 h6 h7) rfl fun _ => rfl
    · cases h
  | _, .lstx as, X, W, x, g, h => by
    simp only [chk] at h
    split at h
    · exact .of (s_lstx (snds as X W _ g h)) rfl fun _ => rfl
    · cases h
  | _, .catx a b, X, W, x, g, h => by
    simp only [chk] at h
    split at h
    · simp only [Bool.and_eq_true, decide_eq_true_eq, Bool.not_eq_true'] at h
      obtain ⟨⟨⟨⟨rfl, h1⟩, h2⟩, h3⟩, h4⟩ := h
      exact .of (s_catx h3 h4 (snd a X W _ g h1).pe (snd b X W _ g h2).pe) rfl fun _ => rfl
    · cases h
  | _, .oget a s, X, W, x, g, h => by
    simp only [chk] at h
    split at h
    · simp only [Bool.and_eq_true, decide_eq_true_eq, Bool.not_eq_true'] at h
      obtain ⟨⟨h1, rfl⟩, h3⟩ := h
      exact .of (s_oget g h3 (snd a X W _ g h1).pe) rfl fun _ => rfl
    · cases h
  | _, .tnew, X, W, x, g, h => by
    simp only [chk] at h
    split at h
    · exact .of s_tnew rfl fun _ => rfl
    · cases h
  | _, .tin ng i j, X, W, x, g, h => by
    simp only [chk] at h
    split at h
    · simp only [Bool.and_eq_true, decide_eq_true_eq, Bool.not_eq_true'] at h
      obtain ⟨⟨⟨rfl, h2⟩, h3⟩, h4⟩ := h
      obtain ⟨z1, z2⟩ := s_tin g (ng := ng) h2 h3 h4
      exact .of2 z1 z2 rfl
    · cases h
  | _, .tget j i, X, W, x, g, h => by
    simp only [chk] at h
    split at h
    · simp only [Bool.and_eq_true] at h
      exact .of (s_tget g h.1 h.2) rfl fun _ => rfl
    · cases h
  | _, .comp2 t it t1 it1 c el, X, W, x, g, h => by
    simp only [chk] at h
    split at h
    · rename_i el' tg it' tg1 it1' ifs scope pos
      simp only [Bool.and_eq_true, Bool.not_eq_true'] at h
      obtain ⟨⟨⟨⟨⟨⟨⟨⟨⟨⟨h1, h1b⟩, h2⟩, h3⟩, h3b⟩, h4⟩, h5⟩, h6⟩, h7⟩, h8⟩, h9⟩ := h
      obtain ⟨b1, b2⟩ := blkB_ok h7
      have hpi := sndI it X W tg it' g h3 (fun z => tup_of h1 (by simpa [z] using h8))
      have lcl : ∀ i ∈ tgtIx t ++ tgtIx t1, ∀ y, X.N[i]? = some y → (relS scope X.env.scope).names.lookup y = some .cell → False := fun i hi y hy hc => by
        simp only [List.all_eq_true] at h2
        have z := h2 i hi
        rw [hy] at z
        simp only [lclB, hc] at z
        cases z
      have pe := pe_lc2 (pos := pos) g.calm g.nd hpi b1 (vs1 := tgtIx t1) (by rw [b2]; intro i hi; simp [hi]) (g := tG t) (tt := tYes) (g1 := tG t1) (tt1 := tCo call ea c) (te := tE call ea W0 el)
        (fun s H C cl fp => s_tgt (X := X.blk s H scope (compEnvC scope cl C X.env) fp) g.calm g.nd t tg (fun i hi y hy hc => (lcl i (by simp [hi]) y hy hc).elim) h1)
        (fun s H C cl fp => pts_nil)
        (fun s H C cl fp => sndI it1 (X.blk s H scope (compEnvC scope cl C X.env) fp) W0 tg1 it1' (g.blk s H scope _ fp) h3b (fun z => tup_of h1b (by simpa [z] using h9)))
        (fun s H C cl fp => s_tgt (X := X.blk s H scope (compEnvC scope cl C X.env) fp) g.calm g.nd t1 tg1 (fun i hi y hy hc => (lcl i (by simp [hi]) y hy hc).elim) h1b)
        (fun s H C cl fp => sndC c (X.blk s H scope (compEnvC scope cl C X.env) fp) ifs (g.blk s H scope _ fp) h4)
        (fun s H C cl fp => (snd el (X.blk s H scope (compEnvC scope cl C X.env) fp) W0 el' (g.blk s H scope _ fp) h5).pe)
        (fun y => by cases it' <;> first | rfl | (exfalso; revert h3; cases it <;> simp [chkI]))
        (fun e y => by cases it1' <;> first | rfl | (exfalso; revert h3b; cases it1 <;> simp [chkI]))
      rw [b2] at pe
      exact .of (PE.imp pe fun σ H Q q => t_comp2 h6 q) rfl fun _ => rfl
    · cases h
  | _, .dic2 a b a2 b2, X, W, x, g, h => by
    simp only [chk] at h
    split at h
    · simp only [Bool.and_eq_true, Bool.not_eq_true'] at h
      obtain ⟨⟨⟨⟨⟨⟨⟨h1, h2⟩, h3⟩, h4⟩, h5⟩, h6⟩, h7⟩, h8⟩ := h
      exact .of (s_dic2 h5 h6 h7 h8 (snd a X W _ g h1).pe (snd b X W _ g h2).pe (snd a2 X W _ g h3).pe (snd b2 X W _ g h4).pe) rfl fun _ => rfl
    · cases h
  | _, .get1 a b, X, W, x, g, h => by
    simp only [chk] at h
    split at h
    · simp only [Bool.and_eq_true, Bool.not_eq_true', decide_eq_true_eq] at h
      obtain ⟨⟨⟨⟨⟨rfl, h2⟩, h3⟩, h4⟩, h5⟩, h6⟩ := h
      exact .of (s_get1 g h2 h5 h6 (snd a X W _ g h3).pe (snd b X W _ g h4).pe) rfl fun _ => rfl
    · cases h
  | _, .getd a b d, X, W, x, g, h => by
    simp only [chk] at h
    split at h
    · simp only [Bool.and_eq_true, Bool.not_eq_true', decide_eq_true_eq] at h
      obtain ⟨⟨⟨⟨⟨⟨⟨⟨⟨rfl, h2⟩, h0⟩, h3⟩, h4⟩, h5⟩, h6⟩, h7⟩, h8⟩, h9⟩ := h
      exact .of (s_getd g h0 h2 h6 h7 h8 h9 (snd a X W _ g h3).pe (snd b X W _ g h4).pe (snd d X W _ g h5).pe) rfl fun _ => rfl
    · cases h
  | _, .mth m a b, X, W, x, g, h => by
    simp only [chk] at h
    split at h
    · simp only [Bool.and_eq_true, Bool.not_eq_true', decide_eq_true_eq] at h
      obtain ⟨⟨⟨⟨⟨rfl, h2⟩, h3⟩, h4⟩, h5⟩, h6⟩ := h
      exact .of (s_mth g h2 h3 h4 (snd a X W _ g h5).pe (snd b X W _ g h6).pe) rfl fun _ => rfl
    · cases h
  | _, .repl _ _ _, X, W, x, g, h => by simp [chk] at h
  | _, .fst as, X, W, x, g, h => by
    simp only [chk] at h
    split at h
    · obtain ⟨z1, z2⟩ := sndF as X W _ g h
      exact .of (s_fst z2 z1) rfl fun _ => rfl
    · cases h
  | _, .tint a, X, W, x, g, h => by
    simp only [chk] at h
    split at h
    · simp only [Bool.and_eq_true, Bool.not_eq_true', decide_eq_true_eq] at h
      obtain ⟨⟨⟨h1, h2⟩, h3⟩, h4⟩ := h
      exact .of (s_tint g h1 h2 h4 (snd a X W _ g h3).pe) rfl fun _ => rfl
    · cases h
  | _, .chrs a, X, W, x, g, h => by
    simp only [chk] at h
    split at h
    · simp only [Bool.and_eq_true, Bool.not_eq_true', decide_eq_true_eq] at h
      obtain ⟨⟨⟨h1, h2⟩, h3⟩, h4⟩ := h
      exact .of (s_chrs g h1 h2 h4 (snd a X W _ g h3).pe) rfl fun _ => rfl
    · cases h
  | _, .compz i a b c el, X, W, x, g, h => by
    simp only [chk] at h
    split at h
    · rename_i el' y yp f fp a' b' zp ifs scope pos
      simp only [Bool.and_eq_true, Bool.not_eq_true', decide_eq_true_eq] at h
      obtain ⟨⟨⟨⟨⟨⟨⟨⟨⟨⟨⟨⟨⟨h1, h2⟩, h3⟩, h4⟩, h5⟩, h6⟩, h7⟩, h8⟩, h9⟩, h10⟩, h11⟩, h12⟩, h13⟩, h14⟩ := h
      obtain ⟨b1, b2⟩ := blkB_ok h14
      exact .of (s_compz g h3 h4 h7 h8 h9 h10 h13 (snd a X W _ g h5).pe (snd b X W _ g h6).pe b1 b2
        (fun s H C cl fp => s_tgt (X := X.blk s H scope (compEnvC scope cl C X.env) fp) g.calm g.nd (.one i) (.Name y yp) (fun j hj z hz hc => by
          exfalso
          simp only [tgtIx, List.mem_singleton] at hj
          subst hj
          have hz' : X.N[j]? = some z := hz
          rw [hz'] at h2
          have hc' : (relS scope X.env.scope).names.lookup z = some .cell := hc
          simp only [lclB, hc'] at h2
          cases h2) h1)
        (fun s H C cl fp => sndC c (X.blk s H scope (compEnvC scope cl C X.env) fp) ifs (g.blk s H scope _ fp) h11)
        (fun s H C cl fp => (snd el (X.blk s H scope (compEnvC scope cl C X.env) fp) W0 el' (g.blk s H scope _ fp) h12).pe)) rfl fun _ => rfl
    · cases h
  | _, .stuck, X, W, x, g, h => ⟨⟨fun ps s σ H Q I ⟨c, rel, q⟩ => by simp only [ev] at q; exact q.elim⟩, fun z => by simp [tst] at z, fun z => by cases z⟩
  | _, .kget x0 kvs k0, X, W, x, g, h => by
    simp only [chk] at h
    split at h
    · simp only [Bool.and_eq_true, Bool.not_eq_true', decide_eq_true_eq] at h
      obtain ⟨⟨⟨⟨⟨⟨rfl, h2⟩, rfl⟩, h4⟩, h5⟩, h6⟩, h7⟩ := h
      exact .of (s_kget g h2 h5 h4 h6 (snd k0 X W _ g h7).pe) rfl fun _ => rfl
    · cases h
  | _, .kcpy x0 kvs, X, W, x, g, h => by
    simp only [chk] at h
    split at h
    · simp only [Bool.and_eq_true, decide_eq_true_eq] at h
      obtain ⟨⟨⟨⟨rfl, h2⟩, h3⟩, h4⟩, h5⟩ := h
      exact .of (s_kcpy g h2 h3 h4 h5) rfl fun _ => rfl
    · cases h
  | _, .zlst a b, X, W, x, g, h => by
    simp only [chk] at h
    split at h
    · simp only [Bool.and_eq_true, Bool.not_eq_true', decide_eq_true_eq] at h
      obtain ⟨⟨⟨⟨⟨⟨⟨⟨⟨h1, h2⟩, h3⟩, h4⟩, h5⟩, h6⟩, h7⟩, h8⟩, h9⟩, h10⟩ := h
      exact .of (s_zlst g h1 h2 h3 h4 h7 h8 h9 h10 (snd a X W _ g h5).pe (snd b X W _ g h6).pe) rfl fun _ => rfl
    · cases h
  | _, .zdic a b, X, W, x, g, h => by
    simp only [chk] at h
    split at h
    · simp only [Bool.and_eq_true, Bool.not_eq_true', decide_eq_true_eq] at h
      obtain ⟨⟨⟨⟨⟨⟨⟨⟨⟨h1, h2⟩, h3⟩, h4⟩, h5⟩, h6⟩, h7⟩, h8⟩, h9⟩, h10⟩ := h
      exact .of (s_zdic g h1 h2 h3 h4 h7 h8 h9 h10 (snd a X W _ g h5).pe (snd b X W _ g h6).pe) rfl fun _ => rfl
    · cases h
  | _, .isB b a, X, W, x, g, h => by
    simp only [chk] at h
    split at h
    · simp only [Bool.and_eq_true, decide_eq_true_eq] at h
      obtain ⟨z1, z2⟩ := s_isB h.1 (snd a X W _ g h.2).pe
      exact .of2 z1 z2 rfl
    · cases h
  | _, .begin a, X, W, x, g, h => by
    simp only [chk] at h
    split at h
    · simp only [Bool.and_eq_true, decide_eq_true_eq, Bool.not_eq_true'] at h
      obtain ⟨⟨⟨⟨⟨⟨⟨⟨⟨rfl, rfl⟩, rfl⟩, rfl⟩, rfl⟩, rfl⟩, rfl⟩, rfl⟩, h9⟩, h10⟩ := h
      exact .of (s_begin h10 (snd a X W _ g h9).pe) rfl fun _ => rfl
    · cases h
theorem sndF : ∀ {G : Glob} (as : List Ex) (X : Cx) (W : XK) (es : List Expr), Gd G call ea k W X → chkF G X.N X.env.scope as es = true → PJ X es (as.map fun a => tFmt (tE call ea W a)) ∧ ∀ a ∈ as, isStar a = false ∧ isBor a = false
  | _, [], X, W, es, g, h => by
    simp only [chkF, List.isEmpty_iff] at h
    subst h
    exact ⟨.nil, by simp⟩
  | _, a :: as, X, W, es, g, h => by
    simp only [chkF] at h
    split at h
    · simp only [Bool.and_eq_true, Bool.not_eq_true', decide_eq_true_eq] at h
      obtain ⟨⟨⟨⟨rfl, h2⟩, h3⟩, h4⟩, h5⟩ := h
      obtain ⟨z1, z2⟩ := sndF as X W _ g h5
      refine ⟨.cons (pe_fmt (snd a X W _ g h2).pe) z1, fun y hy => ?_⟩
      rcases List.mem_cons.mp hy with rfl | hy
      · exact ⟨h4, h3⟩
      · exact z2 y hy
    · cases h
theorem snds : ∀ {G : Glob} (as : List Ex) (X : Cx) (W : XK) (es : List Expr), Gd G call ea k W X → chks G X.N X.env.scope as es = true → PA X es (tA call ea W as)
  | _, [], X, W, es, g, h => by
    simp only [chks, List.isEmpty_iff] at h
    subst h
    exact s_nil
  | G, a :: as, X, W, es, g, h => by
    cases hs : isStar a with
    | true =>
      cases a <;> simp only [isStar] at hs <;> try contradiction
      rename_i a
      simp only [chks] at h
      split at h
      · simp only [Bool.and_eq_true] at h
        exact s_star (snd a X W _ g h.1).pe (snds as X W _ g h.2)
      · cases h
    | false =>
      cases es with
      | nil => cases a <;> simp [chks] at h
      | cons e es =>
        have : chk G X.N X.env.scope a e = true ∧ stE e = false ∧ isBor a = false ∧ chks G X.N X.env.scope as es = true := by
          cases a <;> first | (simp [isStar] at hs; done) | (simp only [chks, Bool.and_eq_true, Bool.not_eq_true'] at h; exact ⟨h.1.1.1, h.1.1.2, h.1.2, h.2⟩)
        obtain ⟨h1, h2, h3, h4⟩ := this
        exact s_cons hs h3 h2 (snd a X W _ g h1).pe (snds as X W _ g h4)
theorem sndK : ∀ {G : Glob} (as : List Ex) (X : Cx) (W : XK) (kws : List Keyword), Gd G call ea k W X → (∀ y ∈ kws.map (·.value), stE y = false) → chks G X.N X.env.scope as (kws.map (·.value)) = true → PK X kws (tA call ea W as)
  | _, [], X, W, kws, g, hs, h => by
    cases kws with
    | nil => exact s_knil
    | cons _ _ => simp [chks] at h
  | G, a :: as, X, W, kws, g, hs, h => by
    cases kws with
    | nil => cases a <;> simp [chks] at h
    | cons kw kws =>
      have hst : isStar a = false := by
        cases a <;> first | rfl | skip
        simp only [List.map_cons, chks] at h
        have := hs kw.value (by simp)
        generalize kw.value = v at *
        cases v <;> first | (simp [stE] at this; done) | (simp at h)
      have q : chk G X.N X.env.scope a kw.value = true ∧ stE kw.value = false ∧ isBor a = false ∧ chks G X.N X.env.scope as (kws.map (·.value)) = true := by
        simp only [List.map_cons] at h
        cases a <;> first | (simp [isStar] at hst; done) | (simp only [chks, Bool.and_eq_true, Bool.not_eq_true'] at h; exact ⟨h.1.1.1, h.1.1.2, h.1.2, h.2⟩)
      exact s_kcons hst q.2.2.1 (snd a X W _ g q.1).pe (sndK as X W kws g (fun y hy => hs y (by simp at hy ⊢; exact .inr hy)) q.2.2.2)
theorem sndA : ∀ {G : Glob} (bs : List Bool) (as : List Ex) (X : Cx) (W : XK) (es : List Expr), Gd G call ea k W X → chkA G X.N X.env.scope bs as es = true → PA X es (tB call ea W bs as)
  | _, bs, [], X, W, es, g, h => by
    simp only [chkA, List.isEmpty_iff] at h
    subst h
    exact b_nil
  | _, bs, a :: as, X, W, es, g, h => by
    simp only [chkA] at h
    split at h
    · simp only [Bool.and_eq_true, Bool.or_eq_true, Bool.not_eq_true'] at h
      obtain ⟨⟨⟨⟨h1, h2⟩, h3⟩, h4⟩, h5⟩ := h
      exact b_cons h3 (fun z => h4.elim (fun q => by rw [q] at z; cases z) id) h2 (snd a X W _ g h1).pe (sndA bs.tail as X W _ g h5)
    · cases h
theorem sndO : ∀ {G : Glob} (o : Option Ex) (X : Cx) (W : XK) (x : Option Expr), Gd G call ea k W X → chkO G X.N X.env.scope o x = true → (∀ b b', o = some b → x = some b' → PE X b' (tE call ea W b)) ∧ o.isSome = x.isSome
  | _, none, X, W, x, g, h => ⟨fun _ _ e => (by cases e), (by cases x <;> simp_all [chkO])⟩
  | _, some a, X, W, x, g, h => by
    simp only [chkO] at h
    split at h
    · exact ⟨fun b b' e e' => by cases e; cases e'; exact (snd a X W _ g h).pe, rfl⟩
    · cases h
theorem sndC : ∀ {G : Glob} (o : Option Ex) (X : Cx) (x : List Expr), Gd G call ea k W0 X → chkC G X.N X.env.scope o x = true → PTs X x (tCo call ea o)
  | _, none, X, x, g, h => by
    simp only [chkC, List.isEmpty_iff] at h
    subst h
    exact pts_nil
  | _, some a, X, x, g, h => by
    simp only [chkC] at h
    split at h
    · simp only [Bool.and_eq_true] at h
      exact pts_one ((snd a X W0 _ g h.2).pt h.1)
    · cases h
theorem sndI : ∀ {G : Glob} (it : It) (X : Cx) (W : XK) (tg : Expr) (x : Expr), Gd G call ea k W X → chkI G X.N X.env.scope it x = true → (itT it = true → ∃ elts kk pos, tg = .Tuple elts kk pos) → PI X tg x (tI call ea W it)
  | _, .seq e, X, W, tg, x, g, h, _ => by
    simp only [chkI, Bool.and_eq_true, Bool.not_eq_true'] at h
    exact s_seq h.1.2 (snd e X W _ g h.1.1).pe
  | _, .rng1 a, X, W, tg, x, g, h, _ => by
    simp only [chkI] at h
    split at h
    · simp only [Bool.and_eq_true, decide_eq_true_eq, Bool.not_eq_true'] at h
      exact s_rng1 g h.1.1.1 h.1.1.2 h.2 (snd a X W _ g h.1.2).pe
    · cases h
  | _, .rng2 a b, X, W, tg, x, g, h, _ => by
    simp only [chkI] at h
    split at h
    · simp only [Bool.and_eq_true, decide_eq_true_eq, Bool.not_eq_true'] at h
      obtain ⟨⟨⟨⟨⟨h1, h2⟩, h3⟩, h4⟩, h5⟩, h6⟩ := h
      exact s_rng2 g h1 h2 h5 h6 (snd a X W _ g h3).pe (snd b X W _ g h4).pe
    · cases h
  | _, .enum a, X, W, tg, x, g, h, ht => by
    simp only [chkI] at h
    obtain ⟨elts, kk, tpos, rfl⟩ := ht rfl
    split at h
    · simp only [Bool.and_eq_true, decide_eq_true_eq, Bool.not_eq_true'] at h
      obtain ⟨⟨⟨⟨h1, h2⟩, h3⟩, h4⟩, h5⟩ := h
      exact s_enum g h1 h2 h4 h5 (snd a X W _ g h3).pe
    · cases h
  | _, .zip a b, X, W, tg, x, g, h, ht => by
    simp only [chkI] at h
    obtain ⟨elts, kk, tpos, rfl⟩ := ht rfl
    split at h
    · simp only [Bool.and_eq_true, decide_eq_true_eq, Bool.not_eq_true'] at h
      obtain ⟨⟨⟨⟨⟨⟨⟨h1, h2⟩, h3⟩, h4⟩, h5⟩, h6⟩, h7⟩, h8⟩ := h
      exact s_zip g h1 h2 h5 h6 h7 h8 (snd a X W _ g h3).pe (snd b X W _ g h4).pe
    · cases h
  | _, .rng3 a b c, X, W, tg, x, g, h, _ => by
    simp only [chkI] at h
    split at h
    · simp only [Bool.and_eq_true, decide_eq_true_eq, Bool.not_eq_true'] at h
      obtain ⟨⟨⟨⟨⟨⟨⟨h1, h2⟩, h3⟩, h4⟩, h5⟩, h6⟩, h7⟩, h8⟩ := h
      exact s_rng3 g h1 h2 h6 h7 h8 (snd a X W _ g h3).pe (snd b X W _ g h4).pe (snd c X W _ g h5).pe
    · cases h
  | _, .chars e, X, W, tg, x, g, h, _ => by
    simp only [chkI, Bool.and_eq_true, Bool.not_eq_true'] at h
    exact s_chars h.1.2 (snd e X W _ g h.1.1).pe
end
end
end FC
end
section
set_option Elab.async false
set_option linter.all false
set_option maxRecDepth 100000
set_option maxHeartbeats 4000000
namespace FC
open PySem L2 PyProof.Rows
variable [EA]
structure RelS (c0 : Cfg) (H0 : Hp) (c : Cfg) (σ : L2.St) (H : Hp) : Prop where
  rel : Rel c σ H
  stp : Step c0 H0 c H
  own : ∀ (i : Nat) (d : PyData) (a : Addr), c.env[i]? = some (.m d) → σ[i]? = some (some (.ref a)) → H0 a = none
  bor : ∀ (i : Nat) (d : PyData) (a : Addr), c.env[i]? = some (.b d) → σ[i]? = some (some (.ref a)) → H0 a ≠ none
section
variable {c0 c c' : Cfg} {H0 H H' : Hp} {σ : L2.St} {D : Addr} {o : HO}
theorem RelS.step (r : RelS c0 H0 c σ H) (s : Step c H c' H') (e : c'.env = c.env) : RelS c0 H0 c' σ H' :=
  ⟨r.rel.step s e, r.stp.trans s, fun i d a h => r.own i d a (by rw [← e]; exact h), fun i d a h => r.bor i d a (by rw [← e]; exact h)⟩
theorem RelS.setv (r : RelS c0 H0 c σ H) {i : Nat} {v : V} {pv : PV} (h : Rpv H c.fz c.om v pv) (hi : i < c.env.length) : RelS c0 H0 { c with env := c.env.set i (.v pv) } (σ.set i (some v)) H := by
  refine ⟨r.rel.setv h hi, r.stp.env _, fun j d a h1 h2 => ?_, fun j d a h1 h2 => ?_⟩
  · rcases get_set h1 with ⟨rfl, e⟩ | ⟨n1, h1⟩
    · cases e
    · rw [List.getElem?_set_ne (Ne.symm n1)] at h2
      exact r.own j d a h1 h2
  · rcases get_set h1 with ⟨rfl, e⟩ | ⟨n1, h1⟩
    · cases e
    · rw [List.getElem?_set_ne (Ne.symm n1)] at h2
      exact r.bor j d a h1 h2
theorem RelS.setm (r : RelS c0 H0 c σ H) {i : Nat} {d : PyData} (nf : ¬ c.fz D) (no : D ∉ c.om) (h0 : H0 D = none) (ho : ownRp H c.fz D d) (hne : ∀ (j : Nat) (d' : PyData), c.env[j]? = some (Sl.m d') → σ[j]? ≠ some (some (V.ref D))) (hi : i < c.env.length) :
    RelS c0 H0 { c with env := c.env.set i (.m d) } (σ.set i (some (.ref D))) H := by
  have hs : i < σ.length := by rw [r.rel.len]; exact hi
  refine ⟨⟨r.rel.wf.env _, by simp [r.rel.len], fun j sl h => ?_, fun j j' d d' a h1 h2 h3 h4 => ?_⟩, r.stp.env _, fun j d a h1 h2 => ?_, fun j d a h1 h2 => ?_⟩
  · rcases get_set h with ⟨rfl, rfl⟩ | ⟨hne, h⟩
    · exact ⟨D, List.getElem?_set_self hs, nf, no, ho⟩
    · have := r.rel.slot j sl h
      rw [List.getElem?_set_ne (Ne.symm hne)]
      exact this.env _
  · rcases get_set h1 with ⟨e1, e⟩ | ⟨n1, h1⟩
    · rcases get_set h2 with ⟨e2, e'⟩ | ⟨n2, g2⟩
      · rw [e1, e2]
      · rw [e1, List.getElem?_set_self hs] at h3
        rw [List.getElem?_set_ne (Ne.symm n2)] at h4
        cases h3
        exact absurd h4 (hne j' d' g2)
    · rcases get_set h2 with ⟨e2, e'⟩ | ⟨n2, h2⟩
      · rw [e2, List.getElem?_set_self hs] at h4
        rw [List.getElem?_set_ne (Ne.symm n1)] at h3
        cases h4
        exact absurd h3 (hne j d h1)
      · rw [List.getElem?_set_ne (Ne.symm n1)] at h3
        rw [List.getElem?_set_ne (Ne.symm n2)] at h4
        exact r.rel.dif j j' d d' a h1 h2 h3 h4
  · rcases get_set h1 with ⟨rfl, e⟩ | ⟨n1, h1⟩
    · rw [List.getElem?_set_self hs] at h2
      cases h2
      exact h0
    · rw [List.getElem?_set_ne (Ne.symm n1)] at h2
      exact r.own j d a h1 h2
  · rcases get_set h1 with ⟨rfl, e⟩ | ⟨n1, h1⟩
    · cases e
    · rw [List.getElem?_set_ne (Ne.symm n1)] at h2
      exact r.bor j d a h1 h2
theorem ownRp.isOwn {fz : Addr → Prop} {d : PyData} (h : ownRp H fz D d) : OwnO (H D) := by
  cases d with
  | list ds => obtain ⟨xs, e, _⟩ := h; rw [e]; trivial
  | dict es => obtain ⟨xs, e, _⟩ := h; rw [e]; trivial
  | _ => exact h.elim
theorem ownRp.keepK {fz fz' : Addr → Prop} {d : PyData} (k : Kp H H' fz fz') (e : H' D = H D) (h : ownRp H fz D d) : ownRp H' fz' D d := by
  cases d with
  | list ds => obtain ⟨xs, e1, q⟩ := h; exact ⟨xs, by rw [e]; exact e1, RpA.keep k q⟩
  | dict es => obtain ⟨xs, e1, q⟩ := h; exact ⟨xs, by rw [e]; exact e1, RpK.keep k q⟩
  | _ => exact h.elim
theorem RelS.mut (r : RelS c0 H0 c σ H) {i : Nat} {d d' : PyData} (hi : c.env[i]? = some (.m d)) (ha : σ[i]? = some (some (.ref D))) (ho : ownRp (upd H D o) c.fz D d') :
    RelS c0 H0 { c with env := c.env.set i (.m d') } σ (upd H D o) ∧ Kp H (upd H D o) c.fz c.fz := by
  obtain ⟨a, e, nf, no, hr⟩ := r.rel.slot i _ hi
  rw [ha] at e
  cases e
  have hO := hr.isOwn
  have h0 := r.own i d D hi ha
  have kp : Kp H (upd H D o) c.fz c.fz := Kp.mut hO nf
  have hl : i < c.env.length := (List.getElem?_eq_some_iff.mp hi).1
  refine ⟨⟨⟨(r.rel.wf.mut hO nf no r.rel.wf).env _, by simp [r.rel.len], fun j sl h => ?_, fun j j' d1 d2 a h1 h2 h3 h4 => ?_⟩, (r.stp.mut h0 hO nf no).env _, fun j d1 a h1 h2 => ?_, fun j d1 a h1 h2 => ?_⟩, kp⟩
  · rcases get_set h with ⟨rfl, rfl⟩ | ⟨hne, h⟩
    · exact ⟨D, ha, nf, no, ho⟩
    · have q := r.rel.slot j sl h
      cases sl with
      | un => trivial
      | v pv =>
        obtain ⟨v, e1, e2⟩ := q
        refine ⟨v, e1, ?_⟩
        cases pv with
        | d x => exact Rp.keep kp e2
        | o n => exact e2
        | s ns =>
          obtain ⟨a, o', e3, e4⟩ := e2
          exact ⟨a, o', e3, by rw [upd_ne (fun z => by rw [z] at e4; rw [e4] at hO; exact hO)]; exact e4⟩
        | x cl ds =>
          obtain ⟨a, dx, ws, e3, e4, e5, e6, e7⟩ := e2
          exact ⟨a, dx, ws, e3, by rw [upd_ne (fun z => by rw [z] at e4; rw [e4] at hO; exact hO)]; exact e4, by rw [upd_ne (fun z => by rw [z] at e5; rw [e5] at hO; exact hO)]; exact e5, e6, RpA.keep kp e7⟩
        | xs es =>
          obtain ⟨a, vs, e3, e4, e5, e6⟩ := e2
          exact ⟨a, vs, e3, e4, kp.lst a vs e4 e5, e6.keep kp⟩
      | m d1 =>
        obtain ⟨a, e1, nf1, no1, hr1⟩ := q
        have had : a ≠ D := fun z => hne (r.rel.dif j i d1 d D h hi (by rw [e1, z]) ha)
        exact ⟨a, e1, nf1, no1, hr1.keepK kp (upd_ne had)⟩
      | b d1 =>
        obtain ⟨v, e1, e2⟩ := q
        refine ⟨v, e1, ?_⟩
        rcases e2 with e2 | ⟨a, e3, no1, hr1⟩
        · exact .inl (Rp.keep kp e2)
        · have had : a ≠ D := fun z => r.bor j d1 a h (by rw [e1, e3]) (by rw [z]; exact h0)
          exact .inr ⟨a, e3, no1, hr1.keepK kp (upd_ne had)⟩
  · have f : ∀ {j : Nat} {d1 : PyData}, (c.env.set i (.m d'))[j]? = some (.m d1) → ∃ d2, c.env[j]? = some (.m d2) := fun {j d1} h => by
      rcases get_set h with ⟨rfl, e⟩ | ⟨_, h⟩
      · exact ⟨d, hi⟩
      · exact ⟨d1, h⟩
    obtain ⟨d3, g1⟩ := f h1
    obtain ⟨d4, g2⟩ := f h2
    exact r.rel.dif j j' d3 d4 a g1 g2 h3 h4
  · rcases get_set h1 with ⟨rfl, e⟩ | ⟨n1, h1⟩
    · rw [ha] at h2
      cases h2
      exact h0
    · exact r.own j d1 a h1 h2
  · rcases get_set h1 with ⟨rfl, e⟩ | ⟨n1, h1⟩
    · cases e
    · exact r.bor j d1 a h1 h2
theorem RelS.frz (r : RelS c0 H0 c σ H) {i : Nat} {d : PyData} (hi : c.env[i]? = some (.m d)) : ∃ D, RelS c0 H0 { c.fr D with env := c.env.set i (.v (.d d)) } σ H ∧ Kp H H c.fz (c.fr D).fz := by
  obtain ⟨D, ha, nf, no, hr⟩ := r.rel.slot i _ hi
  have h0 := r.own i d D hi ha
  have kp : Kp H H c.fz (c.fr D).fz := ⟨fun _ h => .inl h, fun _ _ _ h => h, fun _ _ h => h, fun _ _ _ h => h, fun _ _ _ h => h, fun _ _ h => h⟩
  have hl : i < c.env.length := (List.getElem?_eq_some_iff.mp hi).1
  refine ⟨D, ⟨⟨(r.rel.wf.fr hr.tracked no).env _, by simp [r.rel.len, Cfg.fr], fun j sl h => ?_, fun j j' d1 d2 a h1 h2 h3 h4 => ?_⟩, (r.stp.fr h0 hr.tracked no).env _, fun j d1 a h1 h2 => ?_, fun j d1 a h1 h2 => ?_⟩, kp⟩
  · rcases get_set h with ⟨rfl, rfl⟩ | ⟨hne, h⟩
    · exact ⟨.ref D, ha, own_rp hr⟩
    · have q := r.rel.slot j sl h
      cases sl with
      | un => trivial
      | v pv =>
        obtain ⟨v, e1, e2⟩ := q
        refine ⟨v, e1, ?_⟩
        cases pv with
        | d x => exact Rp.keep kp e2
        | o n => exact e2
        | s ns => exact e2
        | x cl ds =>
          obtain ⟨a, dx, ws, e3, e4, e5, e6, e7⟩ := e2
          exact ⟨a, dx, ws, e3, e4, e5, e6, RpA.keep kp e7⟩
        | xs es =>
          obtain ⟨a, vs, e3, e4, e5, e6⟩ := e2
          exact ⟨a, vs, e3, .inl e4, e5, e6.keep kp⟩
      | m d1 =>
        obtain ⟨a, e1, nf1, no1, hr1⟩ := q
        have had : a ≠ D := fun z => hne (r.rel.dif j i d1 d D h hi (by rw [e1, z]) ha)
        exact ⟨a, e1, fun z => z.elim nf1 had, no1, hr1.keepK kp rfl⟩
      | b d1 =>
        obtain ⟨v, e1, e2⟩ := q
        refine ⟨v, e1, ?_⟩
        rcases e2 with e2 | ⟨a, e3, no1, hr1⟩
        · exact .inl (Rp.keep kp e2)
        · exact .inr ⟨a, e3, no1, hr1.keepK kp rfl⟩
  · rcases get_set h1 with ⟨rfl, e⟩ | ⟨_, h1⟩
    · cases e
    · rcases get_set h2 with ⟨rfl, e⟩ | ⟨_, h2⟩
      · cases e
      · exact r.rel.dif j j' d1 d2 a h1 h2 h3 h4
  · rcases get_set h1 with ⟨rfl, e⟩ | ⟨n1, h1⟩
    · cases e
    · exact r.own j d1 a h1 h2
  · rcases get_set h1 with ⟨rfl, e⟩ | ⟨n1, h1⟩
    · cases e
    · exact r.bor j d1 a h1 h2
theorem step_obj (w : WF H c) {n : Nat} {a : Addr} {kvs kvs' : List (PyData × PyData)} {vs vs' : List (Key × V)} (hn : c.om[n]? = some a) (hk : c.os[n]? = some (.dct kvs)) (e : H a = some (.dK vs)) (r : RpK H c.fz vs' kvs') :
    Step c H { c with os := c.os.set n (.dct kvs') } (upd H a (.dK vs')) ∧ Kp H (upd H a (.dK vs')) c.fz c.fz := by
  have ha : a ∈ c.om := List.mem_of_getElem? hn
  have nf : ¬ c.fz a := fun z => w.sep a z ha
  have hO : OwnO (H a) := by rw [e]; trivial
  have kp : Kp H (upd H a (.dK vs')) c.fz c.fz := Kp.mut hO nf
  have inj : ∀ m b, c.om[m]? = some b → b = a → m = n := fun m b hm hb => by
    exact (List.getElem?_inj (List.getElem?_eq_some_iff.mp hm).1 w.nd).mp (by rw [hm, hn, hb])
  have hl : n < c.os.length := (List.getElem?_eq_some_iff.mp hk).1
  refine ⟨⟨⟨w.nd, by simp [w.len], fun m b ob h1 h2 => ?_, w.sep, fun b hb => ?_, ?_, tabs_keep (fun b ps hb => by rw [upd_ne (fun z => by rw [z, e] at hb; cases hb)]; exact hb) (fun b ps hb => by rw [upd_ne (fun z => by rw [z, e] at hb; cases hb)]; exact hb) w.tab⟩, fun _ h => h, fun _ h => .inl h, ⟨[], by simp, fun _ h => absurd h (by simp)⟩, fun b ob hb hn' _ => ?_, fun b ps hb => ?_⟩, kp⟩
  · rcases get_set h2 with ⟨rfl, rfl⟩ | ⟨hne, h2⟩
    · rw [hn] at h1
      cases h1
      exact ⟨vs', upd_same, RpK.keep kp r⟩
    · have hba : b ≠ a := fun z => hne (inj m b h1 z)
      have q := w.obj m b ob h1 h2
      exact objOk.keep kp (fun u e1 => by rw [upd_ne hba]; exact e1) q
  · have : b ≠ a := fun z => nf (by rw [← z]; exact hb)
    rw [upd_ne this]
    exact w.dom b hb
  · obtain ⟨φ, e1⟩ := w.sm
    refine ⟨φ, ?_⟩
    rw [upd_ne (fun z => by rw [← z, e1] at e; cases e)]
    exact e1
  · rw [upd_ne (fun z => hn' (by rw [z]; exact ha))]
    exact hb
  · refine ⟨ps, ?_⟩
    rw [upd_ne (fun z => by rw [z, e] at hb; cases hb)]
    exact hb
end
def PoS (ea : Nat → Addr) (W : XK) (c0 : Cfg) (H0 : Hp) (c : Cfg) (H : Hp) (r : SR) (D : Ends) : Prop :=
  match r with
  | .nx env os => ∀ (σ' : L2.St) (H' : Hp) (c' : Cfg), RelS c0 H0 c' σ' H' → c'.env = env → c'.os = os → Kp H H' c.fz c'.fz → D.nx σ' H'
  | .rt v os => ∀ (x : V) (H' : Hp) (c' : Cfg), Step c0 H0 c' H' → c'.os = os → Rpv H' c'.fz c'.om x v → D.rt x H'
  | .er ex os => ∀ (cls : Value) (d : Option Addr) (H' : Hp) (c' : Cfg), Step c0 H0 c' H' → c'.os = os → RpX ea c' H' cls d ex → W cls d H'
  | .st => False
def tS (call : CallT) (ea : Nat → Addr) (W : XK) (c0 : Cfg) (H0 : Hp) (s : S) : TS := fun D σ H => ∃ c, RelS c0 H0 c σ H ∧ PoS ea W c0 H0 c H (ex call s c.env c.os) D
section
variable {call : CallT} {ea : Nat → Addr} {W : XK} {c0 c c1 : Cfg} {H0 H H1 : Hp} {σ : L2.St} {D : Ends}
theorem PoS.after {r : SR} (kp : Kp H H1 c.fz c1.fz) (h : PoS ea W c0 H0 c H r D) : PoS ea W c0 H0 c1 H1 r D := by
  cases r with
  | nx env os => exact fun σ' H' c' rs e o k => h σ' H' c' rs e o (kp.trans k)
  | rt v os => exact h
  | er ex os => exact h
  | st => exact h
theorem tS.val {e : Ex} {f : PV → Objs → SR} (rs : RelS c0 H0 c σ H) (h : PoS ea W c0 H0 c H ((ev call e c.env c.os).sp f) D) {Q' : VK}
    (hk : ∀ v os x H' c', Step c H c' H' → c'.env = c.env → c'.os = os → RelS c0 H0 c' σ H' → Kp H H' c.fz c'.fz → RvB (isBor e) c' H' x v → PoS ea W c0 H0 c' H' (f v os) D → Q' x H') : tE call ea W e σ H Q' := by
  refine ⟨c, rs.rel, ?_⟩
  cases hv : ev call e c.env c.os with
  | ok v os =>
    rw [hv] at h
    intro x H' c' s e1 o r
    have kp := s.kp rs.rel.wf
    exact hk v os x H' c' s e1 o (rs.step s e1) kp r (PoS.after kp h)
  | er ex os =>
    rw [hv] at h
    exact fun cls d H' c' s e o r => h cls d H' c' (rs.stp.trans s) o r
  | st => rw [hv] at h; exact h
theorem tS.dat {e : Ex} {f : PyData → Objs → SR} (rs : RelS c0 H0 c σ H) (h : PoS ea W c0 H0 c H ((ev call e c.env c.os).sd f) D) {Q' : VK}
    (hk : ∀ d os x H' c', Step c H c' H' → c'.env = c.env → c'.os = os → RelS c0 H0 c' σ H' → Kp H H' c.fz c'.fz → RoC c' H' x d → (isBor e = false → Rp H' c'.fz x d) → PoS ea W c0 H0 c' H' (f d os) D → Q' x H') : tE call ea W e σ H Q' := by
  refine ⟨c, rs.rel, ?_⟩
  match hv : ev call e c.env c.os, h with
  | .ok (.d d) os, h =>
    intro x H' c' s e1 o r
    have kp := s.kp rs.rel.wf
    refine hk d os x H' c' s e1 o (rs.step s e1) kp r.roc (fun hb => ?_) (PoS.after kp h)
    rw [hb] at r
    exact r
  | .er ex os, h => exact fun cls d H' c' s e o r => h cls d H' c' (rs.stp.trans s) o r
theorem tS.raw {e : Ex} {f : PyData → Objs → SR} (rs : RelS c0 H0 c σ H) (h : PoS ea W c0 H0 c H ((ev call e c.env c.os).sd f) D) (ho : ∀ d os, f d os ≠ .st → ownD d = true) {Q' : VK}
    (hk : ∀ d os a H' c', Step c H c' H' → c'.env = c.env → c'.os = os → RelS c0 H0 c' σ H' → Kp H H' c.fz c'.fz → ¬ c'.fz a → a ∉ c'.om → H a = none → ownRp H' c'.fz a d → PoS ea W c0 H0 c' H' (f d os) D → Q' (.ref a) H') : tR call ea W e σ H Q' := by
  refine ⟨c, rs.rel, ?_⟩
  match hv : ev call e c.env c.os, h with
  | .ok (.d d) os, h =>
    refine ⟨ho d os fun z => ?_, fun a H' c' s e1 o nf no h0 r => ?_⟩
    · have : PoS ea W c0 H0 c H (f d os) D := h
      rw [z] at this
      exact this
    · have kp := s.kp rs.rel.wf
      exact hk d os a H' c' s e1 o (rs.step s e1) kp nf no h0 r (PoS.after kp h)
  | .er ex os, h => exact fun cls d H' c' s e o r => h cls d H' c' (rs.stp.trans s) o r
end
end FC
end
section
set_option Elab.async false
set_option linter.all false
set_option maxRecDepth 100000
set_option maxHeartbeats 4000000
namespace FC
open PySem L2 PyProof.Rows
variable [EA]
mutual
theorem bindT_env : ∀ {t : Tgt} {d : PyData} {env env' : PEnv}, bindT t d env = some env' → env'.length = env.length ∧ ∀ (j : Nat) (sl : Sl), env'[j]? = some sl → (∃ x, sl = .v x) ∨ (j ∉ tgtIx t ∧ env[j]? = some sl)
  | .one i, d, env, env', h => by
    simp only [bindT] at h
    split at h
    · cases h
      refine ⟨by simp, fun j sl hj => ?_⟩
      rcases get_set hj with ⟨rfl, rfl⟩ | ⟨hne, hj⟩
      · exact .inl ⟨_, rfl⟩
      · exact .inr ⟨by simp [tgtIx, hne], hj⟩
    · cases h
  | .tup ts, .tuple ds, env, env', h => by
    simp only [bindT] at h
    exact bindTs_env h
  | .tup ts, .none, env, env', h => by simp [bindT] at h
  | .tup ts, .bool _, env, env', h => by simp [bindT] at h
  | .tup ts, .int _, env, env', h => by simp [bindT] at h
  | .tup ts, .str _, env, env', h => by simp [bindT] at h
  | .tup ts, .list _, env, env', h => by simp [bindT] at h
  | .tup ts, .dict _, env, env', h => by simp [bindT] at h
theorem bindTs_env : ∀ {ts : List Tgt} {ds : List PyData} {env env' : PEnv}, bindTs ts ds env = some env' → env'.length = env.length ∧ ∀ (j : Nat) (sl : Sl), env'[j]? = some sl → (∃ x, sl = .v x) ∨ (j ∉ tgtsIx ts ∧ env[j]? = some sl)
  | [], [], env, env', h => by
    simp only [bindTs] at h
    cases h
    exact ⟨rfl, fun j sl hj => .inr ⟨by simp [tgtsIx], hj⟩⟩
  | t :: ts, d :: ds, env, env', h => by
    simp only [bindTs] at h
    split at h
    · rename_i env1 h1
      obtain ⟨l1, f1⟩ := bindT_env h1
      obtain ⟨l2, f2⟩ := bindTs_env h
      refine ⟨l2.trans l1, fun j sl hj => ?_⟩
      rcases f2 j sl hj with z | ⟨z1, z2⟩
      · exact .inl z
      · rcases f1 j sl z2 with z | ⟨z3, z4⟩
        · exact .inl z
        · exact .inr ⟨by simp [tgtsIx, z1, z3], z4⟩
    · cases h
  | [], _ :: _, _, _, h => by simp [bindTs] at h
  | _ :: _, [], _, _, h => by simp [bindTs] at h
end
theorem wipe_ne {σ : L2.St} {j : Nat} : ∀ {vs : List Nat}, j ∉ vs → (L2.wipe σ vs)[j]? = σ[j]?
  | [], _ => rfl
  | v :: vs, h => by
    have h1 : v ≠ j := fun z => h (by simp [z])
    have h2 : j ∉ vs := fun z => h (by simp [z])
    show ((L2.wipe σ vs).set v none)[j]? = _
    rw [List.getElem?_set_ne h1]
    exact wipe_ne h2
section
variable {call : CallT} {ea : Nat → Addr} {W : XK} {c0 c c1 : Cfg} {H0 H H1 : Hp} {σ σ' : L2.St} {D : Ends}
theorem RelS.bind (rs : RelS c0 H0 c σ H) {t : Tgt} {d : PyData} {env' : PEnv} (hb : bindT t d c.env = some env') (r : Rel { c with env := env' } σ' H) (hw : L2.wipe σ' (tgtIx t) = L2.wipe σ (tgtIx t)) : RelS c0 H0 { c with env := env' } σ' H := by
  obtain ⟨_, f⟩ := bindT_env hb
  have hs : ∀ j, j ∉ tgtIx t → σ'[j]? = σ[j]? := fun j hj => by rw [← wipe_ne (σ := σ') hj, hw, wipe_ne hj]
  refine ⟨r, rs.stp.env _, fun i d a h1 h2 => ?_, fun i d a h1 h2 => ?_⟩
  · rcases f i _ h1 with ⟨x, e⟩ | ⟨hj, e⟩
    · cases e
    · rw [hs i hj] at h2
      exact rs.own i d a e h2
  · rcases f i _ h1 with ⟨x, e⟩ | ⟨hj, e⟩
    · cases e
    · rw [hs i hj] at h2
      exact rs.bor i d a e h2
theorem PoS.then {r : SR} {f : PEnv → Objs → SR} {N : L2.St → Hp → Prop} {bk ct : L2.St → Hp → Prop} (h : PoS ea W c0 H0 c H (r.then f) D)
    (hk : ∀ env os σ' H' c', r = .nx env os → RelS c0 H0 c' σ' H' → c'.env = env → c'.os = os → Kp H H' c.fz c'.fz → PoS ea W c0 H0 c' H' (f c'.env c'.os) D → N σ' H') : PoS ea W c0 H0 c H r { D with nx := N, bk := bk, ct := ct } := by
  cases r with
  | nx env os =>
    intro σ' H' c' rs e o kp
    refine hk env os σ' H' c' rfl rs e o kp ?_
    have h2 : PoS ea W c0 H0 c H (f env os) D := h
    rw [e, o]
    exact PoS.after kp h2
  | rt v os => exact h
  | er ex os => exact h
  | st => exact h
theorem t_for {t : Tgt} {it : It} {b : S} (q : tS call ea W c0 H0 (.fr t it b) D σ H) : tFor (tI call ea W it) (tG t) (tS call ea W c0 H0 b) D σ H := by
  obtain ⟨c, rs, q⟩ := q
  refine ⟨c, rs.rel, ?_⟩
  simp only [ex] at q
  cases hv : evI call it c.env c.os with
  | st => rw [hv] at q; exact q
  | er x os => rw [hv] at q; exact fun cls d H' c' s e o r => q cls d H' c' (rs.stp.trans s) o r
  | ok xs os1 =>
    rw [hv] at q
    intro J H1 c1 s1 e1 o1 hJ
    have rs1 := rs.step s1 e1
    have q1 := PoS.after (s1.kp rs.rel.wf) q
    dsimp only at q1
    rw [← e1, ← o1] at q1
    generalize hF : (fun env2 os2 => ex call b env2 os2) = F at q1
    refine ⟨fun i m σ' H' => ∃ c', RelS c0 H0 c' σ' H' ∧ Kp H1 H' c1.fz c'.fz ∧ PoS ea W c0 H0 c' H' (forL t F (xs.drop i) c'.env c'.os) D ∧ m = xs.length - i ∧ i ≤ xs.length, ⟨xs.length, c1, rs1, Kp.refl, q1, by simp, Nat.zero_le _⟩, ?_⟩
    rintro i m σ2 H2 ⟨c2, rs2, kp2, q2, rfl, hle⟩
    have hJi := hJ c2 H2 rs2.rel.wf kp2
    by_cases hlt : i < xs.length
    · right
      obtain ⟨hgo, hyl⟩ := hJi.1 i _ (List.getElem?_eq_getElem hlt)
      rw [List.drop_eq_getElem_cons hlt] at q2
      simp only [forL] at q2
      refine ⟨hgo, fun σ' H' => ∃ c', RelS c0 H0 c' σ' H' ∧ Kp H1 H' c1.fz c'.fz ∧ PoS ea W c0 H0 c' H' (forL t F (xs.drop (i + 1)) c'.env c'.os) D, fun σ' H' ⟨c', a1, a2, a3⟩ => ⟨xs.length - (i + 1), by omega, c', a1, a2, a3, rfl, hlt⟩, fun x H3 hy => ?_⟩
      obtain ⟨c3, s3, e3, o3, r3⟩ := hyl x H3 hy
      have rs3 := rs2.step s3 e3
      have kp3 := s3.kp rs2.rel.wf
      cases hb : bindT t xs[i] c2.env with
      | none => rw [hb] at q2; exact q2.elim
      | some env' =>
        rw [hb] at q2
        refine ⟨c3, xs[i], env', rs3.rel, r3, by rw [e3]; exact hb, fun σ4 rel4 w4 => ?_⟩
        have rs4 := rs3.bind (by rw [e3]; exact hb) rel4 (w4 _ fun _ h => h)
        refine ⟨{ c3 with env := env' }, rs4, ?_⟩
        have q4 := PoS.after (c1 := { c3 with env := env' }) kp3 q2
        rw [← o3] at q4
        have : ex call b env' c3.os = F env' c3.os := by rw [← hF]
        show PoS ea W c0 H0 _ H3 (ex call b env' c3.os) _
        rw [this]
        exact PoS.then q4 fun env5 os5 σ5 H5 c5 _ rs5 e5 o5 kp5 q5 => ⟨c5, rs5, (kp2.trans kp3).trans kp5, q5⟩
    · left
      have ei : i = xs.length := by omega
      subst ei
      refine ⟨hJi.2, ?_⟩
      rw [List.drop_of_length_le (Nat.le_refl _)] at q2
      exact q2 σ2 H2 c2 rs2 rfl rfl Kp.refl
theorem t_while {e : Ex} {b : S} (q : tS call ea W c0 H0 (.wh e b) D σ H) : tWhile (tT call ea W e) (tS call ea W c0 H0 b) D σ H := by
  obtain ⟨c, rs, q⟩ := q
  simp only [ex] at q
  generalize hF : (fun env2 os2 => ex call b env2 os2) = F at q
  refine ⟨fun m σ' H' => ∃ c', RelS c0 H0 c' σ' H' ∧ PoS ea W c0 H0 c' H' (whL (fun env2 os2 => ev call e env2 os2) F m c'.env c'.os) D, ⟨whFuel, c, rs, q⟩, ?_⟩
  rintro m σ2 H2 ⟨c2, rs2, q2⟩
  refine ⟨c2, rs2.rel, ?_⟩
  cases m with
  | zero => exact q2.elim
  | succ m =>
    simp only [whL] at q2
    match hv : ev call e c2.env c2.os, q2 with
    | .ok (.d (.bool true)) os, q2 =>
      intro H3 c3 s3 e3 o3
      have rs3 := rs2.step s3 e3
      rw [if_pos rfl]
      refine ⟨fun σ' H' => ∃ c', RelS c0 H0 c' σ' H' ∧ PoS ea W c0 H0 c' H' (whL (fun env2 os2 => ev call e env2 os2) F m c'.env c'.os) D, fun σ' H' z => ⟨m, Nat.lt_succ_self m, z⟩, c3, rs3, ?_⟩
      have q3 := PoS.after (s3.kp rs2.rel.wf) q2
      dsimp only at q3
      rw [← o3, ← e3] at q3
      have : ex call b c3.env c3.os = F c3.env c3.os := by rw [← hF]
      rw [this]
      exact PoS.then q3 fun env5 os5 σ5 H5 c5 _ rs5 e5 o5 kp5 q5 => ⟨c5, rs5, q5⟩
    | .ok (.d (.bool false)) os, q2 =>
      intro H3 c3 s3 e3 o3
      rw [if_neg Bool.false_ne_true]
      exact q2 σ2 H3 c3 (rs2.step s3 e3) e3 o3 (s3.kp rs2.rel.wf)
    | .er x os, q2 => exact fun cls d H' c' s e o r => q2 cls d H' c' (rs2.stp.trans s) o r
theorem t_if {e : Ex} {a b : S} (q : tS call ea W c0 H0 (.ife e a b) D σ H) : tIfS (tT call ea W e) (tS call ea W c0 H0 a) (tS call ea W c0 H0 b) D σ H := by
  obtain ⟨c, rs, q⟩ := q
  simp only [ex] at q
  refine ⟨c, rs.rel, ?_⟩
  match hv : ev call e c.env c.os, q with
  | .ok (.d (.bool true)) os, q =>
    intro H3 c3 s3 e3 o3
    rw [if_pos rfl]
    refine ⟨c3, rs.step s3 e3, ?_⟩
    rw [e3, o3]
    exact PoS.after (s3.kp rs.rel.wf) q
  | .ok (.d (.bool false)) os, q =>
    intro H3 c3 s3 e3 o3
    rw [if_neg Bool.false_ne_true]
    refine ⟨c3, rs.step s3 e3, ?_⟩
    rw [e3, o3]
    exact PoS.after (s3.kp rs.rel.wf) q
  | .er x os, q => exact fun cls d H' c' s e o r => q cls d H' c' (rs.stp.trans s) o r
theorem t_seq {a b : S} (q : tS call ea W c0 H0 (.seq a b) D σ H) : tSeq (tS call ea W c0 H0 a) (tS call ea W c0 H0 b) D σ H := by
  obtain ⟨c, rs, q⟩ := q
  simp only [ex] at q
  exact ⟨c, rs, PoS.then (bk := D.bk) (ct := D.ct) q fun env5 os5 σ5 H5 c5 _ rs5 e5 o5 kp5 q5 => ⟨c5, rs5, q5⟩⟩
theorem t_skip (q : tS call ea W c0 H0 .skip D σ H) : tNext D σ H := by
  obtain ⟨c, rs, q⟩ := q
  exact q σ H c rs rfl rfl Kp.refl
theorem t_frz {i : Nat} {b : S} (q : tS call ea W c0 H0 (.seq (.frz i) b) D σ H) : tS call ea W c0 H0 b D σ H := by
  obtain ⟨c, rs, q⟩ := q
  simp only [ex] at q
  cases hi : c.env[i]? with
  | none => rw [hi] at q; exact q.elim
  | some sl =>
    rw [hi] at q
    cases sl with
    | m x =>
      obtain ⟨A, rs2, kp⟩ := rs.frz hi
      exact ⟨_, rs2, PoS.after (c1 := { c.fr A with env := c.env.set i (.v (.d x)) }) kp q⟩
    | v x => exact ⟨c, rs, q⟩
    | _ => exact q.elim
theorem t_ret {e : Ex} (hb : isBor e = false) (q : tS call ea W c0 H0 (.ret e) D σ H) : tRet (tE call ea W e) D σ H := by
  obtain ⟨c, rs, q⟩ := q
  simp only [ex] at q
  refine tS.val rs q fun v os x H' c' s e1 o rs' kp r q' => ?_
  rw [hb] at r
  exact q' x H' c' rs'.stp o r
theorem t_expr {e : Ex} (q : tS call ea W c0 H0 (.ex e) D σ H) : tDrop (tE call ea W e) D σ H := by
  obtain ⟨c, rs, q⟩ := q
  simp only [ex] at q
  refine tS.val rs q fun v os x H' c' s e1 o rs' kp r q' => ?_
  exact q' σ H' c' rs' e1 o Kp.refl
theorem t_set1 {i : Nat} {e : Ex} (hb : isBor e = false) (q : tS call ea W c0 H0 (.set (.one i) e) D σ H) : tAsg (tE call ea W e) (gName i) D σ H := by
  obtain ⟨c, rs, q⟩ := q
  simp only [ex] at q
  refine tS.val rs q fun v os x H' c' s e1 o rs' kp r q' => ?_
  rw [hb] at r
  split at q'
  · rename_i hi
    have hi : i < c'.env.length := by rw [e1]; exact of_decide_eq_true hi
    exact q' _ H' _ (rs'.setv r hi) (by rw [e1]) o Kp.refl
  · exact q'.elim
theorem t_setT {ts : List Tgt} {e : Ex} (hb : isBor e = false) (q : tS call ea W c0 H0 (.set (.tup ts) e) D σ H) : tAsg (tE call ea W e) (tG (.tup ts)) D σ H := by
  obtain ⟨c, rs, q⟩ := q
  simp only [ex] at q
  refine tS.dat rs q fun d os x H' c' s e1 o rs' kp _ r q' => ?_
  cases hbd : bindT (.tup ts) d c.env with
  | none => rw [hbd] at q'; exact q'.elim
  | some env' =>
    rw [hbd] at q'
    refine ⟨c', d, env', rs'.rel, r hb, by rw [e1]; exact hbd, fun σ4 rel4 w4 => ?_⟩
    exact q' σ4 H' _ (rs'.bind (by rw [e1]; exact hbd) rel4 (w4 _ fun _ h => h)) rfl o Kp.refl
theorem fresh_ne (rs : RelS c0 H0 c σ H) {A : Addr} (h : H A = none) : ∀ (j : Nat) (d' : PyData), c.env[j]? = some (Sl.m d') → σ[j]? ≠ some (some (V.ref A)) := fun j d' h1 h2 => by
  obtain ⟨a, e, _, _, r⟩ := rs.rel.slot j _ h1
  rw [h2] at e
  cases e
  exact r.tracked h
theorem t_own {i : Nat} {e : Ex} (q : tS call ea W c0 H0 (.own i e) D σ H) : tAsg (tR call ea W e) (gName i) D σ H := by
  obtain ⟨c, rs, q⟩ := q
  simp only [ex] at q
  refine tS.raw rs q (fun d os h => ?_) fun d os A H' c' s e1 o rs' kp nf no h0 r q' => ?_
  · split at h
    · rename_i hh
      simp only [Bool.and_eq_true] at hh
      exact hh.2
    · exact absurd rfl h
  · split at q'
    · rename_i hh
      simp only [Bool.and_eq_true, decide_eq_true_eq] at hh
      have hi : i < c'.env.length := by rw [e1]; exact hh.1
      refine q' _ H' _ (rs'.setm nf no (rs.stp.back h0) r (fun j d' h1 h2 => ?_) hi) (by rw [e1]) o Kp.refl
      exact fresh_ne rs h0 j d' (by rw [← e1]; exact h1) h2
    · exact q'.elim
end
end FC
end
section
set_option Elab.async false
set_option linter.all false
set_option maxRecDepth 100000
set_option maxHeartbeats 4000000
namespace FC
open PySem L2 PyProof.Rows
variable [EA]
section
variable {G : Glob} {call : CallT} {ea : Nat → Addr} {k : Nat} {W : XK} {X : Cx} {c0 c c1 : Cfg} {H0 H H1 : Hp} {σ σ' : L2.St} {D : Ends}
theorem few_one {e : Expr} {env : Env} {cpos : Pos} (hs : stE e = false) : ((backTo cpos (starEach [e] env)).all (fun x => !x.1) && (backToKw cpos (keywordEach [] env)).all (fun x => x.1.isSome)
      && decide (([e] : List Expr).length + ([] : List Keyword).length + (if ([] : List Keyword).isEmpty then 0 else 1) < 30)) = true := by
  rw [star_no hs]
  rfl
theorem p_app {i : Nat} {e : Ex} {x : Str} {e' : Expr} {p1 ap cp pos : Pos} (hv : varB X.N X.env.scope i x = true) (hb : isBor e = false) (hs : stE e' = false) (hl : (ap.endLine == cp.line) = true) (he : PE X e' (tE call ea W e)) :
    PS X (.Expr (.Call (.Attribute (.Name x p1) "append" ap) [e'] [] cp) pos) (tS call ea W c0 H0 (.app i e)) := by
  obtain ⟨h1, h2, h3, h4⟩ := varB_ok hv
  refine PS.imp (ps_expr (pe_bm PySem.F.plainAttrs_list PySem.F.slot_list_append PySem.F.type_list_append mt_append (pe_var h1 h2 h3 h4) (pa_one he hs) rfl (few_one hs) hl (star_no hs _ _) rfl)) fun D σ H ⟨c, rs, q⟩ => ?_
  simp only [ex] at q
  split at q
  · rename_i xs hi
    obtain ⟨a, e1, nf, no, ys, hy, ry⟩ := rs.rel.slot i _ hi
    refine ⟨.ref a, e1, .inl ⟨rfl, ys, SqL.of hy⟩, ?_⟩
    refine tS.dat rs q fun d os y H1 c1 s1 e2 o1 rs1 kp1 _ r1 q1 => ?_
    have r1 := r1 hb
    split at q1
    · rename_i hz
      have hz := of_decide_eq_true hz
      have hi1 : c1.env[i]? = some (.m (.list xs)) := by rw [e2]; exact hi
      have g1 : H1 a = some (.lst ys) := s1.keep a _ hy no (by simp)
      have ry1 := RpA.keep kp1 ry
      have nf1 : ¬ c1.fz a := fun z => by
        rcases s1.fzn a z with z | z
        · exact nf z
        · rw [hy] at z; cases z
      have own1 : OwnO (H1 a) := by rw [g1]; trivial
      have kp2 : Kp H1 (upd H1 a (.lst (ys ++ [y]))) c1.fz c1.fz := Kp.mut own1 nf1
      obtain ⟨rs2, _⟩ := rs1.mut (d' := .list (xs ++ [d])) (o := .lst (ys ++ [y])) hi1 e1 ⟨_, upd_same, (RpA.keep kp2 ry1).append (.cons (Rp.keep kp2 r1) .nil)⟩
      refine ⟨a, ys, y, rfl, rfl, g1, by rw [ry.length]; exact hz, q1 σ _ _ rs2 (by rw [e2]) o1 kp2⟩
    · exact q1.elim
  · exact q.elim
theorem p_ext {i : Nat} {e : Ex} {x : Str} {e' : Expr} {p1 ap cp pos : Pos} (hv : varB X.N X.env.scope i x = true) (hs : stE e' = false) (hl : (ap.endLine == cp.line) = true) (he : PE X e' (tE call ea W e)) :
    PS X (.Expr (.Call (.Attribute (.Name x p1) "extend" ap) [e'] [] cp) pos) (tS call ea W c0 H0 (.ext i e)) := by
  obtain ⟨h1, h2, h3, h4⟩ := varB_ok hv
  refine PS.imp (ps_expr (pe_bm PySem.F.plainAttrs_list PySem.F.slot_list_extend PySem.F.type_list_extend mt_extend (pe_var h1 h2 h3 h4) (pa_one he hs) rfl (few_one hs) hl (star_no hs _ _) rfl)) fun D σ H ⟨c, rs, q⟩ => ?_
  simp only [ex] at q
  split at q
  · rename_i xs hi
    obtain ⟨a, e1, nf, no, ys, hy, ry⟩ := rs.rel.slot i _ hi
    refine ⟨.ref a, e1, .inl ⟨rfl, ys, SqL.of hy⟩, ?_⟩
    refine tS.dat rs q fun d os y H1 c1 s1 e2 o1 rs1 kp1 r0 r1 q1 => ?_
    split at q1
    · rename_i zs
      split at q1
      · rename_i hz
        have hz := fit_le hz
        obtain ⟨b, vs, rfl, gb, rb⟩ := r0.ro.list
        have hi1 : c1.env[i]? = some (.m (.list xs)) := by rw [e2]; exact hi
        have g1 : H1 a = some (.lst ys) := s1.keep a _ hy no (by simp)
        have ry1 := RpA.keep kp1 ry
        have nf1 : ¬ c1.fz a := fun z => by
          rcases s1.fzn a z with z | z
          · exact nf z
          · rw [hy] at z; cases z
        have own1 : OwnO (H1 a) := by rw [g1]; trivial
        have kp2 : Kp H1 (upd H1 a (.lst (ys ++ vs))) c1.fz c1.fz := Kp.mut own1 nf1
        obtain ⟨rs2, _⟩ := rs1.mut (d' := .list (xs ++ zs)) (o := .lst (ys ++ vs)) hi1 e1 ⟨_, upd_same, (RpA.keep kp2 ry1).append (RpA.keep kp2 rb)⟩
        exact ⟨a, b, ys, vs, rfl, rfl, g1, gb, by rw [ry.length, rb.length]; exact hz, q1 σ _ _ rs2 (by rw [e2]) o1 kp2⟩
      · exact q1.elim
    · exact q1.elim
  · exact q.elim
theorem p_pop {i j : Nat} {x y : Str} {py p1 ap cp pos : Pos} (hN : X.N.Nodup) (hf : X.fn y = true) (hy : X.N[i]? = some y) (hl : locB X.env.scope y = true) (hv : varB X.N X.env.scope j x = true) (hln : (ap.endLine == cp.line) = true) :
    PS X (.Assign [.Name y py] (.Call (.Attribute (.Name x p1) "pop" ap) [] [] cp) pos) (tS call ea W c0 H0 (.pop i j)) := by
  obtain ⟨h1, h2, h3, h4⟩ := varB_ok hv
  have hloc : Loc X.env.scope y := by
    unfold locB at hl
    split at hl
    · exact .inl (by assumption)
    · exact .inr (by assumption)
    · cases hl
  refine PS.imp (ps_set (pos' := py) hN hy hloc (pe_bm0 PySem.F.plainAttrs_list PySem.F.slot_list_pop PySem.F.type_list_pop mt_pop (pe_var h1 h2 h3 h4) rfl hln) rfl (.inl hf)) fun D σ H ⟨c, rs, q⟩ => ?_
  simp only [ex] at q
  split at q
  · rename_i xs hi
    obtain ⟨a, e1, nf, no, ys, hyy, ry⟩ := rs.rel.slot j _ hi
    split at q
    · rename_i d hd
      split at q
      · rename_i hh
        simp only [Bool.and_eq_true, decide_eq_true_eq] at hh
        refine ⟨.ref a, e1, .inl ⟨rfl, ys, SqL.of hyy⟩, ?_⟩
        have hlen : ys.length = xs.length := ry.length
        have hd2 : xs[xs.length - 1]? = some d := by rw [List.getLast?_eq_getElem?] at hd; exact hd
        obtain ⟨v, g1, r1⟩ := ry.get hd2
        have own1 : OwnO (H a) := by rw [hyy]; trivial
        have kp2 : Kp H (upd H a (.lst ys.dropLast)) c.fz c.fz := Kp.mut own1 nf
        have rdl : RpA H c.fz ys.dropLast xs.dropLast := by
          rw [List.dropLast_eq_take, List.dropLast_eq_take, hlen]
          exact RpA.take _ ry
        obtain ⟨rs2, _⟩ := rs.mut (d' := .list xs.dropLast) (o := .lst ys.dropLast) hi e1 ⟨_, upd_same, RpA.keep kp2 rdl⟩
        have rs3 := rs2.setv (i := i) (v := v) (pv := .d d) (Rp.keep kp2 r1) (by simpa using hh.1)
        exact ⟨a, ys, v, rfl, rfl, hyy, by rw [hlen]; exact g1, q _ _ _ rs3 rfl rfl kp2⟩
      · exact q.elim
    · exact q.elim
  · exact q.elim
theorem sw_sub {e a b : Expr} {pt : Pos} {l : Nat} {env : Env} : swapsWith e (some (.Subscript a b pt)) l env = pure false := by
  cases e <;> rfl
theorem p_dput (g : Gd G call ea k W X) {i : Nat} {a b : Ex} {x : Str} {a' b' : Expr} {p1 sp pos : Pos} (hv : varB X.N X.env.scope i x = true) (hb : isBor b = false) (ha : PE X a' (tE call ea W a)) (hbe : PE X b' (tE call ea W b)) :
    PS X (.Assign [.Subscript (.Name x p1) a' sp] b' pos) (tS call ea W c0 H0 (.dput i a b)) := by
  obtain ⟨h1, h2, h3, h4⟩ := varB_ok hv
  refine PS.imp (ps_dput (by have := g.hu; omega) (pe_var h1 h2 h3 h4) ha hbe sw_sub) fun D σ H ⟨c, rs, q⟩ => ?_
  simp only [ex] at q
  refine tS.dat rs q fun d os v H1 c1 s1 e1 o1 rs1 kp1 _ r1 q1 => ?_
  have r1 := r1 hb
  split at q1
  · rename_i kvs hi
    have hi1 : c1.env[i]? = some (.m (.dict kvs)) := by rw [e1]; exact hi
    obtain ⟨ad, e2, nf, no, ws, hy, ry⟩ := rs1.rel.slot i _ hi1
    refine ⟨.ref ad, e2, ?_⟩
    rw [← e1, ← o1] at q1
    refine tS.dat rs1 q1 fun kd os2 y H2 c2 s2 e3 o2 rs2 kp2 r0 _ q2 => ?_
    split at q2
    · rename_i hh
      simp only [Bool.and_eq_true, decide_eq_true_eq] at hh
      obtain ⟨hk, hz⟩ := hh
      obtain ⟨kk, rfl⟩ := isKey_key hk
      have hyk := r0.ro.key
      subst hyk
      have hi2 : c2.env[i]? = some (.m (.dict kvs)) := by rw [e3]; exact hi1
      have g1 : H2 ad = some (.dK ws) := s2.keep ad _ hy no (by simp)
      have nf2 : ¬ c2.fz ad := fun z => by
        rcases s2.fzn ad z with z | z
        · exact nf z
        · rw [hy] at z; cases z
      have own1 : OwnO (H2 ad) := by rw [g1]; trivial
      have kp3 : Kp H2 (upd H2 ad (.dK (putK ws kk v))) c2.fz c2.fz := Kp.mut own1 nf2
      have rw2 := RpK.keep kp2 ry
      obtain ⟨rs3, _⟩ := rs2.mut (d' := .dict (putD (keyD kk) d kvs)) (o := .dK (putK ws kk v)) hi2 e2 ⟨_, upd_same, (RpK.keep kp3 rw2).put (Rp.keep kp3 (Rp.keep kp2 r1))⟩
      exact ⟨ad, _, rfl, DPut.k g1 (by rw [ry.length]; exact hz), q2 σ _ _ rs3 (by rw [e3]) o2 kp3⟩
    · exact q2.elim
  · exact q1.elim
theorem oput_ok {n : Nat} {a : Addr} {s : Str} {v : V} {d : PyData} {os' : Objs} (w : WF H c) (hn : c.om[n]? = some a) (ho : oputO c.os n s d = some os') (r : Rp H c.fz v d) :
    ∃ H', DPut H a (.str s) v H' ∧ Step c H { c with os := os' } H' ∧ Kp H H' c.fz c.fz := by
  unfold oputO at ho
  split at ho
  · rename_i kvs hk
    split at ho
    · rename_i hz
      cases ho
      obtain ⟨vs, e, rk⟩ := w.obj n a _ hn hk
      obtain ⟨s1, kp⟩ := step_obj w hn hk e (RpK.put (k := .inr s) r rk)
      exact ⟨_, DPut.k (k := .inr s) e (by rw [rk.length]; exact of_decide_eq_true hz), s1, kp⟩
    · cases ho
  · cases ho
theorem p_oput (g : Gd G call ea k W X) {a b : Ex} {s : Str} {a' b' : Expr} {j : Nat} {p1 sp pos : Pos} (h1 : isBor a = false) (hb : isBor b = false) (ha : PE X a' (tE call ea W a)) (hbe : PE X b' (tE call ea W b)) :
    PS X (.Assign [.Subscript a' (.Constant (.str s) j p1) sp] b' pos) (tS call ea W c0 H0 (.oput a s b)) := by
  refine PS.imp (ps_dput (by have := g.hu; omega) ha pe_str hbe sw_sub) fun D σ H ⟨c, rs, q⟩ => ?_
  simp only [ex] at q
  refine tS.dat rs q fun d os v H1 c1 s1 e1 o1 rs1 kp1 _ r1 q1 => ?_
  have r1 := r1 hb
  rw [← e1, ← o1] at q1
  refine ⟨c1, rs1.rel, ?_⟩
  match hv : ev call a c1.env c1.os, q1 with
  | .ok (.o n) os2, q1 =>
    intro x H2 c2 s2 e2 o2 r2
    rw [h1] at r2
    obtain ⟨ad, hn, rfl⟩ := r2
    dsimp only at q1
    split at q1
    · rename_i os3 ho
      have rs2 := rs1.step s2 e2
      have kp2 := s2.kp rs1.rel.wf
      obtain ⟨H3, dp, s3, kp3⟩ := oput_ok s2.wf hn (by rw [o2]; exact ho) (Rp.keep kp2 r1)
      exact ⟨ad, H3, rfl, dp, q1 σ H3 _ (rs2.step s3 rfl) e2 rfl (kp2.trans kp3)⟩
    · exact q1.elim
end
end FC
end
section
set_option Elab.async false
set_option linter.all false
set_option maxRecDepth 100000
set_option maxHeartbeats 4000000
namespace FC
open PySem L2 PyProof.Rows
variable [EA]
def isRaw : Ex → Bool
  | .lst _ => true
  | .dic0 => true
  | .dic1 _ _ => true
  | .comp _ _ _ _ => true
  | _ => false
def isRawA : Ex → Bool
  | .op2 .add _ _ => true
  | e => isRaw e
section
variable {G : Glob} {call : CallT} {ea : Nat → Addr} {k : Nat} {W : XK} {X : Cx} {c0 c c1 : Cfg} {H0 H H1 Hs : Hp} {σ σ' : L2.St} {D : Ends}
theorem lst_dat {as : List Ex} {env : PEnv} {os : Objs} : ∀ v o, ev call (.lst as) env os = .ok v o → ∃ d, v = .d d ∧ ownD d = true := by
  intro v o h
  simp only [ev] at h
  cases h1 : evs call as env os with
  | ok xs o1 =>
    rw [h1] at h
    simp only [R.bind] at h
    split at h
    · split at h
      · cases h; exact ⟨_, rfl, rfl⟩
      · cases h
    · cases h
  | er _ _ => rw [h1] at h; cases h
  | st => rw [h1] at h; cases h
theorem raw_dat {e : Ex} {env : PEnv} {os : Objs} (h : isRaw e = true) : ∀ v o, ev call e env os = .ok v o → ∃ d, v = .d d ∧ ownD d = true := by
  cases e <;> simp only [isRaw] at h <;> try contradiction
  · exact lst_dat
  · intro v o h; simp only [ev] at h; cases h; exact ⟨_, rfl, rfl⟩
  · exact dic1_dat
  · exact comp_dat
theorem comp_parts {t : Tgt} {it : It} {c : Option Ex} {el : Ex} {el' tg it' : Expr} {ifs : List Expr} {scope : Scope} {pos : Pos} (g : Gd G call ea k W X) (h : chk G X.N X.env.scope (.comp t it c el) (.ListComp el' [⟨tg, it', ifs, 0⟩] scope pos) = true) :
    PI X tg it' (tI call ea W it) ∧ BlkOk X.N X.env.scope scope (ownOf X.N (tgtIx t)) ∧ (ownOf X.N (tgtIx t)).map (·.2) = tgtIx t ∧ isBor el = false ∧
    (∀ (s : Shared) (H : Hp) (C : Addr) (cl : List (Str × Addr)) (fp : List Addr), PG (X.blk s H scope (compEnvC scope cl C X.env) fp) tg (tG t)) ∧
    (∀ (s : Shared) (H : Hp) (C : Addr) (cl : List (Str × Addr)) (fp : List Addr), PTs (X.blk s H scope (compEnvC scope cl C X.env) fp) ifs (tCo call ea c)) ∧
    (∀ (s : Shared) (H : Hp) (C : Addr) (cl : List (Str × Addr)) (fp : List Addr), PE (X.blk s H scope (compEnvC scope cl C X.env) fp) el' (tE call ea W0 el)) ∧
    (∀ x, foldedSetIterable it' X.env x = pure x) := by
  simp only [chk, Bool.and_eq_true, Bool.not_eq_true'] at h
  obtain ⟨⟨⟨⟨⟨⟨⟨h1, h2⟩, h3⟩, h4⟩, h5⟩, h6⟩, h7⟩, h8⟩ := h
  obtain ⟨b1, b2⟩ := blkB_ok h7
  have hpi := sndI it X W tg it' g h3 (fun z => tup_of h1 (by simpa [z] using h8))
  exact ⟨hpi, b1, b2, h6, fun s H C cl fp => s_tgt (X := X.blk s H scope (compEnvC scope cl C X.env) fp) g.calm g.nd t tg (fun i hi y hy hc => by
          exfalso
          simp only [List.all_eq_true] at h2
          have z := h2 i hi
          have hy' : X.N[i]? = some y := hy
          rw [hy'] at z
          have hc' : (relS scope X.env.scope).names.lookup y = some .cell := hc
          simp only [lclB, hc'] at z
          cases z) h1,
        fun s H C cl fp => sndC c (X.blk s H scope (compEnvC scope cl C X.env) fp) ifs (g.blk s H scope _ fp) h4,
        fun s H C cl fp => (snd el (X.blk s H scope (compEnvC scope cl C X.env) fp) W0 el' (g.blk s H scope _ fp) h5).pe,
        fun y => by cases it' <;> first | rfl | (exfalso; revert h3; cases it <;> simp [chkI])⟩
theorem sndR {e : Ex} {x : Expr} (g : Gd G call ea k W X) (hr : isRawA e = true) (h : chk G X.N X.env.scope e x = true) : PE X x (tR call ea W e) := by
  cases e <;> simp only [isRawA, isRaw] at hr <;> try contradiction
  · rename_i p a b
    cases p <;> simp only [isRawA, isRaw] at hr <;> try contradiction
    simp only [chk] at h
    split at h
    · simp only [Bool.and_eq_true, decide_eq_true_eq] at h
      have := h.1.1
      simp only [binOf] at this
      cases this
      exact r_add (snd a X W _ g h.1.2).pe (snd b X W _ g h.2).pe
    · simp only [Bool.and_eq_true, decide_eq_true_eq] at h
      have := h.1.1.1
      simp [cmpOf] at this
    · simp at h
    · simp only [Bool.and_eq_true, decide_eq_true_eq] at h
      have := h.1.1.1.1.2
      simp [blt2] at this
    · cases h
  · rename_i as
    simp only [chk] at h
    split at h
    · exact r_lst (snds as X W _ g h)
    · cases h
  · simp only [chk] at h
    split at h
    · exact r_dic0
    · cases h
  · rename_i a b
    simp only [chk] at h
    split at h
    · simp only [Bool.and_eq_true, Bool.not_eq_true'] at h
      obtain ⟨⟨⟨h1, h2⟩, h3⟩, h4⟩ := h
      exact r_dic1 h3 h4 (snd a X W _ g h1).pe (snd b X W _ g h2).pe
    · cases h
  · rename_i t it c el
    have h' := h
    simp only [chk] at h'
    split at h'
    · rename_i pos
      obtain ⟨p1, p2, p3, p4, p5, p6, p7, p8⟩ := comp_parts g h
      have pe := pe_lc (pos := pos) g.calm g.nd p1 p2 p5 p6 p7 p8
      rw [p3] at pe
      exact PE.imp pe fun σ H Q q => t_compR p4 q
    · cases h'
inductive RpM (c : Cfg) (H Hs : Hp) : List Bool → List V → List PV → Prop
  | nil : RpM c H Hs [] [] []
  | v {bs : List Bool} {v : V} {vs : List V} {x : PV} {xs : List PV} : Rpv H c.fz c.om v x → RpM c H Hs bs vs xs → RpM c H Hs (false :: bs) (v :: vs) (x :: xs)
  | m {bs : List Bool} {A : Addr} {vs : List V} {d : PyData} {xs : List PV} : ¬ c.fz A → A ∉ c.om → Hs A = none → ownRp H c.fz A d → (∀ j : Nat, bs[j]? = some true → vs[j]? ≠ some (V.ref A)) → RpM c H Hs bs vs xs → RpM c H Hs (true :: bs) (V.ref A :: vs) (.d d :: xs)
theorem RpM.fresh : ∀ {bs : List Bool} {vs : List V} {xs : List PV}, RpM c H Hs bs vs xs → ∀ (j : Nat) (A : Addr), bs[j]? = some true → vs[j]? = some (V.ref A) → Hs A = none
  | _, _, _, .nil, j, A, h, _ => by simp at h
  | _, _, _, .v _ t, 0, A, h, _ => by simp at h
  | _, _, _, .v _ t, j + 1, A, h, h2 => RpM.fresh t j A (by simpa using h) (by simpa using h2)
  | _, _, _, .m _ _ h0 _ _ t, 0, A, h, h2 => by simp at h2; subst h2; exact h0
  | _, _, _, .m _ _ _ _ _ t, j + 1, A, h, h2 => RpM.fresh t j A (by simpa using h) (by simpa using h2)
theorem RpM.from : ∀ {bs : List Bool} {vs : List V} {xs : List PV}, (∀ A, H1 A = none → Hs A = none) → RpM c H H1 bs vs xs → RpM c H Hs bs vs xs
  | _, _, _, _, .nil => .nil
  | _, _, _, f, .v r t => .v r (RpM.from f t)
  | _, _, _, f, .m a b h0 r d t => .m a b (f _ h0) r d (RpM.from f t)
theorem RpM.env {env : PEnv} : ∀ {bs : List Bool} {vs : List V} {xs : List PV}, RpM c H Hs bs vs xs → RpM { c with env := env } H Hs bs vs xs
  | _, _, _, .nil => .nil
  | _, _, _, .v r t => .v r (RpM.env t)
  | _, _, _, .m a b h0 r d t => .m a b h0 r d (RpM.env t)
def PoM (ea : Nat → Addr) (W : XK) (bs : List Bool) (c : Cfg) (H : Hp) (r : R (List PV)) (Q : List V → Hp → Prop) : Prop :=
  match r with
  | .ok v os => ∀ (x : List V) (H' : Hp) (c' : Cfg), Step c H c' H' → c'.env = c.env → c'.os = os → RpM c' H' H bs x v → Q x H'
  | .er ex os => ∀ (cls : Value) (d : Option Addr) (H' : Hp) (c' : Cfg), Step c H c' H' → c'.env = c.env → c'.os = os → RpX ea c' H' cls d ex → W cls d H'
  | .st => False
def tM (call : CallT) (ea : Nat → Addr) (W : XK) (bs : List Bool) (es : List Ex) : TA := fun σ H Q => ∃ c, Rel c σ H ∧ PoM ea W bs c H (evs call es c.env c.os) Q
theorem m_nil : PA X [] (tM call ea W [] []) := PA.imp pa_nil fun σ H Q ⟨c, rel, q⟩ => q [] H c (Step.refl rel.wf) rfl rfl .nil
theorem m_consV {bs : List Bool} {a : Ex} {as : List Ex} {e : Expr} {es : List Expr} (hs : isStar a = false) (hb : isBor a = false) (hst : stE e = false) (ha : PE X e (tE call ea W a)) (hr : PA X es (tM call ea W bs as)) :
    PA X (e :: es) (tM call ea W (false :: bs) (a :: as)) := by
  refine PA.imp (pa_cons ha hr (star_no hst _ _)) fun σ H Q ⟨c, rel, q⟩ => ⟨c, rel, ?_⟩
  rw [evs_cons hs] at q
  cases hv : ev call a c.env c.os with
  | ok v os =>
    rw [hv] at q
    intro x H1 c1 s1 e1 o1 r1
    rw [hb] at r1
    have rel1 := rel.step s1 e1
    simp only [R.bind] at q
    rw [← e1, ← o1] at q
    refine ⟨c1, rel1, ?_⟩
    cases hw : evs call as c1.env c1.os with
    | ok vs os2 =>
      rw [hw] at q
      exact fun xs H2 c2 s2 e2 o2 r2 => q (x :: xs) H2 c2 (s1.trans s2) (e2.trans e1) o2 (.v (Rpv.step s2 rel1.wf r1) (r2.from fun A h => s1.back h))
    | er ex os2 => rw [hw] at q; exact fun cls d H' c' s e o r => q cls d H' c' (s1.trans s) (e.trans e1) o r
    | st => rw [hw] at q; exact q
  | er ex os => rw [hv] at q; exact q
  | st => rw [hv] at q; exact q
theorem m_consM {bs : List Bool} {a : Ex} {as : List Ex} {e : Expr} {es : List Expr} (hs : isStar a = false) (hraw : isRaw a = true) (hst : stE e = false) (ha : PE X e (tR call ea W a)) (hr : PA X es (tM call ea W bs as)) :
    PA X (e :: es) (tM call ea W (true :: bs) (a :: as)) := by
  refine PA.imp (pa_cons ha hr (star_no hst _ _)) fun σ H Q ⟨c, rel, q⟩ => ⟨c, rel, ?_⟩
  rw [evs_cons hs] at q
  cases hv : ev call a c.env c.os with
  | ok v os =>
    rw [hv] at q
    obtain ⟨d, rfl, hd⟩ := raw_dat hraw v os hv
    refine ⟨hd, fun A H1 c1 s1 e1 o1 nf no h0 r => ?_⟩
    have rel1 := rel.step s1 e1
    simp only [R.bind] at q
    rw [← e1, ← o1] at q
    refine ⟨c1, rel1, ?_⟩
    cases hw : evs call as c1.env c1.os with
    | ok vs os2 =>
      rw [hw] at q
      refine fun xs H2 c2 s2 e2 o2 r2 => q (.ref A :: xs) H2 c2 (s1.trans s2) (e2.trans e1) o2 (.m (fun z => ?_) (fun z => ?_) h0 (r.step s2 rel1.wf no) (fun j hj hx => ?_) (r2.from fun A h => s1.back h))
      · rcases s2.fzn A z with z | z
        · exact nf z
        · exact r.tracked z
      · obtain ⟨more, e3, f⟩ := s2.om
        rw [e3] at z
        rcases List.mem_append.mp z with z | z
        · exact no z
        · exact r.tracked (f A z)
      · exact r.tracked (r2.fresh j A hj hx)
    | er ex os2 => rw [hw] at q; exact fun cls d H' c' s e o r => q cls d H' c' (s1.trans s) (e.trans e1) o r
    | st => rw [hw] at q; exact q
  | er ex os => rw [hv] at q; exact q
  | st => rw [hv] at q; exact q
def setSt : List (Bool × Nat) → List V → L2.St → L2.St
  | (_, i) :: ts, v :: vs, σ => setSt ts vs (σ.set i (some v))
  | _, _, σ => σ
theorem setP_ok : ∀ (ts : List (Bool × Nat)) (vs : List V) (xs : List PV) (c : Cfg) (σ : L2.St) (env' : PEnv), RelS c0 H0 c σ H → RpM c H Hs (ts.map (·.1)) vs xs → setP ts xs c.env = some env' → (∀ A, Hs A = none → H0 A = none) →
    (∀ (l : Nat) (A : Addr), (ts.map (·.1))[l]? = some true → vs[l]? = some (V.ref A) → ∀ (j : Nat) (d' : PyData), c.env[j]? = some (Sl.m d') → σ[j]? ≠ some (some (V.ref A))) → RelS c0 H0 { c with env := env' } (setSt ts vs σ) H
  | [], _, _, c, σ, env', rs, r, h, _, _ => by
    cases r
    simp only [setP] at h
    cases h
    exact rs
  | (true, i) :: ts, vs, xs, c, σ, env', rs, r, h, hf, hne => by
    cases r with
    | @m _ A vs d xs nf no h0 ro hd t =>
      simp only [setP] at h
      split at h
      · rename_i hh
        simp only [Bool.and_eq_true, decide_eq_true_eq] at hh
        have rs1 := rs.setm (i := i) (d := d) nf no (hf _ h0) ro (hne 0 A (by simp) (by simp)) hh.1
        have t1 : RpM { c with env := c.env.set i (.m d) } H Hs (ts.map (·.1)) vs xs := t.env
        refine setP_ok ts vs xs { c with env := c.env.set i (.m d) } _ env' rs1 t1 h hf fun l B hl hB j d' hj hs => ?_
        have hil : i < σ.length := by rw [rs.rel.len]; exact hh.1
        rcases get_set hj with ⟨rfl, _⟩ | ⟨n1, hj⟩
        · rw [List.getElem?_set_self hil] at hs
          cases hs
          exact hd l hl hB
        · rw [List.getElem?_set_ne (Ne.symm n1)] at hs
          exact hne (l + 1) B (by simpa using hl) (by simpa using hB) j d' hj hs
      · cases h
  | (false, i) :: ts, vs, xs, c, σ, env', rs, r, h, hf, hne => by
    cases r with
    | @v _ v vs x xs rv t =>
      have h : (if decide (i < c.env.length) then setP ts xs (c.env.set i (.v x)) else none) = some env' := by
        cases x <;> simpa only [setP] using h
      split at h
      · rename_i hh
        have hi := of_decide_eq_true hh
        have rs1 := rs.setv (i := i) rv hi
        have t1 : RpM { c with env := c.env.set i (.v x) } H Hs (ts.map (·.1)) vs xs := t.env
        refine setP_ok ts vs xs { c with env := c.env.set i (.v x) } _ env' rs1 t1 h hf fun l B hl hB j d' hj hs => ?_
        rcases get_set hj with ⟨rfl, e⟩ | ⟨n1, hj⟩
        · cases e
        · rw [List.getElem?_set_ne (Ne.symm n1)] at hs
          exact hne (l + 1) B (by simpa using hl) (by simpa using hB) j d' hj hs
      · cases h
theorem t_par {ts : List (Bool × Nat)} {es : List Ex} (q : tS call ea W c0 H0 (.par ts es) D σ H) : tM call ea W (ts.map (·.1)) es σ H fun vs H1 => D.nx (setSt ts vs σ) H1 ∧ vs.length = ts.length := by
  obtain ⟨c, rs, q⟩ := q
  simp only [ex] at q
  refine ⟨c, rs.rel, ?_⟩
  cases hv : evs call es c.env c.os with
  | st => rw [hv] at q; exact q
  | er x os => rw [hv] at q; exact fun cls d H' c' s e o r => q cls d H' c' (rs.stp.trans s) o r
  | ok vs os =>
    rw [hv] at q
    intro xs H1 c1 s1 e1 o1 r1
    simp only [R.sps] at q
    split at q
    · rename_i env' hs
      have rs1 := rs.step s1 e1
      have rs2 := setP_ok ts xs vs c1 σ env' rs1 r1 (by rw [e1]; exact hs) (fun A h => rs.stp.back h) fun l A hl hA j d' hj hq => ?_
      · refine ⟨q _ _ _ rs2 rfl o1 (s1.kp rs.rel.wf), ?_⟩
        have : ∀ {bs : List Bool} {vs : List V} {xs : List PV}, RpM c1 H1 H bs vs xs → vs.length = bs.length := by
          intro bs vs xs r
          induction r with
          | nil => rfl
          | v _ _ ih => simp [ih]
          | m _ _ _ _ _ _ ih => simp [ih]
        rw [this r1]
        simp
      · exact fresh_ne rs (r1.fresh l A hl hA) j d' (by rw [← e1]; exact hj) hq
    · exact q.elim
end
end FC
end
section
set_option Elab.async false
set_option linter.all false
set_option maxRecDepth 100000
set_option maxHeartbeats 4000000
namespace FC
open PySem L2 PyProof.Rows
variable [EA]
def isComp : Expr → Bool
  | .ListComp .. => true
  | .SetComp .. => true
  | .DictComp .. => true
  | _ => false
def swYes (sc : Scope) (y : Str) (py : Pos) : Expr → Bool
  | .ListComp _ _ scope pos => lclB sc y && (py.line == pos.line) && !(scope.names.any fun (n, k) => n == y && (k == .local || k == .cell))
  | _ => false
def celB (sc : Scope) (x : Str) : Bool :=
  match sc.names.lookup x with
  | some .cell => true
  | _ => false
theorem sw_no {e : Expr} {t : Option Expr} {l : Nat} {env : Env} (h : isComp e = false) : swapsWith e t l env = pure false := by
  cases e <;> first | rfl | (simp [isComp] at h)
theorem lclB_ok {sc : Scope} {x : Str} (h : lclB sc x = true) : sc.names.lookup x = some .local := by
  unfold lclB at h
  split at h
  · assumption
  · cases h
theorem celB_ok {sc : Scope} {x : Str} (h : celB sc x = true) : sc.names.lookup x = some .cell := by
  unfold celB at h
  split at h
  · assumption
  · cases h
theorem locB_ok {sc : Scope} {y : Str} (hl : locB sc y = true) : Loc sc y := by
  unfold locB at hl
  split at hl
  · exact .inl (by assumption)
  · exact .inr (by assumption)
  · cases hl
theorem sw_cell {e : Expr} {y : Str} {py : Pos} {l : Nat} {env : Env} (h : env.scope.names.lookup y = some .cell) : swapsWith e (some (.Name y py)) l env = pure false := by
  have ky : env.kindOf y = some .cell := h
  have e1 : ((some NameKind.cell : Option NameKind) == some .local) = false := by decide
  cases e <;> first
    | rfl
    | (unfold swapsWith; simp only [ky, e1]; simp)
theorem sw_tup {e : Expr} {ts : List Expr} {kt : Nat} {pt : Pos} {l : Nat} {env : Env} : swapsWith e (some (.Tuple ts kt pt)) l env = pure false := by
  cases e <;> rfl
def freeT : Expr → Bool
  | .Tuple vs _ _ => vs.all (foldedForSure 8) || decide (4 ≤ vs.length)
  | _ => true
theorem st_free {e : Expr} {ts : List Expr} {kt : Nat} {pt : Pos} {env : Env} (h : freeT e = true) : swappedStores [.Tuple ts kt pt] e env = pure none := by
  cases e with
  | Tuple vs k p =>
    simp only [freeT, Bool.or_eq_true, decide_eq_true_eq] at h
    unfold swappedStores
    dsimp only
    split
    · rfl
    · rename_i h1
      split
      · rfl
      · split
        · rfl
        · rcases h with h | h
          · rw [if_pos h]
          · exfalso
            simp at h1
            omega
  | _ => rfl
section
variable {G : Glob} {call : CallT} {ea : Nat → Addr} {k : Nat} {W : XK} {X : Cx} {c0 c c1 : Cfg} {H0 H H1 Hs : Hp} {σ σ' : L2.St} {D : Ends}
theorem st_two {x y : Str} {px py pt p2 : Pos} {a b : Expr} {kt k2 : Nat} {env : Env} (hk : env.scope.kind = .function) (hx : env.scope.names.lookup x = some .local) (hy : env.scope.names.lookup y = some .local) (hxy : x ≠ y) (hl : (py.line == px.line) = true)
    (sa : stE a = false) (sb : stE b = false) (hf : [a, b].all (foldedForSure 8) = false) (hc : [a, b].all (constantsAlone 8) = false) : swappedStores [.Tuple [.Name x px, .Name y py] kt pt] (.Tuple [a, b] k2 p2) env = pure (some [x, y]) := by
  have kx : env.kindOf x = some .local := hx
  have ky : env.kindOf y = some .local := hy
  have hb : env.blockKind = .function := by unfold Env.blockKind; rw [hk]; rfl
  have ns : ([a, b].any fun | .Starred .. => true | _ => false) = false := by
    have f : ∀ e : Expr, stE e = false → (match e with | .Starred .. => true | _ => false) = false := fun e he => by cases e <;> first | rfl | (simp [stE] at he)
    simp only [List.any_cons, List.any_nil, Bool.or_false]
    rw [f a sa, f b sb]
    rfl
  have hd : ([x, y].eraseDups.length != [x, y].length) = false := by
    have : (y == x) = false := beq_eq_false_iff_ne.mpr (Ne.symm hxy)
    simp [List.eraseDups, List.eraseDupsBy, List.eraseDupsBy.loop, this]
  unfold swappedStores
  simp only [List.length_cons, List.length_nil, hb]
  have hl' : py.line = px.line := by simpa using hl
  rw [if_neg (by decide)]
  refine (if_neg ?_).trans ?_
  · exact fun h => Bool.false_ne_true (ns.symm.trans h)
  simp only [List.filterMap_cons, List.filterMap_nil, kx, ky, hl', Expr.pos, List.head?_cons, Option.map_some, Option.getD_some, beq_self_eq_true, Bool.and_self, if_true]
  rw [if_neg (by rw [hd]; simp), if_neg (by rw [hf]; decide), if_neg (by rw [hc]; decide)]
theorem st_three {x y z : Str} {px py pz pt p2 : Pos} {a b d : Expr} {kt k2 : Nat} {env : Env} (hk : env.scope.kind = .function) (hx : env.scope.names.lookup x = some .local) (hy : env.scope.names.lookup y = some .local) (hz : env.scope.names.lookup z = some .local) (hxy : x ≠ y) (hxz : x ≠ z) (hyz : y ≠ z) (hl : (py.line == px.line) = true) (hl2 : (pz.line == px.line) = true)
    (sa : stE a = false) (sb : stE b = false) (sd : stE d = false) (hf : [a, b, d].all (foldedForSure 8) = false) (hc : [a, b, d].all (constantsAlone 8) = false) : swappedStores [.Tuple [.Name x px, .Name y py, .Name z pz] kt pt] (.Tuple [a, b, d] k2 p2) env = pure (some [x, y, z]) := by
  have kx : env.kindOf x = some .local := hx
  have ky : env.kindOf y = some .local := hy
  have kz : env.kindOf z = some .local := hz
  have hb : env.blockKind = .function := by unfold Env.blockKind; rw [hk]; rfl
  have ns : ([a, b, d].any fun | .Starred .. => true | _ => false) = false := by
    have f : ∀ e : Expr, stE e = false → (match e with | .Starred .. => true | _ => false) = false := fun e he => by cases e <;> first | rfl | (simp [stE] at he)
    simp only [List.any_cons, List.any_nil, Bool.or_false]
    rw [f a sa, f b sb, f d sd]
    rfl
  have hd : ([x, y, z].eraseDups.length != [x, y, z].length) = false := by
    have h1 : (y == x) = false := beq_eq_false_iff_ne.mpr (Ne.symm hxy)
    have h2 : (z == x) = false := beq_eq_false_iff_ne.mpr (Ne.symm hxz)
    have h3 : (z == y) = false := beq_eq_false_iff_ne.mpr (Ne.symm hyz)
    simp [List.eraseDups, List.eraseDupsBy, List.eraseDupsBy.loop, h1, h2, h3]
  unfold swappedStores
  simp only [List.length_cons, List.length_nil, hb]
  have hl' : py.line = px.line := by simpa using hl
  have hl2' : pz.line = px.line := by simpa using hl2
  rw [if_neg (by decide)]
  refine (if_neg ?_).trans ?_
  · exact fun h => Bool.false_ne_true (ns.symm.trans h)
  simp only [List.filterMap_cons, List.filterMap_nil, kx, ky, kz, hl', hl2', Expr.pos, List.head?_cons, Option.map_some, Option.getD_some, beq_self_eq_true, Bool.and_self, if_true]
  rw [if_neg (by rw [hd]; simp), if_neg (by rw [hf]; decide), if_neg (by rw [hc]; decide)]
end
end FC
end
section
set_option Elab.async false
set_option linter.all false
set_option maxRecDepth 100000
set_option maxHeartbeats 4000000
namespace FC
open PySem L2 PyProof.Rows
variable [EA]
def spX (ea : Nat → Addr) (cl : Nat) (vs : List V) (H : Hp) (Q : XK) : Prop := ∃ (c : Cfg) (ds : List PyData), WF H c ∧ RpA H c.fz vs ds ∧ ds.length = (fldN cl).length ∧ ∀ (cls : Value) (d : Option Addr) (H' : Hp) (c' : Cfg), Step c H c' H' → c'.os = c.os → RpX ea c' H' cls d ⟨cl, ds⟩ → Q cls d H'
structure GdS (G : Glob) (call : CallT) (ea : Nat → Addr) (k : Nat) (W : XK) (X : Cx) : Prop where
  g : Gd G call ea k W X
  kd : X.env.scope.kind = .function
  po : PassesOwn (model X.prog X.w) X.A X.env X.xe
  fn : ∀ x, X.fn x = true
  mke : ∀ x cl, G.exc x = some cl → ∀ (as : List Ex) (e : Expr) (es : List Expr) (p pos : Pos), glB X.env.scope x = true → (∀ e' ∈ e :: es, stE e' = false) → PA X (e :: es) (tA call ea W as) → PMk X (.Call (.Name x p) (e :: es) [] pos) (fun σ H Q => tA call ea W as σ H fun vs H1 => spX ea cl vs H1 Q)
section
variable {G : Glob} {call : CallT} {ea : Nat → Addr} {k : Nat} {W : XK} {X : Cx} {c0 c c1 : Cfg} {H0 H H1 Hs : Hp} {σ σ' : L2.St} {D : Ends}
theorem pset_d (hu : X.A.units + 1 < cLine) : PSet X (fun o i v H Q => ∃ a H', o = .ref a ∧ DPut H a i v H' ∧ Q H') := by
  intro pins s σ H o i v ov iv u Q I ro ri rv ⟨a, H', e, dp, q⟩
  subst e
  obtain rfl : ov = Value.ref a := ro
  exact d_setItem hu I dp ri rv fun s' I' => ⟨H', I', q⟩
theorem sole_eq {t v : Expr} {l : Nat} {env : Env} : swapsWithSole [t] v l env = swapsWith v (some t) l env := by first | rfl | (rw [swapsWithSole])
theorem st_nx {x : Str} {px pt p2 sp : Pos} {o i a b : Expr} {kt k2 : Nat} {env : Env} : swappedStores [.Tuple [.Name x px, .Subscript o i sp] kt pt] (.Tuple [a, b] k2 p2) env = pure none := by
  unfold swappedStores
  simp only [List.length_cons, List.length_nil]
  split
  · rfl
  · split
    · rfl
    · have : ∀ (f : Expr → Option Str), f (.Subscript o i sp) = none → ([Expr.Name x px, Expr.Subscript o i sp].filterMap f).length ≠ 2 := fun f hf => by
        simp only [List.filterMap_cons, hf, List.filterMap_nil]
        cases f (.Name x px) <;> simp
      refine (if_pos ?_).trans rfl
      simp only [Bool.or_eq_true, bne_iff_ne, ne_eq]
      left
      exact this _ rfl
theorem p_nx2 (s : GdS G call ea k W X) {i : Nat} {a b o : Ex} {x : Str} {w : Str} {a' b' o' : Expr} {j kt k2 : Nat} {px p1 sp tp p2 pos : Pos} (hy : X.N[i]? = some x) (hl : locB X.env.scope x = true) (ho : isBor o = false) (h1 : isBor a = false) (h2 : isBor b = false) (s1 : stE a' = false) (s2 : stE b' = false)
    (hao : PE X o' (tE call ea W o)) (ha : PE X a' (tE call ea W a)) (hb : PE X b' (tE call ea W b)) :
    PS X (.Assign [.Tuple [.Name x px, .Subscript o' (.Constant (.str w) j p1) sp] kt tp] (.Tuple [a', b'] k2 p2) pos) (tS call ea W c0 H0 (.nx2 i o w a b)) := by
  have hu : X.A.units + 1 < cLine := by have := s.g.hu; omega
  refine PS.imp (ps_asg (pe_tup (pa_cons ha (pa_one hb s2) (star_no s1 _ _))) (pg_tup (n := 2) s.g.calm (pgs_cons (pg_name s.g.nd hy (locB_ok hl) (.inl (s.fn x))) (pgs_cons (pg_sub hao pe_str (pset_d hu) (fun _ => rfl)) pgs_nil rfl) rfl) rfl rfl) (sole_eq.trans sw_tup) st_nx rfl) fun D σ H ⟨c, rs, q⟩ => ?_
  simp only [ex] at q
  refine tS.dat rs q fun d os xv H1 c1 s1 e1 o1 rs1 kp1 _ r1 q1 => ?_
  have r1 := r1 h1
  rw [← e1, ← o1] at q1
  refine tS.dat rs1 q1 fun d' os2 yv H2 c2 s2 e2 o2 rs2 kp2 _ r2 q2 => ?_
  have r2 := r2 h2
  split at q2
  · rename_i hi
    have hi : i < c2.env.length := by rw [e2]; exact of_decide_eq_true hi
    refine ⟨by rw [sizeLine_eq]; simp, fun p hp => ?_⟩
    have s3 := step_tup s2.wf hp (.tup [xv, yv])
    have kp3 := s3.kp s2.wf
    have rs3 := (rs2.step s3 rfl).setv (i := i) (v := xv) (pv := .d d) (Rp.keep kp3 (Rp.keep kp2 r1)) hi
    refine ⟨p, [xv, yv], rfl, SqT.of upd_same, rfl, xv, [yv], rfl, yv, [], rfl, ⟨_, rs3.rel, ?_⟩⟩
    show PoE ea W (isBor o) _ _ _ (ev call o (c2.env.set i (.v (.d d))) c2.os) _
    rw [← e2, ← o2] at q2
    match hv : ev call o (c2.env.set i (.v (.d d))) c2.os, q2 with
    | .ok (.o n) os3, q2 =>
      intro ov H4 c4 s4 e4 o4 r4
      rw [ho] at r4
      obtain ⟨ad, hn, rfl⟩ := r4
      dsimp only at q2
      split at q2
      · rename_i os4 hop
        have rs4 := rs3.step s4 e4
        have kp4 := s4.kp rs3.rel.wf
        obtain ⟨H5, dp, s5, kp5⟩ := oput_ok s4.wf hn (by rw [o4]; exact hop) (Rp.keep kp4 (Rp.keep kp3 r2))
        exact ⟨ad, H5, rfl, dp, rfl, q2 _ H5 _ (rs4.step s5 rfl) e4 rfl ((kp3.trans kp4).trans kp5)⟩
      · exact q2.elim
  · exact q2.elim
theorem p_rais (s : GdS G call ea k W X) {cl : Nat} {as : List Ex} {x : Str} {e : Expr} {es : List Expr} {p p1 pos : Pos} (hx : G.exc x = some cl) (hg : glB X.env.scope x = true) (hst : ∀ e' ∈ e :: es, stE e' = false) (ha : PA X (e :: es) (tA call ea W as)) :
    PS X (.Raise (some (.Call (.Name x p) (e :: es) [] p1)) none pos) (tS call ea W c0 H0 (.rais cl as)) := by
  refine PS.imp (ps_raise s.g.calm s.g.tk (s.mke x cl hx _ e es p p1 hg hst ha)) fun D σ H ⟨c, rs, q⟩ => ?_
  simp only [ex] at q
  refine ⟨c, rs.rel, ?_⟩
  cases hv : evs call as c.env c.os with
  | st => rw [hv] at q; exact q
  | er y os => rw [hv] at q; exact fun cls d H' c' s e o r => q cls d H' c' (rs.stp.trans s) o r
  | ok vs os =>
    rw [hv] at q
    intro xs H1 c1 s1 e1 o1 r1
    simp only [R.sps] at q
    split at q
    · rename_i ds hd
      split at q
      · rename_i hl
        exact ⟨c1, ds, s1.wf, r1.data hd, of_decide_eq_true hl, fun cls d H' c' s o r => q cls d H' c' ((rs.stp.trans s1).trans s) (o.trans o1) r⟩
      · exact q.elim
    · exact q.elim
end
end FC
end
section
set_option Elab.async false
set_option linter.all false
set_option maxRecDepth 100000
set_option maxHeartbeats 4000000
namespace FC
open PySem L2 PyProof.Rows
variable [EA]
section
variable {G : Glob} {call : CallT} {ea : Nat → Addr} {k : Nat} {W : XK} {X : Cx} {c0 c c1 : Cfg} {H0 H H1 Hs : Hp} {σ σ' : L2.St} {D : Ends}
theorem p_frx (s : GdS G call ea k W X) {i j : Nat} {e : Ex} {b : S} {x y f : Str} {a' : Expr} {kk : Nat} {px py tp p cp pos : Pos} {body : List Stmt} (hx : X.N[i]? = some x) (hlx : locB X.env.scope x = true) (hy : X.N[j]? = some y) (hly : locB X.env.scope y = true)
    (hg : glB X.env.scope f = true) (hf : f = "enumerate") (hs : stE a' = false) (hb : isBor e = false) (he : PE X a' (tE call ea W e)) (hbody : PSs X body (tS call ea W c0 H0 b)) :
    PS X (.For (.Tuple [.Name x px, .Name y py] kk tp) (.Call (.Name f p) [a'] [] cp) body [] pos) (tS call ea W c0 H0 (.frx i j e b)) := by
  obtain ⟨q1, q2, q3⟩ := glB_gl hg
  subst hf
  have m := s.g.blt "enumerate" (by decide)
  have hst := star_no hs [] X.env
  refine PS.imp (ps_for s.po s.g.calm (pi_enum q1 m (pa_one he hs) hst) (pg_tup (n := 2) s.g.calm (pgs_cons (pg_name (i := i) (pos := px) s.g.nd hx (locB_ok hlx) (.inl (s.fn _))) (pgs_cons (pg_name (i := j) (pos := py) s.g.nd hy (locB_ok hly) (.inl (s.fn _))) pgs_nil (each_cons rfl)) (each_cons rfl)) (each_len _) (each_no _ fun z hz => by simp at hz; rcases hz with rfl | rfl <;> rfl)) hbody) fun D σ H ⟨c, rs, q⟩ => ?_
  refine ⟨c, rs.rel, ?_⟩
  simp only [ex] at q
  cases hv : ev call e c.env c.os with
  | st => rw [hv] at q; exact q
  | er x os => rw [hv] at q; exact fun cls d H' c' s e o r => q cls d H' c' (rs.stp.trans s) o r
  | ok v os1 =>
    rw [hv] at q
    cases v with
    | xs xs =>
      intro xv H1 c1 s1 e1 o1 r1
      rw [hb] at r1
      obtain ⟨a, vs, rfl, f1, l1, x1⟩ := (show Rpv H1 c1.fz c1.om xv (.xs xs) from r1)
      have rs1 := rs.step s1 e1
      have q1 := PoS.after (s1.kp rs.rel.wf) q
      dsimp only at q1
      rw [← e1, ← o1] at q1
      generalize hF : (fun env2 os2 => ex call b env2 os2) = F at q1
      refine ⟨a, vs, rfl, SqL.of l1, ?_⟩
      refine ⟨fun n m σ' H' => ∃ c', RelS c0 H0 c' σ' H' ∧ Rpv H' c'.fz c'.om (.ref a) (.xs xs) ∧ Kp H1 H' c1.fz c'.fz ∧ PoS ea W c0 H0 c' H' (forX i j F n (xs.drop n) c'.env c'.os) D ∧ m = xs.length - n ∧ n ≤ xs.length, ⟨xs.length, c1, rs1, ⟨a, vs, rfl, f1, l1, x1⟩, Kp.refl, q1, by simp, Nat.zero_le _⟩, ?_⟩
      rintro n m σ2 H2 ⟨c2, rs2, rx2, kp2, q2, rfl, hle⟩
      obtain ⟨_, us, e0, f2, l2, x2⟩ := rx2
      cases e0
      by_cases hlt : n < xs.length
      · right
        have hxn : xs[n]? = some xs[n] := List.getElem?_eq_getElem hlt
        obtain ⟨v, hv1, rv⟩ := x2.get (om := c2.om) hxn
        rw [List.drop_eq_getElem_cons hlt] at q2
        simp only [forX] at q2
        split at q2
        · rename_i hc
          simp only [Bool.and_eq_true, decide_eq_true_eq] at hc
          obtain ⟨⟨hi, hj⟩, hij⟩ := hc
          refine ⟨⟨us, v, SqL.of l2, hv1⟩, fun σ' H' => ∃ c', RelS c0 H0 c' σ' H' ∧ Rpv H' c'.fz c'.om (.ref a) (.xs xs) ∧ Kp H1 H' c1.fz c'.fz ∧ PoS ea W c0 H0 c' H' (forX i j F (n + 1) (xs.drop (n + 1)) c'.env c'.os) D, fun σ' H' ⟨c', a1, a2, a3, a4⟩ => ⟨xs.length - (n + 1), by omega, c', a1, a2, a3, a4, rfl, hlt⟩, ?_⟩
          rintro z H3 ⟨T, w, rfl, hT, rfl, hw⟩
          have hwv := hw us (SqL.of l2)
          rw [hv1] at hwv
          cases hwv
          have s3 := step_tup rs2.rel.wf hT (.tup [.int (n : Nat), v])
          have rs3 := rs2.step s3 rfl
          have kp3 := s3.kp rs2.rel.wf
          have rv3 := Rpv.step s3 rs2.rel.wf rv
          have rx3 : Rpv (upd H2 T (.tup [.int (n : Nat), v])) c2.fz c2.om (.ref a) (.xs xs) := Rpv.step s3 rs2.rel.wf ⟨a, us, rfl, f2, l2, x2⟩
          have rs4 := (rs3.setv (i := i) (v := .int (n : Nat)) (pv := .d (.int (n : Nat))) (.int _) hi).setv (i := j) (v := v) (pv := .x xs[n].1 xs[n].2) rv3 (by simpa using hj)
          refine ⟨T, [.int (n : Nat), v], rfl, .inl (.inl upd_same), rfl, ?_⟩
          refine ⟨_, _, rfl, _, _, rfl, rfl, _, rs4, ?_⟩
          have q4 := PoS.after (c1 := { c2 with env := (c2.env.set i (.v (.d (.int (n : Nat))))).set j (.v (.x xs[n].1 xs[n].2)) }) kp3 q2
          have : ex call b ((c2.env.set i (.v (.d (.int (n : Nat))))).set j (.v (.x xs[n].1 xs[n].2))) c2.os = F ((c2.env.set i (.v (.d (.int (n : Nat))))).set j (.v (.x xs[n].1 xs[n].2))) c2.os := by rw [← hF]
          show PoS ea W c0 H0 _ _ (ex call b ((c2.env.set i (.v (.d (.int (n : Nat))))).set j (.v (.x xs[n].1 xs[n].2))) c2.os) _
          rw [this]
          refine PoS.then q4 fun env5 os5 σ5 H5 c5 _ rs5 e5 o5 kp5 q5 => ⟨c5, rs5, ?_, (kp2.trans kp3).trans kp5, q5⟩
          obtain ⟨a', us', e0, f3, l3, x3⟩ := rx3
          cases e0
          exact ⟨a, us', rfl, kp5.sub a f3, kp5.lst a us' f3 l3, x3.keep kp5⟩
        · exact q2.elim
      · left
        have ei : n = xs.length := by omega
        subst ei
        refine ⟨⟨us, SqL.of l2, by rw [x2.length]; exact Nat.le_refl _⟩, ?_⟩
        rw [List.drop_of_length_le (Nat.le_refl _)] at q2
        exact q2 σ2 H2 c2 rs2 rfl rfl Kp.refl
    | _ => exact q.elim
end
end FC
end
section
set_option Elab.async false
set_option linter.all false
set_option maxRecDepth 100000
set_option maxHeartbeats 4000000
namespace FC
open PySem L2 PyProof.Rows
variable [EA]
def namesC (N : List Str) (sc : Scope) : List (Bool × Nat) → List Expr → Bool
  | [], [] => true
  | (b, i) :: ts, .Name x _ :: es => !b && decide (N[i]? = some x) && locB sc x && namesC N sc ts es
  | _, _ => false
def notLoc (sc : Scope) (tes : List Expr) : Bool := tes.any fun
  | .Name x _ => !lclB sc x
  | _ => false
theorem fm_lt {α β : Type} {f : α → Option β} : ∀ {l : List α}, (∃ x ∈ l, f x = none) → (l.filterMap f).length < l.length
  | [], ⟨x, hx, _⟩ => absurd hx (by simp)
  | y :: l, ⟨x, hx, e⟩ => by
    have hle := List.length_filterMap_le f l
    rcases List.mem_cons.mp hx with rfl | hx
    · rw [List.filterMap_cons, e]
      simp only [List.length_cons]
      omega
    · have ih := fm_lt (f := f) ⟨x, hx, e⟩
      rw [List.filterMap_cons]
      split
      · simp only [List.length_cons]; omega
      · simp only [List.length_cons]; omega
theorem st_cells {tes es' : List Expr} {kt k2 : Nat} {pt p2 : Pos} {env : Env} (h : notLoc env.scope tes = true) : swappedStores [.Tuple tes kt pt] (.Tuple es' k2 p2) env = pure none := by
  unfold swappedStores
  dsimp only
  split
  · rfl
  · split
    · rfl
    · rw [if_pos]
      simp only [Bool.or_eq_true]
      left
      have : ∀ l : Nat, (tes.filterMap fun | .Name id pos => (if (env.kindOf id == some .local && pos.line == l) = true then some id else none) | _ => none).length < tes.length := fun l => by
        refine fm_lt ?_
        simp only [notLoc, List.any_eq_true] at h
        obtain ⟨e, he, h2⟩ := h
        refine ⟨e, he, ?_⟩
        split at h2
        · rename_i x p
          have : env.kindOf x ≠ some .local := fun z => by
            have z' : env.scope.names.lookup x = some .local := z
            simp [lclB, z'] at h2
          have : (env.kindOf x == some .local) = false := beq_eq_false_iff_ne.mpr this
          simp [this]
        · cases h2
      have := this ((tes.head?.map (·.pos.line)).getD 0)
      simp only [bne_iff_ne, ne_eq]
      exact Nat.ne_of_lt this
def gNs : List (Bool × Nat) → TGs
  | [] => gNil
  | (_, i) :: ts => gCons (gName i) (gNs ts)
theorem gNs_of {Q : L2.St → Hp → Prop} {H : Hp} : ∀ {ts : List (Bool × Nat)} {xs : List V} {σ : L2.St}, xs.length = ts.length → Q (setSt ts xs σ) H → gNs ts xs σ H Q
  | [], [], σ, _, q => ⟨rfl, q⟩
  | (b, i) :: ts, x :: xs, σ, hl, q => ⟨x, xs, rfl, gNs_of (by simpa using hl) q⟩
section
variable {G : Glob} {call : CallT} {ea : Nat → Addr} {k : Nat} {W : XK} {X : Cx} {c0 c c1 : Cfg} {H0 H H1 Hs : Hp} {σ σ' : L2.St} {D : Ends}
theorem namesC_st {N : List Str} {sc : Scope} : ∀ {ts : List (Bool × Nat)} {es : List Expr}, namesC N sc ts es = true → es.length = ts.length ∧ ∀ e ∈ es, stE e = false
  | [], [], _ => ⟨rfl, by simp⟩
  | (b, i) :: ts, .Name x p :: es, h => by
    simp only [namesC, Bool.and_eq_true] at h
    obtain ⟨h1, h2⟩ := namesC_st h.2
    refine ⟨by simp [h1], fun e he => ?_⟩
    rcases List.mem_cons.mp he with rfl | he
    · rfl
    · exact h2 e he
  | [], _ :: _, h => by simp [namesC] at h
theorem pgs_names (hN : X.N.Nodup) (hf : ∀ x, X.fn x = true) : ∀ {ts : List (Bool × Nat)} {es : List Expr}, namesC X.N X.env.scope ts es = true → PGs X es (gNs ts)
  | [], [], _ => pgs_nil
  | (b, i) :: ts, .Name x p :: es, h => by
    simp only [namesC, Bool.and_eq_true, Bool.not_eq_true', decide_eq_true_eq] at h
    exact pgs_cons (pg_name (pos := p) hN h.1.1.2 (locB_ok h.1.2) (.inl (hf x))) (pgs_names hN hf h.2) (each_cons rfl)
  | [], _ :: _, h => by simp [namesC] at h
theorem setP_plain {N : List Str} {sc : Scope} : ∀ (ts : List (Bool × Nat)) (es : List Expr) (xs : List V) (vs : List PV) (c : Cfg) (σ : L2.St) (env' : PEnv), namesC N sc ts es = true → RelS c0 H0 c σ H → RpL c H xs vs → setP ts vs c.env = some env' → RelS c0 H0 { c with env := env' } (setSt ts xs σ) H ∧ xs.length = ts.length
  | [], [], _, _, c, σ, env', _, rs, r, h => by
    cases r with
    | nil => simp only [setP, Option.some.injEq] at h; subst h; exact ⟨rs, rfl⟩
    | cons _ _ => simp [setP] at h
  | (b, i) :: ts, .Name x p :: es, _, _, c, σ, env', hn, rs, r, h => by
    simp only [namesC, Bool.and_eq_true, Bool.not_eq_true', decide_eq_true_eq] at hn
    obtain ⟨⟨⟨hb, _⟩, _⟩, hn⟩ := hn
    subst hb
    cases r with
    | nil => simp [setP] at h
    | cons r1 r2 =>
      rename_i v vs pv pvs
      simp only [setP] at h
      split at h
      · rename_i hi
        have rs1 := rs.setv r1 (of_decide_eq_true hi)
        have r2' : RpL { c with env := c.env.set i (.v pv) } H vs pvs := by
          clear h rs rs1
          induction r2 with
          | nil => exact .nil
          | cons a _ ih => exact .cons a ih
        obtain ⟨q1, q2⟩ := setP_plain ts es vs pvs _ _ env' hn rs1 r2' h
        exact ⟨q1, by simp [q2]⟩
      · cases h
  | [], _ :: _, _, _, _, _, _, h, _, _, _ => by simp [namesC] at h
theorem p_parC (g : Gd G call ea k W X) (hfn : ∀ x, X.fn x = true) {ts : List (Bool × Nat)} {es : List Ex} {tes es' : List Expr} {kt k2 : Nat} {pt p2 pos : Pos} (hn : namesC X.N X.env.scope ts tes = true) (hl : notLoc X.env.scope tes = true) (h3 : ts.length ≤ 3) (hc : chks G X.N X.env.scope es es' = true) :
    PS X (.Assign [.Tuple tes kt pt] (.Tuple es' k2 p2) pos) (tS call ea W c0 H0 (.par ts es)) := by
  have pa := snds es X W es' g hc
  obtain ⟨n1, n2⟩ := namesC_st hn
  refine PS.imp (ps_asg (pe_tup pa) (pg_tup (n := tes.length) g.calm (pgs_names g.nd hfn hn) (each_len tes) (each_no tes n2)) (sole_eq.trans sw_tup) (st_cells hl)) fun D σ H q => ?_
  obtain ⟨c, rs, q⟩ := q
  simp only [ex] at q
  refine ⟨c, rs.rel, ?_⟩
  cases hv : evs call es c.env c.os with
  | st => rw [hv] at q; exact q
  | er x os => rw [hv] at q; exact fun cls d H' c' s e o r => q cls d H' c' (rs.stp.trans s) o r
  | ok vs os =>
    rw [hv] at q
    intro xs H1 c1 s1 e1 o1 r1
    simp only [R.sps] at q
    split at q
    · rename_i env' hs
      have hlen : xs.length = ts.length := (setP_plain ts tes xs vs c1 σ env' hn (rs.step s1 e1) r1 (by rw [e1]; exact hs)).2
      refine ⟨by rw [sizeLine_eq]; omega, fun p hp => ?_⟩
      have st := step_tup s1.wf hp (.tup xs)
      obtain ⟨rs2, _⟩ := setP_plain ts tes xs vs c1 σ env' hn ((rs.step s1 e1).step st rfl) (r1.step st s1.wf) (by rw [e1]; exact hs)
      exact ⟨p, xs, rfl, SqT.of upd_same, by rw [n1]; exact hlen, gNs_of hlen (q _ _ _ rs2 rfl o1 ((s1.kp rs.rel.wf).trans (st.kp s1.wf)))⟩
    · exact q.elim
end
end FC
end
section
set_option Elab.async false
set_option linter.all false
set_option maxRecDepth 100000
set_option maxHeartbeats 4000000
namespace FC
open PySem L2 PyProof.Rows
variable [EA]
def namesM (N : List Str) (sc : Scope) : List (Bool × Nat) → List Expr → Bool
  | [], [] => true
  | (_, i) :: ts, .Name x _ :: es => decide (N[i]? = some x) && locB sc x && namesM N sc ts es
  | _, _ => false
section
variable {G : Glob} {call : CallT} {ea : Nat → Addr} {k : Nat} {W : XK} {X : Cx} {c0 c c1 : Cfg} {H0 H H1 Hs : Hp} {σ σ' : L2.St} {D : Ends}
theorem namesM_st {N : List Str} {sc : Scope} : ∀ {ts : List (Bool × Nat)} {es : List Expr}, namesM N sc ts es = true → es.length = ts.length ∧ ∀ e ∈ es, stE e = false
  | [], [], _ => ⟨rfl, by simp⟩
  | (b, i) :: ts, .Name x p :: es, h => by
    simp only [namesM, Bool.and_eq_true] at h
    obtain ⟨h1, h2⟩ := namesM_st h.2
    refine ⟨by simp [h1], fun e he => ?_⟩
    rcases List.mem_cons.mp he with rfl | he
    · rfl
    · exact h2 e he
  | [], _ :: _, h => by simp [namesM] at h
theorem pgs_namesM (hN : X.N.Nodup) (hf : ∀ x, X.fn x = true) : ∀ {ts : List (Bool × Nat)} {es : List Expr}, namesM X.N X.env.scope ts es = true → PGs X es (gNs ts)
  | [], [], _ => pgs_nil
  | (b, i) :: ts, .Name x p :: es, h => by
    simp only [namesM, Bool.and_eq_true, decide_eq_true_eq] at h
    exact pgs_cons (pg_name (pos := p) hN h.1.1 (locB_ok h.1.2) (.inl (hf x))) (pgs_namesM hN hf h.2) (each_cons rfl)
  | [], _ :: _, h => by simp [namesM] at h
theorem RpM.stepT (s : Step c H c H1) (w : WF H c) : ∀ {bs : List Bool} {vs : List V} {xs : List PV}, RpM c H Hs bs vs xs → RpM c H1 Hs bs vs xs
  | _, _, _, .nil => .nil
  | _, _, _, .v r t => .v (Rpv.step s w r) (RpM.stepT s w t)
  | _, _, _, .m a b e o n t => .m a b e (o.step s w b) n (RpM.stepT s w t)
theorem RpM.len {bs : List Bool} {vs : List V} {xs : List PV} (r : RpM c H Hs bs vs xs) : vs.length = bs.length := by
  induction r with
  | nil => rfl
  | v _ _ ih => simp [ih]
  | m _ _ _ _ _ _ ih => simp [ih]
theorem p_parCM (g : Gd G call ea k W X) (hfn : ∀ x, X.fn x = true) {ts : List (Bool × Nat)} {es : List Ex} {tes es' : List Expr} {kt k2 : Nat} {pt p2 pos : Pos} (hn : namesM X.N X.env.scope ts tes = true) (hl : notLoc X.env.scope tes = true) (h3 : ts.length ≤ 3) (pa : PA X es' (tM call ea W (ts.map (·.1)) es)) :
    PS X (.Assign [.Tuple tes kt pt] (.Tuple es' k2 p2) pos) (tS call ea W c0 H0 (.par ts es)) := by
  obtain ⟨n1, n2⟩ := namesM_st hn
  refine PS.imp (ps_asg (pe_tup pa) (pg_tup (n := tes.length) g.calm (pgs_namesM g.nd hfn hn) (each_len tes) (each_no tes n2)) (sole_eq.trans sw_tup) (st_cells hl)) fun D σ H q => ?_
  obtain ⟨c, rs, q⟩ := q
  simp only [ex] at q
  refine ⟨c, rs.rel, ?_⟩
  cases hv : evs call es c.env c.os with
  | st => rw [hv] at q; exact q
  | er x os => rw [hv] at q; exact fun cls d H' c' s e o r => q cls d H' c' (rs.stp.trans s) o r
  | ok vs os =>
    rw [hv] at q
    intro xs H1 c1 s1 e1 o1 r1
    simp only [R.sps] at q
    split at q
    · rename_i env' hs
      have hlen : xs.length = ts.length := by rw [r1.len]; simp
      refine ⟨by rw [sizeLine_eq]; omega, fun p hp => ?_⟩
      have st := step_tup s1.wf hp (.tup xs)
      have rs1 := rs.step s1 e1
      have rs2 := setP_ok ts xs vs c1 σ env' (rs1.step st rfl) (r1.stepT st s1.wf) (by rw [e1]; exact hs) (fun A h => rs.stp.back h) fun l A hl hA j d' hj hq => ?_
      · exact ⟨p, xs, rfl, SqT.of upd_same, by rw [n1]; exact hlen, gNs_of hlen (q _ _ _ rs2 rfl o1 ((s1.kp rs.rel.wf).trans (st.kp s1.wf)))⟩
      · exact fresh_ne rs (r1.fresh l A hl hA) j d' (by rw [← e1]; exact hj) hq
    · exact q.elim
end
end FC
end
section
set_option Elab.async false
set_option linter.all false
set_option maxRecDepth 100000
set_option maxHeartbeats 4000000
namespace FC
open PySem L2 PyProof.Rows
variable [EA]
section
variable {X : Cx}
def rDUpd : V → List V → Hp → VK → Prop := fun x xs H Q => ∃ (a b : Addr) (ks ls : List (Key × V)), x = .ref a ∧ xs = [.ref b] ∧ a ≠ b ∧ H a = some (.dK ks) ∧ H b = some (.dK ls) ∧ ks.length + ls.length ≤ sizeLine ∧ Q .non (upd H a (.dK (mergeK ks ls)))
theorem mt_dupd : MtR X "dict.update" rDUpd := by
  intro pins s σ H x xs v us Q I rx rxs ⟨a, b, ks, ls, e1, e2, hab, ha, hb, hz, q⟩
  subst e1 e2
  cases rx
  rw [Vals.ref1 rxs]
  obtain ⟨z1, d1, vs, r1, dd1⟩ := dk_of I.hok ha
  obtain ⟨z2, d2, ws, r2, dd2⟩ := dk_of I.hok hb
  refine call_meetsIn PySem.F.slot_dict_update dd1.typeIs PySem.F.entry_dict_update (PySem.F.args_dict_update_2 _ _) (meets_dict_update (mixKind X.prog X.w) a b hab d2) ⟨vs, ws, dd1, dd2, by rw [← r1.length, ← r2.length]; exact hz, fun h' dd' _ hs => ?_⟩
  have he : ∃ q, h'.get? a = some q := let ⟨q, _, _, hq, _⟩ := dd'; ⟨q, hq⟩
  have hl := length_mergeK ls ks
  exact ⟨.non, _, d_write (t' := s.toks) I (by rw [ha]; exact True.intro) hs he (dk_new (by omega) d1 (KV.merge r2 r1) dd'), rfl, q⟩
def tDUpd (to : TE) (t : TA) : TE := fun σ H Q => to σ H fun x H1 => (∃ a kvs, x = V.ref a ∧ H1 a = some (.dK kvs)) ∧ t σ H1 fun xs H2 => rDUpd x xs H2 Q
variable {o e : Expr} {to : TE} {t : TA} {apos cpos : Pos}
theorem pe_dupd (ho : PE X o to) (ha : PA X [e] t) (hbase : attributeBase o "update" X.env (eval o X.env) = eval o X.env) (hs : stE e = false) (hline : (apos.endLine == cpos.line) = true) :
    PE X (.Call (.Attribute o "update" apos) [e] [] cpos) (tDUpd to t) := by
  refine ⟨fun pins s σ H Q I h => ?_⟩
  refine wpAny_Call_method_late hbase (few_one hs) hline rfl (thn (ho.run pins s σ H _ I h) fun v s1 ⟨x, H1, I1, r1, ty, q1⟩ => ?_)
  obtain ⟨a, kvs, rfl, hka⟩ := ty
  cases r1
  obtain ⟨z1, d1, vs, rv, dd⟩ := dk_of I1.hok hka
  refine ⟨"dict", "dict.update", PySem.F.plainAttrs_dict, PySem.F.slot_dict_update, PySem.F.type_dict_update, dd.typeIs, dd.mapOf.noDict, ?_⟩
  have hA := ha.run cpos pins s1 σ H1 _ I1 q1
  rw [star_no hs] at hA ⊢
  refine Calls.callWith_builtin rfl (Calls.evalArgs_plain ?_)
  exact thn hA fun us s2 ⟨vs, H2, I2, r2, q2⟩ => mt_dupd pins s2 σ H2 (.ref a) vs (.ref a) us Q I2 rfl r2 q2
end
section
variable {G : Glob} {call : CallT} {ea : Nat → Addr} {k : Nat} {W : XK} {X : Cx} {c0 c c1 : Cfg} {H0 H H1 : Hp} {σ σ' : L2.St} {D : Ends}
theorem p_dupd {i : Nat} {e : Ex} {x : Str} {e' : Expr} {p1 ap cp pos : Pos} (hv : varB X.N X.env.scope i x = true) (hb : isBor e = false) (hs : stE e' = false) (hl : (ap.endLine == cp.line) = true) (he : PE X e' (tE call ea W e)) :
    PS X (.Expr (.Call (.Attribute (.Name x p1) "update" ap) [e'] [] cp) pos) (tS call ea W c0 H0 (.dupd i e)) := by
  obtain ⟨h1, h2, h3, h4⟩ := varB_ok hv
  refine PS.imp (ps_expr (pe_dupd (pe_var h1 h2 h3 h4) (pa_one he hs) rfl hs hl)) fun D σ H ⟨c, rs, q⟩ => ?_
  simp only [ex] at q
  split at q
  · rename_i kvs hi
    obtain ⟨a, e1, nf, no, ws, hy, ry⟩ := rs.rel.slot i _ hi
    refine ⟨.ref a, e1, ⟨a, ws, rfl, hy⟩, ?_⟩
    refine tS.dat rs q fun d os y H1 c1 s1 e2 o1 rs1 kp1 r0 r1 q1 => ?_
    have rr := r1 hb
    clear r1
    split at q1
    · rename_i ms
      split at q1
      · rename_i hz
        have hz := fit_le hz
        cases rr with
        | dct hfz gb rb =>
          rename_i b ls
          have hi1 : c1.env[i]? = some (.m (.dict kvs)) := by rw [e2]; exact hi
          have g1 : H1 a = some (.dK ws) := s1.keep a _ hy no (by simp)
          have ry1 := RpK.keep kp1 ry
          have nf1 : ¬ c1.fz a := fun z => by
            rcases s1.fzn a z with z | z
            · exact nf z
            · rw [hy] at z; cases z
          have hab : a ≠ b := fun z => nf1 (by rw [z]; exact hfz)
          have own1 : OwnO (H1 a) := by rw [g1]; trivial
          have kp2 : Kp H1 (upd H1 a (.dK (mergeK ws ls))) c1.fz c1.fz := Kp.mut own1 nf1
          obtain ⟨rs2, _⟩ := rs1.mut (d' := .dict (mergeD kvs ms)) (o := .dK (mergeK ws ls)) hi1 e1 ⟨_, upd_same, RpK.merge (RpK.keep kp2 ry1) (RpK.keep kp2 rb)⟩
          exact ⟨a, b, ws, ls, rfl, rfl, hab, g1, gb, by rw [ry.length, rb.length]; exact hz, q1 σ _ _ rs2 (by rw [e2]) o1 kp2⟩
      · exact q1.elim
    · exact q1.elim
  · exact q.elim
end
end FC
end
section
set_option Elab.async false
set_option linter.all false
set_option maxRecDepth 100000
set_option maxHeartbeats 4000000
namespace FC
open PySem L2 PyProof.Rows
variable [EA]
section
variable {G : Glob} {call : CallT} {ea : Nat → Addr} {k : Nat} {W : XK} {X : Cx} {c0 c c1 : Cfg} {H0 H H1 : Hp} {σ : L2.St} {D : Ends}
theorem p_tput (g : Gd G call ea k W X) {i j : Nat} {e : Ex} {x y : Str} {e' : Expr} {py px sp pos : Pos} (hy : varB X.N X.env.scope j y = true) (hx : varB X.N X.env.scope i x = true) (hb : isBor e = false) (he : PE X e' (tE call ea W e)) :
    PS X (.Assign [.Subscript (.Name y py) (.Name x px) sp] e' pos) (tS call ea W c0 H0 (.tput j i e)) := by
  obtain ⟨h1, h2, h3, h4⟩ := varB_ok hx
  obtain ⟨g1, g2, g3, g4⟩ := varB_ok hy
  refine PS.imp (ps_tput g.hu (pe_var g1 g2 g3 g4) (pe_var h1 h2 h3 h4) he sw_sub) fun D σ H ⟨c, rs, q⟩ => ?_
  simp only [ex] at q
  refine tS.dat rs q fun d os v H1 c1 s1 e1 o1 rs1 kp1 _ r1 q1 => ?_
  have r1 := r1 hb
  split at q1
  · rename_i n xd hj hi
    split at q1
    · rename_i kk hk
      split at q1
      · rename_i os2 ho
        rw [← e1] at hj hi
        obtain ⟨v1, z1, rr⟩ := rs1.rel.slot i _ hi
        obtain ⟨v2, z2, a, ha, rfl⟩ := rs1.rel.slot j _ hj
        obtain ⟨b, rfl, nk⟩ := nkAt_of hk rr
        unfold tabPut at ho
        split at ho
        · rename_i kvs hkv
          split at ho
          · rename_i hz
            cases ho
            rw [← o1] at hkv
            obtain ⟨h0, xs, w1, w2, w3, w4⟩ := rs1.rel.wf.obj n a _ ha hkv
            have hz := of_decide_eq_true hz
            refine ⟨_, z2, _, z1, a, kk, xs, ⟨b, c1.fz, kvs, rfl, rfl, h0, w1, w2, w3, nk⟩, by rw [w2.length]; exact hz, ?_⟩
            rintro xs' ⟨b', u, e3, rv, rfl⟩ nd
            cases e3
            have hl : (storedH xs kk b u).length ≤ sizeLine := by
              have := storedH_le xs kk b u
              have := w2.length
              omega
            obtain ⟨s2, kp2⟩ := step_tput rs1.rel.wf ha hkv h0 w1 (w2.put nk rv r1) nd hl
            exact q1 σ _ _ (rs1.step s2 rfl) e1 (by rw [← o1]) kp2
          · cases ho
        · cases ho
      · exact q1.elim
    · exact q1.elim
  · exact q1.elim
end
end FC
end
section
set_option Elab.async false
set_option linter.all false
set_option maxRecDepth 100000
set_option maxHeartbeats 4000000
namespace FC
open PySem PySem.Spec L2 PyProof.Rows
variable [EA]
section
variable {G : Glob} {call : CallT} {ea : Nat → Addr} {k : Nat} {W : XK} {X : Cx} {c0 c c1 : Cfg} {H0 H H1 : Hp} {σ σ' : L2.St} {D : Ends}
def rRemD (K : PySem.W.Frag) : V → List V → Hp → VK → Prop := fun x xs G Q => ∃ (a : Addr) (y : V) (d : PyData) (ds : List PyData) (us : List V) (j : Nat) (z : PyData), x = V.ref a ∧ xs = [y] ∧ G a = some (.lst us) ∧ Dp K G (V.ref a) (.list ds) ∧ Dp K G y d ∧
  SeqAt.shaped (.list ds) = true ∧ SeqAt.shaped d = true ∧ ds[j]? = some z ∧ PyData.eqv z d = true ∧ (∀ (m : Nat) (z' : PyData), m < j → ds[m]? = some z' → PyData.eqv z' d = false) ∧ Q .non (upd G a (.lst (us.eraseIdx j)))
theorem mt_removeD (hu : X.A.units + 65 < cLine) : MtR X "list.remove" (rRemD X.K) := by
  rintro pn sh sl G x xs v us Q J rx rxs ⟨a, y, d, ds, vs, j, z, rfl, rfl, hG, hl, hy, sl1, sd, hz, hzj, hno, q⟩
  cases rx
  cases rxs with
  | cons ry rt =>
    rename_i uy ut
    cases rt
    obtain ⟨bs, r1⟩ := Dp.reads J d y uy hy ry
    have hxs : PyData.canLayAll0 ds = true := SeqAt.canLay_of_shaped sl1
    have room : X.A.units + 1 + min (PyData.depthAll ds) d.depth < cLine := room_in_shaped sd hu
    obtain ⟨zlen, its, n, r, hlen, e0⟩ := J.lstM hG
    cases hl with
    | lst hs ha =>
      rename_i xs'
      have exs : xs' = vs := J.list_inj hs (SqL.of hG)
      subst exs
      obtain ⟨as, h4⟩ := Dp.readsAll J ds _ its ha r
      have hn : its.length = ds.length := SeqAt.ReadsAll.length ds its as h4
      have hmap : its.map (SeqAt.readOf sh.heap) = ds := SeqAt.readsAll_map ds its as hxs h4
      obtain ⟨hjd, _⟩ := List.getElem?_eq_some_iff.mp hz
      have hjl : j < its.length := by omega
      have hj : j < its.toArray.size := by simpa using hjl
      have look : ∀ (m : Nat) (hm : m < its.toArray.size) (z' : PyData), ds[m]? = some z' → SeqAt.readOf sh.heap its.toArray[m] = z' := fun m hm z' hz' => by
        have hml : m < its.length := by simpa using hm
        rw [← hmap, List.getElem?_map, List.getElem?_eq_getElem hml] at hz'
        simpa using Option.some.inj (show some (SeqAt.readOf sh.heap its[m]) = some z' from hz')
      refine call_meets PySem.F.slot_list_remove ⟨_, e0, rfl⟩ PySem.F.entry_list_remove (PySem.F.args_list_remove_2 _ _)
        (SeqAt.list_removeAt a its.toArray n none #[] uy (fun u => PyData.eqv (SeqAt.readOf sh.heap u) d) j hj ?_ ?_ (by rw [List.size_toArray, ← hlen]; exact zlen)) ⟨e0, SeqAt.items_eqAt (vs := its.toArray) (show ReadsAll sh.heap its.toArray.toList ds as from h4) r1 hxs (SeqAt.canLay_of_shaped sd) room, ?_⟩
      · show PyData.eqv (SeqAt.readOf sh.heap its.toArray[j]) d = true
        rw [look j hj z hz]
        exact hzj
      · intro m hm hmj
        have hmd : m < ds.length := by omega
        show PyData.eqv (SeqAt.readOf sh.heap its.toArray[m]) d = false
        rw [look m hm _ (List.getElem?_eq_getElem hmd)]
        exact hno m _ hmj (List.getElem?_eq_getElem hmd)
      · refine ⟨.non, _, J.lset (its' := its.eraseIdx j) hG e0 ?_ (r.eraseIdx j) ?_, rfl, q⟩
        · show its.toArray.eraseIdxIfInBounds j = (its.eraseIdx j).toArray
          rw [List.eraseIdxIfInBounds_toArray]
        · exact Nat.le_trans (List.length_eraseIdx_le ..) zlen
theorem remD_at : ∀ {y : PyData} {xs ys : List PyData}, remD y xs = some ys → ∃ (j : Nat) (z : PyData), xs[j]? = some z ∧ PyData.eqv z y = true ∧ (∀ (m : Nat) (z' : PyData), m < j → xs[m]? = some z' → PyData.eqv z' y = false) ∧ ys = xs.eraseIdx j
  | y, [], ys, h => by cases h
  | y, x :: xs, ys, h => by
    simp only [remD] at h
    split at h
    · rename_i e
      cases h
      exact ⟨0, x, rfl, e, fun m z' hm => absurd hm (by omega), rfl⟩
    · rename_i e
      simp only [Option.map_eq_some_iff] at h
      obtain ⟨zs, h1, rfl⟩ := h
      obtain ⟨j, z, g1, g2, g3, g4⟩ := remD_at h1
      refine ⟨j + 1, z, g1, g2, fun m z' hm hz => ?_, by rw [g4]; rfl⟩
      cases m with
      | zero => cases hz; simpa using e
      | succ m => exact g3 m z' (by omega) hz
theorem RpA.erase {H : Hp} {al : Addr → Prop} : ∀ {v : List V} {d : List PyData} (n : Nat), RpA H al v d → RpA H al (v.eraseIdx n) (d.eraseIdx n)
  | _, _, _, .nil => .nil
  | _, _, 0, .cons _ t => t
  | _, _, n + 1, .cons r t => .cons r (RpA.erase n t)
theorem p_rem (g : Gd G call ea k W X) {i : Nat} {e : Ex} {x : Str} {e' : Expr} {p1 ap cp pos : Pos} (hv : varB X.N X.env.scope i x = true) (hs : stE e' = false) (hl : (ap.endLine == cp.line) = true) (he : PE X e' (tE call ea W e)) :
    PS X (.Expr (.Call (.Attribute (.Name x p1) "remove" ap) [e'] [] cp) pos) (tS call ea W c0 H0 (.rem i e)) := by
  obtain ⟨h1, h2, h3, h4⟩ := varB_ok hv
  have hu := g.hu
  refine PS.imp (ps_expr (pe_bm PySem.F.plainAttrs_list PySem.F.slot_list_remove PySem.F.type_list_remove (mt_removeD (by omega)) (pe_var h1 h2 h3 h4) (pa_one he hs) rfl (few_one hs) hl (star_no hs _ _) rfl)) fun D σ H ⟨c, rs, q⟩ => ?_
  simp only [ex] at q
  split at q
  · rename_i xs hi
    obtain ⟨a, e1, nf, no, ys, hy, ry⟩ := rs.rel.slot i _ hi
    refine ⟨.ref a, e1, .inl ⟨rfl, ys, SqL.of hy⟩, ?_⟩
    refine tS.dat rs q fun d os y H1 c1 s1 e2 o1 rs1 kp1 r0 _ q1 => ?_
    split at q1
    · rename_i hsh
      simp only [Bool.and_eq_true] at hsh
      split at q1
      · rename_i zs hzs
        obtain ⟨j, z, g1', g2, g3, rfl⟩ := remD_at hzs
        have hi1 : c1.env[i]? = some (.m (.list xs)) := by rw [e2]; exact hi
        have g1 : H1 a = some (.lst ys) := s1.keep a _ hy no (by simp)
        have ry1 := RpA.keep kp1 ry
        have nf1 : ¬ c1.fz a := fun z => by
          rcases s1.fzn a z with z | z
          · exact nf z
          · rw [hy] at z; cases z
        have own1 : OwnO (H1 a) := by rw [g1]; trivial
        have kp2 : Kp H1 (upd H1 a (.lst (ys.eraseIdx j))) c1.fz c1.fz := Kp.mut own1 nf1
        obtain ⟨rs2, _⟩ := rs1.mut (d' := .list (xs.eraseIdx j)) (o := .lst (ys.eraseIdx j)) hi1 e1 ⟨_, upd_same, (RpA.keep kp2 ry1).erase j⟩
        have dl : Dp X.K H1 (.ref a) (.list xs) := .lst (SqL.of g1) (RpA.dp ry1 (SeqAt.canLay_of_shaped hsh.2))
        exact ⟨a, y, d, xs, ys, j, z, rfl, rfl, g1, dl, r0.ro.dp (SeqAt.canLay_of_shaped hsh.1), hsh.2, hsh.1, g1', g2, g3, q1 σ _ _ rs2 (by rw [e2]) o1 kp2⟩
      · exact q1.elim
    · exact q1.elim
  · exact q.elim
end
end FC
end
section
set_option Elab.async false
set_option linter.all false
set_option maxRecDepth 100000
set_option maxHeartbeats 4000000
namespace FC
open PySem L2 PyProof.Rows
variable [EA]
def isFrz : S → Bool
  | .frz _ => true
  | _ => false
def isCp : Ex → Bool
  | .compz _ _ _ _ _ => false
  | .stuck => false
  | _ => true
def swOk (sc : Scope) (x : Str) (px : Pos) (e : Expr) (a : Ex) : Bool := !isComp e || (swYes sc x px e && isCp a) || celB sc x
section
variable (G : Glob) (N : List Str) (sc : Scope)
def chkM : List (Bool × Nat) → List Ex → List Expr → Bool
  | [], as, es => as.isEmpty && es.isEmpty
  | (b, _) :: ts, as, es => (match as, es with
    | a :: as, e :: es => chk G N sc a e && !stE e && !isStar a && (if b then isRaw a else !isBor a) && chkM ts as es
    | _, _ => false)
mutual
def chkS : S → Stmt → Bool
  | .skip, _ => false
  | .seq _ _, _ => false
  | .frz _, _ => false
  | .set t e, st => (match st with
    | .Assign [tg] e' _ => chk G N sc e e' && !isBor e && (match t, tg with
      | .one i, .Name x px => decide (N[i]? = some x) && locB sc x && swOk sc x px e' e
      | .tup ts, .Tuple tes _ _ => tgtsB N sc ts tes && freeT e'
      | _, _ => false)
    | _ => false)
  | .own i e, st => (match st with
    | .Assign [.Name x px] e' _ => isRawA e && chk G N sc e e' && decide (N[i]? = some x) && locB sc x && swOk sc x px e' e
    | _ => false)
  | .par ts es, st => (match st with
    | .Assign [.Tuple tes _ _] (.Tuple es' _ _) _ => (namesC N sc ts tes && notLoc sc tes && decide (ts.length ≤ 3) && chks G N sc es es') || ((namesM N sc ts tes && notLoc sc tes && decide (ts.length ≤ 3) && chkM G N sc ts es es') || chkM G N sc ts es es' && !(es'.all (foldedForSure 8)) && !(es'.all (constantsAlone 8)) && (match ts, tes with
      | [(_, i), (_, j)], [.Name x px, .Name y py] => decide (N[i]? = some x) && decide (N[j]? = some y) && lclB sc x && lclB sc y && !decide (i = j) && !decide (x = y) && (py.line == px.line)
      | [(_, i), (_, j), (_, l)], [.Name x px, .Name y py, .Name z pz] => decide (N[i]? = some x) && decide (N[j]? = some y) && decide (N[l]? = some z) && lclB sc x && lclB sc y && lclB sc z && !decide (i = j) && !decide (i = l) && !decide (j = l) && !decide (x = y) && !decide (x = z) && !decide (y = z) && (py.line == px.line) && (pz.line == px.line)
      | _, _ => false))
    | _ => false)
  | .nx2 i o w a b, st => (match st with
    | .Assign [.Tuple [.Name x _, .Subscript o' (.Constant (.str w') _ _) _] _ _] (.Tuple [a', b'] _ _) _ => decide (N[i]? = some x) && locB sc x && decide (w = w') && chk G N sc o o' && chk G N sc a a' && chk G N sc b b' && !isBor o && !isBor a && !isBor b && !stE a' && !stE b'
    | _ => false)
  | .app i e, st => (match st with
    | .Expr (.Call (.Attribute (.Name x _) m ap) [e'] [] cp) _ => decide (m = "append") && varB N sc i x && chk G N sc e e' && !isBor e && !stE e' && (ap.endLine == cp.line)
    | _ => false)
  | .ext i e, st => (match st with
    | .Expr (.Call (.Attribute (.Name x _) m ap) [e'] [] cp) _ => decide (m = "extend") && varB N sc i x && chk G N sc e e' && !stE e' && (ap.endLine == cp.line)
    | _ => false)
  | .pop i j, st => (match st with
    | .Assign [.Name y _] (.Call (.Attribute (.Name x _) m ap) [] [] cp) _ => decide (m = "pop") && varB N sc j x && decide (N[i]? = some y) && locB sc y && (ap.endLine == cp.line)
    | _ => false)
  | .rem i e, st => (match st with
    | .Expr (.Call (.Attribute (.Name x _) m ap) [e'] [] cp) _ => decide (m = "remove") && varB N sc i x && chk G N sc e e' && !stE e' && (ap.endLine == cp.line)
    | _ => false)
  | .dput i a b, st => (match st with
    | .Assign [.Subscript (.Name x _) a' _] b' _ => varB N sc i x && chk G N sc a a' && chk G N sc b b' && !isBor b
    | _ => false)
  | .dupd i e, st => (match st with
    | .Expr (.Call (.Attribute (.Name x _) m ap) [e'] [] cp) _ => decide (m = "update") && varB N sc i x && chk G N sc e e' && !isBor e && !stE e' && (ap.endLine == cp.line)
    | _ => false)
  | .oput a w b, st => (match st with
    | .Assign [.Subscript a' (.Constant (.str w') _ _) _] b' _ => decide (w = w') && chk G N sc a a' && chk G N sc b b' && !isBor a && !isBor b
    | _ => false)
  | .tput j i e, st => (match st with
    | .Assign [.Subscript (.Name y _) (.Name x _) _] e' _ => varB N sc j y && varB N sc i x && chk G N sc e e' && !isBor e
    | _ => false)
  | .ife c a b, st => (match st with
    | .If c' a' b' _ => tst c && chk G N sc c c' && chkB a a' && chkB b b'
    | _ => false)
  | .fr t it b, st => (match st with
    | .For tg it' b' [] _ => tgtB N sc t tg && chkI G N sc it it' && (!itT it || isTupT t) && chkB b b'
    | _ => false)
  | .wh c b, st => (match st with
    | .While c' b' [] _ => tst c && chk G N sc c c' && chkB b b'
    | _ => false)
  | .ret e, st => (match st with
    | .Return (some e') _ => chk G N sc e e' && !isBor e
    | _ => false)
  | .ex e, st => (match st with
    | .Expr e' _ => chk G N sc e e' && !isComp e'
    | _ => false)
  | .rais cl as, st => (match st with
    | .Raise (some (.Call (.Name x _) (e :: es) [] _)) none _ => glB sc x && decide (G.exc x = some cl) && chks G N sc as (e :: es) && !(as.any isStar)
    | _ => false)
  | .stuck, _ => true
  | .frx i j e b, st => (match st with
    | .For (.Tuple [.Name x _, .Name y _] _ _) (.Call (.Name f _) [a'] [] _) b' [] _ => decide (N[i]? = some x) && locB sc x && decide (N[j]? = some y) && locB sc y && glB sc f && decide (f = "enumerate") && !stE a' && !isBor e && chk G N sc e a' && chkB b b'
    | _ => false)
  | .hand _, _ => false
def chkB : S → List Stmt → Bool
  | .skip, sts => sts.isEmpty
  | .seq a b, sts => if isFrz a then chkB b sts else (match sts with
    | st :: r => chkS a st && chkB b r
    | [] => false)
  | _, _ => false
end
end
section
variable {G : Glob} {call : CallT} {ea : Nat → Addr} {k : Nat} {W : XK} {X : Cx} {c0 c c1 : Cfg} {H0 H H1 Hs : Hp} {σ σ' : L2.St} {D : Ends}
theorem sndM (g : Gd G call ea k W X) : ∀ (ts : List (Bool × Nat)) (as : List Ex) (es : List Expr), chkM G X.N X.env.scope ts as es = true → PA X es (tM call ea W (ts.map (·.1)) as)
  | [], as, es, h => by
    simp only [chkM, Bool.and_eq_true, List.isEmpty_iff] at h
    rw [h.1, h.2]
    exact m_nil
  | (b, i) :: ts, as, es, h => by
    simp only [chkM] at h
    split at h
    · rename_i a as e es
      simp only [Bool.and_eq_true, Bool.not_eq_true'] at h
      obtain ⟨⟨⟨⟨h1, h2⟩, h3⟩, h4⟩, h5⟩ := h
      have ih := sndM g ts as es h5
      cases b with
      | true =>
        rw [if_pos rfl] at h4
        have h4' : isRawA a = true := by cases a <;> simp only [isRaw] at h4 <;> first | contradiction | rfl
        exact m_consM h3 h4 h2 (sndR g h4' h1) ih
      | false =>
        rw [if_neg Bool.false_ne_true] at h4
        exact m_consV h3 (by simpa using h4) h2 (snd a X W _ g h1).pe ih
    · cases h
theorem comp2_parts {t : Tgt} {it : It} {t1 : Tgt} {it1 : It} {c : Option Ex} {el : Ex} {el' tg it' tg1 it1' : Expr} {ifs : List Expr} {scope : Scope} {pos : Pos} (g : Gd G call ea k W X) (h : chk G X.N X.env.scope (.comp2 t it t1 it1 c el) (.ListComp el' [⟨tg, it', [], 0⟩, ⟨tg1, it1', ifs, 0⟩] scope pos) = true) :
    PI X tg it' (tI call ea W it) ∧ BlkOk X.N X.env.scope scope (ownOf X.N (tgtIx t ++ tgtIx t1)) ∧ (ownOf X.N (tgtIx t ++ tgtIx t1)).map (·.2) = tgtIx t ++ tgtIx t1 ∧ isBor el = false ∧
    (∀ (s : Shared) (H : Hp) (C : Addr) (cl : List (Str × Addr)) (fp : List Addr), PG (X.blk s H scope (compEnvC scope cl C X.env) fp) tg (tG t)) ∧
    (∀ (s : Shared) (H : Hp) (C : Addr) (cl : List (Str × Addr)) (fp : List Addr), PI (X.blk s H scope (compEnvC scope cl C X.env) fp) tg1 it1' (tI call ea W0 it1)) ∧
    (∀ (s : Shared) (H : Hp) (C : Addr) (cl : List (Str × Addr)) (fp : List Addr), PG (X.blk s H scope (compEnvC scope cl C X.env) fp) tg1 (tG t1)) ∧
    (∀ (s : Shared) (H : Hp) (C : Addr) (cl : List (Str × Addr)) (fp : List Addr), PTs (X.blk s H scope (compEnvC scope cl C X.env) fp) ifs (tCo call ea c)) ∧
    (∀ (s : Shared) (H : Hp) (C : Addr) (cl : List (Str × Addr)) (fp : List Addr), PE (X.blk s H scope (compEnvC scope cl C X.env) fp) el' (tE call ea W0 el)) ∧
    ((∀ x, foldedSetIterable it' X.env x = pure x) ∧ ∀ env x, foldedSetIterable it1' env x = pure x) ∧ ∀ i ∈ tgtIx t1, i ∈ (ownOf X.N (tgtIx t ++ tgtIx t1)).map (·.2) := by
  simp only [chk, Bool.and_eq_true, Bool.not_eq_true'] at h
  obtain ⟨⟨⟨⟨⟨⟨⟨⟨⟨⟨h1, h1b⟩, h2⟩, h3⟩, h3b⟩, h4⟩, h5⟩, h6⟩, h7⟩, h8⟩, h9⟩ := h
  obtain ⟨b1, b2⟩ := blkB_ok h7
  have hpi := sndI it X W tg it' g h3 (fun z => tup_of h1 (by simpa [z] using h8))
  have lcl : ∀ i ∈ tgtIx t ++ tgtIx t1, ∀ y, X.N[i]? = some y → (relS scope X.env.scope).names.lookup y = some .cell → False := fun i hi y hy hc => by
    simp only [List.all_eq_true] at h2
    have z := h2 i hi
    rw [hy] at z
    simp only [lclB, hc] at z
    cases z
  exact ⟨hpi, b1, b2, h6, fun s H C cl fp => s_tgt (X := X.blk s H scope (compEnvC scope cl C X.env) fp) g.calm g.nd t tg (fun i hi y hy hc => (lcl i (by simp [hi]) y hy hc).elim) h1,
    fun s H C cl fp => sndI it1 (X.blk s H scope (compEnvC scope cl C X.env) fp) W0 tg1 it1' (g.blk s H scope _ fp) h3b (fun z => tup_of h1b (by simpa [z] using h9)),
    fun s H C cl fp => s_tgt (X := X.blk s H scope (compEnvC scope cl C X.env) fp) g.calm g.nd t1 tg1 (fun i hi y hy hc => (lcl i (by simp [hi]) y hy hc).elim) h1b,
    fun s H C cl fp => sndC c (X.blk s H scope (compEnvC scope cl C X.env) fp) ifs (g.blk s H scope _ fp) h4,
    fun s H C cl fp => (snd el (X.blk s H scope (compEnvC scope cl C X.env) fp) W0 el' (g.blk s H scope _ fp) h5).pe,
    ⟨fun y => by cases it' <;> first | rfl | (exfalso; revert h3; cases it <;> simp [chkI]), fun e y => by cases it1' <;> first | rfl | (exfalso; revert h3b; cases it1 <;> simp [chkI])⟩, by rw [b2]; intro i hi; simp [hi]⟩
theorem set_any (s : GdS G call ea k W X) {i : Nat} {x : Str} {px pos : Pos} {e' : Expr} {e : Ex} {te : TE} (hx : X.N[i]? = some x) (hl : locB X.env.scope x = true) (hw : swOk X.env.scope x px e' e = true) (hc : chk G X.N X.env.scope e e' = true) (he : PE X e' te)
    (hcomp2 : ∀ t it t1 it1 c el, e = .comp2 t it t1 it1 c el → isBor el = false → ∀ σ H Q, te σ H Q → tLc2 (tI call ea W it) (tG t) tYes (tI call ea W0 it1) (tG t1) (tCo call ea c) (tE call ea W0 el) (tgtIx t ++ tgtIx t1) (tgtIx t1) σ H Q)
    (hcomp : ∀ t it c el, e = .comp t it c el → isBor el = false → ∀ σ H Q, te σ H Q → tLc (tI call ea W it) (tG t) (tCo call ea c) (tE call ea W0 el) (tgtIx t) σ H Q) :
    PS X (.Assign [.Name x px] e' pos) (tAsg te (gName i)) := by
  simp only [swOk, Bool.or_eq_true, Bool.not_eq_true', Bool.and_eq_true] at hw
  rcases hw with (hw | ⟨hw, hcp⟩) | hw
  · exact ps_set s.g.nd hx (locB_ok hl) he (sw_no hw) (.inl (s.fn x))
  · cases e' <;> simp only [swYes] at hw <;> try contradiction
    rename_i el' gs scope cpos
    simp only [Bool.and_eq_true, Bool.not_eq_true'] at hw
    obtain ⟨⟨w1, w2⟩, w3⟩ := hw
    cases e <;> try (exfalso; first | (simp [chk] at hc; done) | (simp [isCp] at hcp; done))
    · rename_i t it c el
      have hc' := hc
      simp only [chk] at hc'
      split at hc'
      · rename_i heq
        cases heq
        obtain ⟨p1, p2, p3, p4, p5, p6, p7, p8⟩ := comp_parts s.g hc
        have ps := ps_setLc (i := i) (y := x) (py := px) (spos := pos) s.g.calm s.g.nd hx (lclB_ok w1) (sw_true s.kd (lclB_ok w1) w2 w3) p1 p2 p5 p6 p7 p8
        rw [p3] at ps
        exact PS.imp ps fun D σ H q => hcomp t it c el rfl p4 _ _ _ q
      · cases hc'
    · rename_i t it t1 it1 c el
      have hc' := hc
      simp only [chk] at hc'
      split at hc'
      · rename_i heq
        cases heq
        obtain ⟨p1, p2, p3, p4, p5, p6, p7, p8, p9, p10, p11⟩ := comp2_parts s.g hc
        have ps := ps_setLc2 (i := i) (y := x) (py := px) (spos := pos) s.g.calm s.g.nd hx (lclB_ok w1) (sw_true s.kd (lclB_ok w1) w2 w3) p1 p2 p11 p5 (fun _ _ _ _ _ => pts_nil) p6 p7 p8 p9 p10.1 p10.2
        rw [p3] at ps
        exact PS.imp ps fun D σ H q => hcomp2 t it t1 it1 c el rfl p4 _ _ _ q
      · cases hc'
  · exact ps_set s.g.nd hx (locB_ok hl) he (sw_cell (celB_ok hw)) (.inl (s.fn x))
mutual
theorem sndS (s : GdS G call ea k W X) : ∀ (a : S) (st : Stmt), chkS G X.N X.env.scope a st = true → PS X st (tS call ea W c0 H0 a)
  | .skip, st, h => by simp [chkS] at h
  | .seq _ _, st, h => by simp [chkS] at h
  | .frz _, st, h => by simp [chkS] at h
  | .set t e, st, h => by
    simp only [chkS] at h
    split at h
    · rename_i tg e' pos
      simp only [Bool.and_eq_true, Bool.not_eq_true'] at h
      obtain ⟨⟨h1, h2⟩, h3⟩ := h
      split at h3
      · rename_i i x px
        simp only [Bool.and_eq_true, decide_eq_true_eq] at h3
        obtain ⟨⟨q1, q2⟩, q3⟩ := h3
        exact PS.imp (set_any s q1 q2 q3 h1 (snd e X W _ s.g h1).pe (fun t it t1 it1 c el he hb σ H Q q => by subst he; exact t_comp2 hb q) fun t it c el he hb σ H Q q => by subst he; exact t_comp hb q) fun D σ H q => t_set1 h2 q
      · rename_i ts tes kt pt
        simp only [Bool.and_eq_true, Bool.not_eq_true'] at h3
        refine PS.imp (ps_asg (snd e X W _ s.g h1).pe (s_tgt s.g.calm s.g.nd (.tup ts) (.Tuple tes kt pt) (fun i _ x _ _ => s.fn x) (by simpa only [tgtB] using h3.1)) (sole_eq.trans sw_tup) (st_free h3.2) rfl) fun D σ H q => t_setT h2 q
      · cases h3
    · cases h
  | .own i e, st, h => by
    simp only [chkS] at h
    split at h
    · simp only [Bool.and_eq_true, decide_eq_true_eq] at h
      obtain ⟨⟨⟨⟨h1, h2⟩, h3⟩, h4⟩, h5⟩ := h
      exact PS.imp (set_any s h3 h4 h5 h2 (sndR s.g h1 h2) (fun t it t1 it1 c el he hb σ H Q q => by subst he; exact t_comp2R hb q) fun t it c el he hb σ H Q q => by subst he; exact t_compR hb q) fun D σ H q => t_own q
    · cases h
  | .par ts es, st, h => by
    simp only [chkS] at h
    split at h
    · rename_i tes kt pt es' k2 p2 pos
      rcases Bool.or_eq_true_iff.mp h with h | h
      · simp only [Bool.and_eq_true, decide_eq_true_eq] at h
        exact p_parC s.g s.fn h.1.1.1 h.1.1.2 h.1.2 h.2
      replace h := Bool.or_eq_true_iff.mp h
      rcases h with h | h
      · simp only [Bool.and_eq_true, decide_eq_true_eq] at h
        exact p_parCM s.g s.fn h.1.1.1 h.1.1.2 h.1.2 (sndM s.g ts es es' h.2)
      simp only [Bool.and_eq_true, Bool.not_eq_true'] at h
      obtain ⟨⟨⟨h1, h2⟩, h3⟩, h4⟩ := h
      have pa := sndM s.g ts es es' h1
      split at h4
      · rename_i b1 i b2 j x px y py
        simp only [Bool.and_eq_true, Bool.not_eq_true', decide_eq_true_eq, decide_eq_false_iff_not] at h4
        obtain ⟨⟨⟨⟨⟨⟨g1, g2⟩, g3⟩, g4⟩, g5⟩, g6⟩, g7⟩ := h4
        simp only [chkM] at h1
        split at h1
        · rename_i a as e es2
          simp only [Bool.and_eq_true, Bool.not_eq_true'] at h1
          obtain ⟨⟨⟨⟨m1, m2⟩, m3⟩, m4⟩, m5⟩ := h1
          split at m5
          · rename_i a2 as2 e2 es3
            simp only [Bool.and_eq_true, Bool.not_eq_true', List.isEmpty_iff] at m5
            obtain ⟨⟨⟨⟨n1, n2⟩, n3⟩, n4⟩, n5, n6⟩ := m5
            subst n5
            subst n6
            exact PS.imp (ps_par s.g.calm s.g.nd g1 g2 g5 (lclB_ok g3) (lclB_ok g4) pa (st_two s.kd (lclB_ok g3) (lclB_ok g4) g6 g7 m2 n2 h2 h3) (sole_eq.trans sw_tup)) fun D σ H q => by
              obtain ⟨c, rel, z⟩ := t_par q
              refine ⟨c, rel, ?_⟩
              have conv : ∀ vs H1, (D.nx (setSt [(b1, i), (b2, j)] vs σ) H1 ∧ vs.length = 2) → ∃ v w, vs = [v, w] ∧ D.nx ((σ.set i (some v)).set j (some w)) H1 := fun vs H1 ⟨z1, z2⟩ => by
                match vs, z2 with
                | [v, w], _ => exact ⟨v, w, rfl, z1⟩
              cases hv : evs call [a, a2] c.env c.os with
              | ok vs os => rw [hv] at z; exact fun xs H1 c1 s1 e1 o1 r1 => conv xs H1 (z xs H1 c1 s1 e1 o1 r1)
              | er _ _ => rw [hv] at z; exact z
              | st => rw [hv] at z; exact z
          · cases m5
        · cases h1
      · rename_i b1 i b2 j b3 l x px y py zn pz
        simp only [Bool.and_eq_true, Bool.not_eq_true', decide_eq_true_eq, decide_eq_false_iff_not] at h4
        obtain ⟨⟨⟨⟨⟨⟨⟨⟨⟨⟨⟨⟨⟨g1, g2⟩, g3⟩, g4⟩, g5⟩, g6⟩, g7⟩, g8⟩, g9⟩, g10⟩, g11⟩, g12⟩, g13⟩, g14⟩ := h4
        simp only [chkM] at h1
        split at h1
        · rename_i a as e es2
          simp only [Bool.and_eq_true, Bool.not_eq_true'] at h1
          obtain ⟨⟨⟨⟨m1, m2⟩, m3⟩, m4⟩, m5⟩ := h1
          split at m5
          · rename_i a2 as2 e2 es3
            simp only [Bool.and_eq_true, Bool.not_eq_true', List.isEmpty_iff] at m5
            obtain ⟨⟨⟨⟨n1, n2⟩, n3⟩, n4⟩, n5⟩ := m5
            split at n5
            · rename_i a3 as3 e3 es4
              simp only [Bool.and_eq_true, Bool.not_eq_true', List.isEmpty_iff] at n5
              obtain ⟨⟨⟨⟨o1, o2⟩, o3⟩, o4⟩, o5, o6⟩ := n5
              subst o5
              subst o6
              exact PS.imp (ps_par3 s.g.calm s.g.nd g1 g2 g3 g7 g8 g9 (lclB_ok g4) (lclB_ok g5) (lclB_ok g6) pa (st_three s.kd (lclB_ok g4) (lclB_ok g5) (lclB_ok g6) g10 g11 g12 g13 g14 m2 n2 o2 h2 h3) (sole_eq.trans sw_tup)) fun D σ H q => by
                obtain ⟨c, rel, z⟩ := t_par q
                refine ⟨c, rel, ?_⟩
                have conv : ∀ vs H1, (D.nx (setSt [(b1, i), (b2, j), (b3, l)] vs σ) H1 ∧ vs.length = 3) → ∃ u v w, vs = [u, v, w] ∧ D.nx (((σ.set i (some u)).set j (some v)).set l (some w)) H1 := fun vs H1 ⟨z1, z2⟩ => by
                  match vs, z2 with
                  | [u, v, w], _ => exact ⟨u, v, w, rfl, z1⟩
                cases hv : evs call [a, a2, a3] c.env c.os with
                | ok vs os => rw [hv] at z; exact fun xs H1 c1 s1 e1 o1 r1 => conv xs H1 (z xs H1 c1 s1 e1 o1 r1)
                | er _ _ => rw [hv] at z; exact z
                | st => rw [hv] at z; exact z
            · cases n5
          · cases m5
        · cases h1
      · cases h4
    · cases h
  | .nx2 i o w a b, st, h => by
    simp only [chkS] at h
    split at h
    · simp only [Bool.and_eq_true, Bool.not_eq_true', decide_eq_true_eq] at h
      obtain ⟨⟨⟨⟨⟨⟨⟨⟨⟨⟨g1, g2⟩, rfl⟩, g4⟩, g5⟩, g6⟩, g7⟩, g8⟩, g9⟩, g10⟩, g11⟩ := h
      exact p_nx2 s g1 g2 g7 g8 g9 g10 g11 (snd o X W _ s.g g4).pe (snd a X W _ s.g g5).pe (snd b X W _ s.g g6).pe
    · cases h
  | .app i e, st, h => by
    simp only [chkS] at h
    split at h
    · simp only [Bool.and_eq_true, Bool.not_eq_true', decide_eq_true_eq] at h
      obtain ⟨⟨⟨⟨⟨rfl, g2⟩, g3⟩, g4⟩, g5⟩, g6⟩ := h
      exact p_app g2 g4 g5 g6 (snd e X W _ s.g g3).pe
    · cases h
  | .ext i e, st, h => by
    simp only [chkS] at h
    split at h
    · simp only [Bool.and_eq_true, Bool.not_eq_true', decide_eq_true_eq] at h
      obtain ⟨⟨⟨⟨rfl, g2⟩, g3⟩, g4⟩, g5⟩ := h
      exact p_ext g2 g4 g5 (snd e X W _ s.g g3).pe
    · cases h
  | .pop i j, st, h => by
    simp only [chkS] at h
    split at h
    · simp only [Bool.and_eq_true, Bool.not_eq_true', decide_eq_true_eq] at h
      obtain ⟨⟨⟨⟨rfl, g2⟩, g3⟩, g4⟩, g5⟩ := h
      exact p_pop s.g.nd (s.fn _) g3 g4 g2 g5
    · cases h
  | .rem i e, st, h => by
    simp only [chkS] at h
    split at h
    · simp only [Bool.and_eq_true, Bool.not_eq_true', decide_eq_true_eq] at h
      obtain ⟨⟨⟨⟨rfl, g2⟩, g3⟩, g5⟩, g6⟩ := h
      exact p_rem s.g g2 g5 g6 (snd e X W _ s.g g3).pe
    · cases h
  | .dput i a b, st, h => by
    simp only [chkS] at h
    split at h
    · simp only [Bool.and_eq_true, Bool.not_eq_true'] at h
      obtain ⟨⟨⟨g1, g2⟩, g3⟩, g4⟩ := h
      exact p_dput s.g g1 g4 (snd a X W _ s.g g2).pe (snd b X W _ s.g g3).pe
    · cases h
  | .dupd i e, st, h => by
    simp only [chkS] at h
    split at h
    · simp only [Bool.and_eq_true, Bool.not_eq_true', decide_eq_true_eq] at h
      obtain ⟨⟨⟨⟨⟨rfl, g2⟩, g3⟩, g4⟩, g5⟩, g6⟩ := h
      exact p_dupd g2 g4 g5 g6 (snd e X W _ s.g g3).pe
    · cases h
  | .oput a w b, st, h => by
    simp only [chkS] at h
    split at h
    · simp only [Bool.and_eq_true, Bool.not_eq_true', decide_eq_true_eq] at h
      obtain ⟨⟨⟨⟨rfl, g2⟩, g3⟩, g4⟩, g5⟩ := h
      exact p_oput s.g g4 g5 (snd a X W _ s.g g2).pe (snd b X W _ s.g g3).pe
    · cases h
  | .tput j i e, st, h => by
    simp only [chkS] at h
    split at h
    · simp only [Bool.and_eq_true, Bool.not_eq_true'] at h
      obtain ⟨⟨⟨g1, g2⟩, g3⟩, g4⟩ := h
      exact p_tput s.g g1 g2 g4 (snd e X W _ s.g g3).pe
    · cases h
  | .ife e a b, st, h => by
    simp only [chkS] at h
    split at h
    · simp only [Bool.and_eq_true] at h
      obtain ⟨⟨⟨g1, g2⟩, g3⟩, g4⟩ := h
      exact PS.imp (ps_if ((snd e X W _ s.g g2).pt g1) (sndB s a _ g3) (sndB s b _ g4)) fun D σ H q => t_if q
    · cases h
  | .fr t it b, st, h => by
    simp only [chkS] at h
    split at h
    · rename_i tg it' b' pos
      simp only [Bool.and_eq_true] at h
      obtain ⟨⟨⟨g1, g2⟩, g3⟩, g4⟩ := h
      refine PS.imp (ps_for s.po s.g.calm (sndI it X W tg it' s.g g2 (fun z => tup_of g1 (by simpa [z] using g3))) (s_tgt s.g.calm s.g.nd t tg (fun i _ x _ _ => s.fn x) g1) (sndB s b _ g4) (fun y => ?_)) fun D σ H q => t_for q
      cases it' <;> first | rfl | (exfalso; revert g2; cases it <;> simp [chkI])
    · cases h
  | .wh e b, st, h => by
    simp only [chkS] at h
    split at h
    · simp only [Bool.and_eq_true] at h
      obtain ⟨⟨g1, g2⟩, g3⟩ := h
      exact PS.imp (ps_while s.po ((snd e X W _ s.g g2).pt g1) (sndB s b _ g3)) fun D σ H q => t_while q
    · cases h
  | .ret e, st, h => by
    simp only [chkS] at h
    split at h
    · simp only [Bool.and_eq_true, Bool.not_eq_true'] at h
      exact PS.imp (ps_ret (snd e X W _ s.g h.1).pe) fun D σ H q => t_ret h.2 q
    · cases h
  | .ex e, st, h => by
    simp only [chkS] at h
    split at h
    · simp only [Bool.and_eq_true, Bool.not_eq_true'] at h
      exact PS.imp (ps_expr (snd e X W _ s.g h.1).pe (sw_no h.2)) fun D σ H q => t_expr q
    · cases h
  | .rais cl as, st, h => by
    simp only [chkS] at h
    split at h
    · simp only [Bool.and_eq_true, Bool.not_eq_true', decide_eq_true_eq] at h
      obtain ⟨⟨⟨g1, g2⟩, g3⟩, g4⟩ := h
      exact p_rais s g2 g1 (chks_star g3 g4) (snds as X W _ s.g g3)
    · cases h
  | .stuck, st, h => ⟨fun ps sh σ H D I ⟨c, rs, q⟩ => by simp only [ex] at q; exact q.elim⟩
  | .frx i j e b, st, h => by
    simp only [chkS] at h
    split at h
    · simp only [Bool.and_eq_true, Bool.not_eq_true', decide_eq_true_eq] at h
      obtain ⟨⟨⟨⟨⟨⟨⟨⟨⟨g1, g2⟩, g3⟩, g4⟩, g5⟩, g6⟩, g7⟩, g8⟩, g9⟩, g10⟩ := h
      exact p_frx s g1 g2 g3 g4 g5 g6 g7 g8 (snd e X W _ s.g g9).pe (sndB s b _ g10)
    · cases h
  | .hand _, st, h => by simp [chkS] at h
theorem sndB (s : GdS G call ea k W X) : ∀ (a : S) (sts : List Stmt), chkB G X.N X.env.scope a sts = true → PSs X sts (tS call ea W c0 H0 a)
  | .skip, sts, h => by
    simp only [chkB, List.isEmpty_iff] at h
    subst h
    exact PSs.imp pss_nil fun D σ H q => t_skip q
  | .seq a b, sts, h => by
    simp only [chkB] at h
    split at h
    · rename_i hf
      cases a <;> simp only [isFrz] at hf <;> try contradiction
      exact PSs.imp (sndB s b sts h) fun D σ H q => t_frz q
    · split at h
      · simp only [Bool.and_eq_true] at h
        exact PSs.imp (pss_cons (sndS s a _ h.1) (sndB s b _ h.2)) fun D σ H q => t_seq q
      · cases h
  | .frz _, sts, h => by simp [chkB] at h
  | .set _ _, sts, h => by simp [chkB] at h
  | .own _ _, sts, h => by simp [chkB] at h
  | .par _ _, sts, h => by simp [chkB] at h
  | .nx2 _ _ _ _ _, sts, h => by simp [chkB] at h
  | .app _ _, sts, h => by simp [chkB] at h
  | .ext _ _, sts, h => by simp [chkB] at h
  | .pop _ _, sts, h => by simp [chkB] at h
  | .rem _ _, sts, h => by simp [chkB] at h
  | .dput _ _ _, sts, h => by simp [chkB] at h
  | .dupd _ _, sts, h => by simp [chkB] at h
  | .oput _ _ _, sts, h => by simp [chkB] at h
  | .tput _ _ _, sts, h => by simp [chkB] at h
  | .ife _ _ _, sts, h => by simp [chkB] at h
  | .fr _ _ _, sts, h => by simp [chkB] at h
  | .wh _ _, sts, h => by simp [chkB] at h
  | .ret _, sts, h => by simp [chkB] at h
  | .ex _, sts, h => by simp [chkB] at h
  | .rais _ _, sts, h => by simp [chkB] at h
  | .frx _ _ _ _, sts, h => by simp [chkB] at h
  | .hand _, sts, h => by simp [chkB] at h
end
end
def BodyOk (G : Glob) (N : List Str) (sc : Scope) (b : S) (body : List Stmt) : Prop :=
  ∀ {call : CallT} {k : Nat} {W : XK} {X : Cx} {c0 : Cfg} {H0 : Hp}, GdS G call EA.ea k W X → X.N = N → X.env.scope = sc → PSs X body (tS call EA.ea W c0 H0 b)
theorem bodyOk_chk {G : Glob} {N : List Str} {sc : Scope} {b : S} {body : List Stmt} (h : chkB G N sc b body = true) : BodyOk G N sc b body := fun {call k W X c0 H0} gd hN hs => sndB gd b body (by rw [hN, hs]; exact h)
end FC
end
section
set_option Elab.async false
set_option linter.all false
set_option maxRecDepth 100000
set_option maxHeartbeats 4000000
namespace FC
open PySem PySem.Spec PySem.Calls PyProof.Rows PySem.W
section
variable {M : Model} {K : Frag}
theorem exm_tupN {cs : List Value} {cls : Value} {tp e : Addr} {b : Bool} {h : Heap} (X : K.In h) (LT : Looks M h (typeOf (.ref e)) cls) (hp : h.get? tp = some { cls := .type "tuple", data := .seq cs.toArray }) (hx : exmAny K cls cs = some b) :
    Looks M h (excMatches (.ref e) (.ref tp)) b := by
  intro A Q E s k₀ q
  obtain ⟨hh, g, d, tk, os⟩ := s
  have k : ∀ b o, h.get? b = some o → hh.get? b = some o := k₀
  have LT0 : Looks M h (isInstance (.ref tp) (.type "tuple")) true := ((Looks.ld hp).andThen .now).andThen (Looks.of_pure isSubtype_tuple_tuple)
  have LT := LT.keeps k
  have LT0 := LT0.keeps k
  have hp' := k _ _ hp
  unfold excMatches
  refine wpAny_bind (LT0.at ?_)
  dsimp only
  rw [if_pos rfl]
  first
    | refine wpAny_bind (wpAny_seqItems hp' rfl ?_)
    | refine wpAny_bind (wpAny_bind (wpAny_seqItems hp' rfl (wpAny_pure ?_)))
  dsimp only [Option.getD_some, Option.getD]
  refine wpAny_bind (wpAny_pure ?_)
  have X' : K.In hh := X.keeps k
  have loop1 : ∀ {cs : List Value} {b : Bool} {Q : PUnit → Shared → Prop}, exmAny K cls cs = some b → Q PUnit.unit ⟨hh, g, d, tk, os⟩ → wpAny M A (forIn cs PUnit.unit fun c __s => do
          let __do_lift ← isExcClass c
          if (!__do_lift) = true then do
              rule "try.except-non-exception-class"
              raiseErrorWords "TypeError" "catching classes that do not inherit from BaseException is not allowed"
              pure (ForInStep.yield PUnit.unit)
            else pure (ForInStep.yield PUnit.unit)) Q E ⟨hh, g, d, tk, os⟩ := by
    intro cs
    induction cs with
    | nil =>
      intro b Q _ hq
      rw [List.forIn_nil]
      exact wpAny_pure hq
    | cons c cs ih =>
      intro b Q hx hq
      obtain ⟨b1, d1, x1, y1, z1⟩ := exmAny_cons hx
      obtain ⟨e1, S1⟩ := exm_cls (M := M) X' x1
      rw [List.forIn_cons]
      refine wpAny_bind (wpAny_bind (e1.here ?_))
      rw [if_neg (by decide)]
      exact wpAny_pure (ih y1 hq)
  refine wpAny_bind (loop1 hx (wpAny_bind (LT.here ?_)))
  have loop2 : ∀ {cs : List Value} {b : Bool} {Q : Option Bool × Unit → Shared → Prop}, exmAny K cls cs = some b → Q (if b then some true else none, ()) ⟨hh, g, d, tk, os⟩ → wpAny M A (forIn cs (none, ()) fun c __s => do
            let __do_lift ← isSubtype cls c
            if __do_lift = true then pure (ForInStep.done (some true, ())) else pure (ForInStep.yield (none, ()))) Q E ⟨hh, g, d, tk, os⟩ := by
    intro cs
    induction cs with
    | nil =>
      intro b Q hx hq
      have hx : some false = some b := hx
      cases hx
      rw [List.forIn_nil]
      exact wpAny_pure hq
    | cons c cs ih =>
      intro b Q hx hq
      obtain ⟨b1, d1, x1, y1, z1⟩ := exmAny_cons hx
      obtain ⟨e1, S1⟩ := exm_cls (M := M) X' x1
      rw [List.forIn_cons]
      refine wpAny_bind (wpAny_bind (S1.here ?_))
      cases b1 with
      | true =>
        rw [if_pos rfl]
        refine wpAny_pure (wpAny_pure ?_)
        rw [z1] at hq
        exact hq
      | false =>
        rw [if_neg Bool.false_ne_true]
        refine wpAny_pure (ih y1 ?_)
        rw [z1] at hq
        exact hq
  refine wpAny_bind (loop2 hx ?_)
  cases b with
  | true => exact wpAny_pure q
  | false => exact wpAny_pure q
end
open L2 in
theorem inv_track {X : Cx} {pins : List (Addr × Obj)} {σ : L2.St} {H : Hp} {s : Shared} {a : Addr} {o : HO} (I : Inv X pins σ H s) (n0 : X.s_0.heap.get? a = none) (hn : H a = none) (nL : a ≠ X.env.locals) (nC : ∀ x c, X.env.cells.lookup x = some c → c ≠ a) (np : ∀ p ∈ X.pn ++ pins, p.1 ≠ a)
    (new : ObjOk X.prog X.w (upd H a o) s.heap a o) : Inv X pins σ (upd H a o) s := by
  refine ⟨I.ok, I.os, I.bare, ⟨I.base.keep, I.base.slot, fun b u e n hx => ?_, I.base.there, fun b xs e => ?_, fun b ob u e => ?_, fun b ps e => ?_⟩, I.loc, I.cell, ?_, fun x c e => ?_, fun p hp => ?_, fun b u e => ?_, I.len⟩
  · rw [upd_ne (fun z => by rw [z, n0] at e; cases e)]
    exact I.base.free b u e n hx
  · have q := I.base.tups b xs e
    rw [upd_ne (ne_of_none q hn)]
    exact q
  · have q := I.base.frzs b ob u e
    rw [upd_ne (ne_of_none q hn)]
    exact q
  · obtain ⟨m, q⟩ := I.base.tbls b ps e
    exact ⟨m, by rw [upd_ne (ne_of_none q hn)]; exact q⟩
  · rw [upd_ne (Ne.symm nL)]
    exact I.free
  · rw [upd_ne (nC x c e)]
    exact I.freeC x c e
  · obtain ⟨e, n, ne, nf, d⟩ := I.pin p hp
    exact ⟨e, by rw [upd_ne (np p hp)]; exact n, ne, nf, d⟩
  · by_cases hb : b = a
    · subst hb
      rw [upd_same] at e
      cases e
      exact new
    · rw [upd_ne hb] at e
      exact (I.hok b u e).stay (fun c v _ q => q) (fun c q => by rw [upd_ne (ne_of_none q hn)]; exact q) fun c xs q => by rw [upd_ne (ne_of_none q hn)]; exact q
end FC
end
section
set_option Elab.async false
set_option linter.all false
set_option maxRecDepth 100000
set_option maxHeartbeats 4000000
namespace FC
open PySem PySem.Spec PyProof.Rows L2
variable [EA]
theorem flying_keeps {B : Heap} {l : List Env} {a : Addr} {Z : Obj → Prop} {h h' : Heap} (x : HandSPX.FlyingZ B l a Z h) (k : ∀ b o, h.get? b = some o → h'.get? b = some o) : HandSPX.FlyingZ B l a Z h' := by
  obtain ⟨h1, h2, h3, oe, vs, T, oT, ts, e1, e2, e3, e4, e5, e6, e7, e8, e9⟩ := x
  exact ⟨fun b o e => k b o (h1 b o e), h2, h3.of_keeps fun b o e _ => ⟨o, k b o e, rfl⟩, oe, vs, T, oT, ts, k _ _ e1, e2, e3, e4, e5, e6, k _ _ e7, e8, e9⟩
inductive HdsV (X : Cx) (n y : Str) : List ExceptHandler → List (List Value) → Prop
  | nil : HdsV X n y [] []
  | cons {es : List Expr} {cs : List Addr} {kt : Nat} {tp py pn sp pos' : Pos} {hds : List ExceptHandler} {l : List (List Value)}
      (ht : ∀ (a : Addr) (oe : Obj) (pn : List (Addr × Obj)) (σ : L2.St) (H : Hp) (s : Shared) (Q : List Value → Shared → Prop) (E : Value → Shared → Prop), Inv (X.suite a ((a, oe) :: pn)) [] σ H s → Q (cs.map Value.ref) s → wpAny (model X.prog X.w) (X.A.mark (some (.ref a))) (spliced (backTo tp (starEach es X.env))) Q E s) (r : HdsV X n y hds l) :
      HdsV X n y (.ExceptHandler (some (.Tuple es kt tp)) (some n) [.Assign [.Name y py] (.Name n pn) sp] pos' :: hds) (cs.map Value.ref :: l)
def wV (K : PySem.W.Frag) (iy i : Nat) (D : Ends) : List (List Value) → WX
  | [] => fun _ _ _ _ => False
  | cs :: r => fun cls d σ H => ∃ b, PySem.W.exmAny K cls cs = some b ∧ (b = true → ∀ a, H a = none → D.nx (((σ.set i (some (.ref a))).set iy (some (.ref a))).set i none) (upd H a (ExX cls d a))) ∧ (b = false → wV K iy i D r cls d σ H)
section
variable {X : Cx} {n y : Str} {i iy : Nat} {body : List Stmt} {h₀ : ExceptHandler} {hds : List ExceptHandler} {l : List (List Value)} {pos : Pos} {tb : WX → TS}
theorem ps_try_val (hex : X.ex = []) (hs : X.stack = X.env :: X.outer) (hf : X.env.frame = some X.env.locals) (hN : X.N.Nodup) (hi : X.N[i]? = some n) (hln : X.env.kindOf n = some .local) (hiy : X.N[iy]? = some y) (hly : X.env.kindOf y = some .local) (hny : (n == ("__debug__" : Str)) = false) (hnc : (n == ("__classdict__" : Str)) = false)
    (hlen : ∀ e ∈ l, e.length ≤ 1000)
    (hb : ∀ (W : WX) (pn : List (Addr × Obj)) (xe : Value → Shared → Prop), Takes (X.tr pn xe) W → PassesOwn (model X.prog X.w) X.A X.env xe → PSs (X.tr pn xe) body (tb W))
    (hh : HdsV X n y (h₀ :: hds) l) : PS X (.Try body (h₀ :: hds) [] [] pos) (fun D σ H => i < σ.length ∧ tb (wV X.K iy i D l) D σ H) := by
  refine ⟨fun pins s σ H D I ⟨hil, h⟩ => ?_⟩
  have ok := I.ok
  have hfr : X.A.frames = some (X.env :: X.outer) := by rw [ok.frames, hs]
  have hloc : Loc X.env.scope n := .inl hln
  have hlocy : Loc X.env.scope y := .inl hly
  have hiN : i < X.N.length := (List.getElem?_eq_some_iff.mp hi).1
  refine wpAny_Try_except ?_
  refine wpAny_mono ((hb (wV X.K iy i D l) (X.pn ++ pins) (fun e s₁ => wpAny (model X.prog X.w) X.A (noteFrame e X.env) (fun _ s₂ => wpAny (model X.prog X.w) X.A (setFlight e none) (fun _ s₃ =>
    wpAny (model X.prog X.w) X.A (handleBy e X.env (h₀ :: hds)) (SP X pins D) X.xe s₃) X.xe s₂) X.xe s₁) (fun u s' xx => ?_) PassesOwn.looking).run [] s σ H D (I.toTry _) h) (fun f s1 hsp => ?_) (fun e s1 he => he)
  · -- the catch
    obtain ⟨a, B, sI, pins', σ', H', cls, d, rfl, J', nb, up, sky, na, os, ag, w⟩ := xx
    have J : Inv X pins σ' H' sI := J'.ofTry ok
    have sky' : Sky B (X.env :: X.outer) a (Zc cls d) X.env.locals s'.heap := by rw [← hs]; exact sky
    show wpAny (model X.prog X.w) X.A (noteFrame (.ref a) X.env) _ _ _
    refine Sky.land Zc.steady hfr hf sky' fun h3 fl3 up3 => ?_
    have upT := up.trans up3
    have notFr : ∀ {h : Heap} {o : Obj} {vs : Array Value}, h.FunFrames B (X.env :: X.outer) → h.get? a = some o → o.data = .fields vs → a ∉ frs (X.env :: X.outer) := fun {h o vs} ff e dd hm => by
      obtain ⟨_, o', e', hnf⟩ := ff.mem hm
      rw [e] at e'; cases e'
      exact hnf _ dd
    have nfr : a ∉ frs (X.env :: X.outer) := by
      obtain ⟨oe3, vs3, he3, hz3, hd3⟩ := fl3.there
      exact notFr fl3.2.2.1 he3 hd3
    have nL : a ≠ X.env.locals := fun z => nfr (List.mem_filterMap.mpr ⟨X.env, List.mem_cons_self, by rw [hf, z]⟩)
    have nF : a ∉ X.fs := fun hm => by
      obtain ⟨e, he, q⟩ := List.mem_filterMap.mp hm
      exact nfr (List.mem_filterMap.mpr ⟨e, List.mem_cons_of_mem _ he, q⟩)
    have nI : sI.heap.get? a = none := by
      cases z : sI.heap.get? a with
      | none => rfl
      | some o =>
        have := nb a o z (by rw [hs]; exact nfr)
        rw [fl3.2.1] at this
        cases this
    have n0 : X.s_0.heap.get? a = none := by
      cases z : X.s_0.heap.get? a with
      | none => rfl
      | some o =>
        obtain ⟨o', z'⟩ := J.base.there a o z (by rw [hex]; simp)
        rw [nI] at z'
        cases z'
    have npn : ∀ p ∈ X.pn ++ pins, p.1 ≠ a := fun p hp z => by
      have := (J.pin p hp).1
      rw [z, nI] at this
      cases this
    have nC : ∀ x c, X.env.cells.lookup x = some c → c ≠ a := fun x c e z => by
      obtain ⟨v, o, ho, _⟩ := J.cell x c e
      rw [z, nI] at ho
      cases ho
    have go : ∀ {hds' : List ExceptHandler} {l' : List (List Value)} {h5 : Heap}, HdsV X n y hds' l' → HandSPX.FlyingZ B (X.env :: X.outer) a (Zc cls d) h5 → sI.heap.UpToSlots h5 → (∀ e ∈ l', e.length ≤ 1000) → wV X.K iy i D l' cls d σ' H' →
        wpAny (model X.prog X.w) X.A (handleBy (.ref a) X.env hds') (SP X pins D) X.xe { s' with heap := h5 } := by
      intro hds' l' h5 hk
      induction hk generalizing h5 with
      | nil => intro _ _ _ w; exact w.elim
      | @cons es cs kt tp py pn sp pos' hds2 l2 ht r ih =>
        intro fl5 up5 hle w
        obtain ⟨b, hb1, hyes, hno⟩ := w
        have J5 : Inv X pins σ' H' { s' with heap := h5 } := J.landed nb fl5.1 up5 os ag
        obtain ⟨oe5, vs5, he5, hz5, hd5⟩ := fl5.there
        have S5 := J5.suite he5 hd5 na nL nF
        refine wpAny_handleBy_cons (codeAny_handlers_test ?_) (by intro q; cases q)
        refine Tuple_ (ht a oe5 (X.pn ++ pins) σ' H' _ _ _ S5 ?_)
        refine wpAny_newObj_type ?_ (by show (cs.map Value.ref).length ≤ sizeLine; have := hle _ List.mem_cons_self; rw [sizeLine_eq]; omega)
        have kp : ∀ b o, h5.get? b = some o → (h5.push { cls := .type "tuple", data := .seq (cs.map Value.ref).toArray }).get? b = some o := fun b o e => Heap.get?_push_of_some _ e
        generalize hh6 : h5.push { cls := .type "tuple", data := .seq (cs.map Value.ref).toArray } = h6 at kp
        have hget : h6.get? h5.objs.size = some { cls := .type "tuple", data := .seq (cs.map Value.ref).toArray } := by rw [← hh6]; exact Heap.get?_push_size _ rfl
        have fl6 := flying_keeps fl5 kp
        have up6 : sI.heap.UpToSlots h6 := up5.trans fun b o e _ => ⟨o.slots, kp b o e⟩
        have J6 : Inv X pins σ' H' { s' with heap := h6 } := J.landed nb fl6.1 up6 os ag
        obtain ⟨oe6, vs6, he6, hz6, hd6⟩ := fl6.there
        have LT : PySem.W.Looks (model X.prog X.w) h6 (typeOf (.ref a)) cls := fun A Q E s k q => wpAny_typeOf_ref (k _ _ he6) (by rw [hz6.1]; exact q)
        have LM := exm_tupN (M := model X.prog X.w) (J6.kIn) LT hget hb1
        show wpAny _ _ (excMatches (.ref a) (.ref h5.objs.size)) _ _ { s' with heap := h6 }
        refine LM.here ?_
        cases b with
        | true =>
          refine codeAny_handlers_suite_as ?_
          refine HandSPX.lands_againZ fl6 fun h4 fl4 up4 => ?_
          have up4 := up6.trans up4
          have J4 : Inv X pins σ' H' { s' with heap := h4 } := J.landed nb fl4.1 up4 os ag
          obtain ⟨oe4, vs4, he4, hz4, hd4⟩ := fl4.there
          have S4 := J4.suite he4 hd4 na nL nF
          refine store_ok (X := X.suite a ((a, oe4) :: (X.pn ++ pins))) (v := .ref a) S4 hN hi hloc rfl (fun s5 S5' => ?_) (.inr hln)
          have hsu : PSs (X.suite a ((a, oe4) :: (X.pn ++ pins))) [.Assign [.Name y py] (.Name n pn) sp] (tAsg (tVar i) (gName iy)) := pss_one (ps_set hN hiy hlocy (pe_var hi (.inl hln) hny hnc) rfl (.inr hly))
          have hl' : i < σ'.length := by rw [J.len]; exact hiN
          refine wpAny_mono (hsu.run [] s5 _ H' { nx := fun σ6 H6 => σ6 = (σ'.set i (some (.ref a))).set iy (some (.ref a)) ∧ H6 = H', rt := fun _ _ => False } S5' ⟨.ref a, List.getElem?_set_self hl', rfl, rfl⟩) (fun f s6 hsp => ?_) (fun _ _ z => False.elim z)
          cases f with
          | next =>
            obtain ⟨σ6, H6, S6, rfl, rfl⟩ := hsp
            refine gone_ok (X := X.suite a ((a, oe4) :: (X.pn ++ pins))) S6 hN hi hln fun s7 S7 => ?_
            have e7 : s7.heap.get? a = some oe4 := (S7.pin (a, oe4) (by simp)).1
            have J7 : Inv X pins _ _ s7 := S7.unsuite ok
            refine ⟨_, _, inv_track (o := ExX cls d a) J7 n0 na nL nC npn ⟨⟨oe4, vs4, e7, hz4, hd4⟩, ⟨oe4, e7⟩, fun _ _ ⟨o, v, q, r⟩ k => ⟨o, v, k o q, r⟩⟩, hyes rfl a na⟩
          | brk => obtain ⟨_, _, _, q⟩ := hsp; exact q.elim
          | cont => obtain ⟨_, _, _, q⟩ := hsp; exact q.elim
          | ret u => obtain ⟨_, _, _, _, _, q⟩ := hsp; exact q.elim
        | false =>
          show wpAny _ X.A (handleBy (.ref a) X.env hds2) _ _ _
          exact ih fl6 up6 (fun e he => hle e (List.mem_cons_of_mem _ he)) (hno rfl)
    exact go hh fl3 upT hlen w
  · cases f with
    | next =>
      obtain ⟨σ', H', J', q⟩ := hsp
      exact wpAny_execs_nil ⟨σ', H', J'.ofTry ok, q⟩
    | brk =>
      obtain ⟨σ', H', J', q⟩ := hsp
      exact ⟨σ', H', J'.ofTry ok, q⟩
    | cont =>
      obtain ⟨σ', H', J', q⟩ := hsp
      exact ⟨σ', H', J'.ofTry ok, q⟩
    | ret u =>
      obtain ⟨v, σ', H', J', r, q⟩ := hsp
      exact ⟨v, σ', H', J'.ofTry ok, r, q⟩
end
end FC
end
section
set_option Elab.async false
set_option linter.all false
set_option maxRecDepth 100000
set_option maxHeartbeats 4000000
namespace FC
open PySem PySem.Spec PyProof.Rows L2
variable [EA]
def saidN : List Str := ["call", "caught", "found", "e"]
def nmsB (G : Glob) (sc : Scope) : List Expr → List Nat → Bool
  | [], [] => true
  | .Name x _ :: es, c :: cs => glB sc x && decide (G.exc x = some c) && nmsB G sc es cs
  | _, _ => false
def cs1 : List Nat := [1, 2, 3, 4, 5, 6, 7, 8, 9]
def cs2 : List Nat := [10, 11]
def saidB (G : Glob) (sg : Scope) (f : Nat) : List Stmt → Bool
  | [.Assign [.Tuple [.Name y1 _, .Name z1 _] _ _] (.Tuple [.Constant .none _ _, .Constant .none _ _] _ _) _,
     .Try [.Assign [.Name z2 _] (.Call (.Name a _) [] [] _) _]
       [.ExceptHandler (some (.Tuple es1 _ _)) (some n1) [.Assign [.Name y2 _] (.Name n2 _) _] _,
        .ExceptHandler (some (.Tuple es2 _ _)) (some n3) [.Assign [.Name y3 _] (.Name n4 _) _] _] [] [] _,
     .Return (some (.IfExp (.Compare (.Name y4 _) [.Is] [.Constant .none _ _] _) (.List [.Name z3 _] _) (.Call (.Name fx _) [.Name y5 _] [] _) _)) _] =>
    decide (y1 = "caught") && decide (y2 = "caught") && decide (y3 = "caught") && decide (y4 = "caught") && decide (y5 = "caught") && decide (z1 = "found") && decide (z2 = "found") && decide (z3 = "found") && decide (a = "call") &&
    decide (n1 = "e") && decide (n2 = "e") && decide (n3 = "e") && decide (n4 = "e") && lclB sg "call" && lclB sg "caught" && lclB sg "found" && lclB sg "e" && nmsB G sg es1 cs1 && nmsB G sg es2 cs2 && glB sg fx && decide (G.fn fx = some f)
  | _ => false
theorem spl_names {X : Cx} {pins : List (Addr × Obj)} {σ : L2.St} {H : Hp} {s : Shared} {G : Glob} {tp : Pos} {E : Value → Shared → Prop} (I : Inv X pins σ H s) (er : ErrX X.K X.mg G.exc EA.ea) : ∀ {es : List Expr} {cs : List Nat} {Q : List Value → Shared → Prop}, nmsB G X.env.scope es cs = true → Q ((cs.map EA.ea).map Value.ref) s →
    wpAny (model X.prog X.w) X.A (spliced (backTo tp (starEach es X.env))) Q E s
  | [], [], Q, _, h => Calls.spliced_nil h
  | [], _ :: _, Q, hn, _ => by simp [nmsB] at hn
  | e :: es, [], Q, hn, _ => by cases e <;> simp [nmsB] at hn
  | e :: es, c :: cs, Q, hn, h => by
    cases e <;> simp only [nmsB, Bool.false_eq_true] at hn
    rename_i x p
    simp only [Bool.and_eq_true, decide_eq_true_eq] at hn
    obtain ⟨⟨h1, h2⟩, h3⟩ := hn
    obtain ⟨q1, q2, q3⟩ := glB_gl h1
    obtain ⟨m1, _⟩ := er.nm x c h2
    show wpAny _ _ (spliced ((false, eval (.Name x p) X.env) :: backTo tp (starEach es X.env))) _ _ s
    exact Calls.spliced_cons (ld_glob I q1 m1 (spl_names I er h3 h) q2)
theorem exm_all {K : PySem.W.Frag} {mg : Str → Option Value} {exc : Str → Option Nat} (er : ErrX K mg exc EA.ea) {cl : Nat} (hc : clsOk cl = true) : ∀ {cs : List Nat}, (∀ c ∈ cs, clsOk c = true) → PySem.W.exmAny K (.ref (EA.ea cl)) ((cs.map EA.ea).map Value.ref) = some (cs.contains cl)
  | [], _ => rfl
  | c :: cs, h => by
    have h1 := er.exm cl c hc (h c (by simp))
    have h2 := exm_all er hc (cs := cs) fun d hd => h d (by simp [hd])
    simp only [List.map_cons, PySem.W.exmAny, h1, h2]
    by_cases z : cl = c <;> simp [z]
theorem sw_consts {x y : Str} {px py pt p2 p3 p4 : Pos} {kt k2 k3 k4 : Nat} {env : Env} : swappedStores [.Tuple [.Name x px, .Name y py] kt pt] (.Tuple [.Constant .none k3 p3, .Constant .none k4 p4] k2 p2) env = pure none := by
  unfold swappedStores
  have e1 : [Expr.Constant .none k3 p3, Expr.Constant .none k4 p4].all (foldedForSure 8) = true := by rfl
  simp [e1]
def E0' : XK := fun _ _ _ => False
def wSaid (K : PySem.W.Frag) (call : CallT) (bs : List Bool) (f : Nat) (Q : VK) : XK := fun cls d H' => ∃ b1, PySem.W.exmAny K cls ((cs1.map EA.ea).map Value.ref) = some b1 ∧ (b1 = true → ∀ a, H' a = none → spF call EA.ea bs f [.ref a] (upd H' a (ExX cls d a)) Q E0') ∧
  (b1 = false → ∃ b2, PySem.W.exmAny K cls ((cs2.map EA.ea).map Value.ref) = some b2 ∧ (b2 = true → ∀ a, H' a = none → spF call EA.ea bs f [.ref a] (upd H' a (ExX cls d a)) Q E0') ∧ (b2 = false → False))
theorem said_gives {P : Program} {w : World} {K : PySem.W.Frag} {mg : Str → Option Value} {base : Heap} {G : Glob} {call : CallT} {k f : Nat} {x : Str} {sg : Scope} {g : Addr} {cdv : Value} {A : Around} {outer : List Env} {s : Shared} {H : Hp} {bg : List Stmt} (FS : FnScope saidN ["call"] sg) (hS : saidB G sg f bg = true)
    (er : ErrX K mg G.exc EA.ea) (fns : ∀ x f, G.fn x = some f → ∃ fa fd ps, mg x = some (.ref fa) ∧ PySem.W.keepIn K (.ref fa) = true ∧ Binds K fd ps [] ∧ FnG P w K mg base k fa fd ps (spF call EA.ea (G.bs f) f))
    (hr : Room k (A.deeper (envOfC x sg s.heap.objs.size g cdv))) (hgu : A.guards = some []) {fa c' : Addr} {q : Str} {tl : XK → Hp → VK → Prop}
    (act : ∀ (W : WX) (pn : List (Addr × Obj)) (xe : Value → Shared → Prop) (E : XK) (p1 p2 : Pos), Takes ((cxOf (L2.CX P w) P w K mg base saidN x sg g cdv A outer s H E0').tr pn xe) W →
      PE ((cxOf (L2.CX P w) P w K mg base saidN x sg g cdv A outer s H E0').tr pn xe) (.Call (.Name "call" p1) [] [] p2) (fun σZ HZ Q => σZ[0]? = some (some (.ref fa)) ∧ HZ c' = some (LamX.CodeO c' q) ∧ (∀ cls d H', E cls d H' → W cls d σZ H') ∧ tl E HZ Q))
    (mono : ∀ (E : XK) (H' : Hp) (Q Q' : VK), (∀ v H2, Q v H2 → Q' v H2) → tl E H' Q → tl E H' Q') {Q : VK} (hc' : H c' = some (LamX.CodeO c' q)) (h : ∀ p, H p = none → tl (wSaid K call (G.bs f) f Q) (upd H p (.tup [.non, .non])) fun v H' => ∀ p, H' p = none → Q (.ref p) (upd H' p (.lst [v]))) :
    ∃ t, PSs (cxOf (L2.CX P w) P w K mg base saidN x sg g cdv A outer s H E0') bg t ∧ t { nx := fun _ H' => Q .non H', rt := Q } (L2.start saidN [.ref fa]) H := by
  unfold saidB at hS
  split at hS
  · rename_i y1 p1 z1 p2 k1 q1 k2 p3 k3 p4 k4 q2 q3 z2 p5 a p6 p7 q4 es1 k5 p8 n1 y2 p9 n2 p10 p11 p12 es2 k6 p13 n3 y3 p14 n4 p15 p16 p17 p18 y4 p19 k7 p20 p21 z3 p22 p23 fx p24 y5 p25 p26 p27 p28
    simp only [Bool.and_eq_true, decide_eq_true_eq] at hS
    obtain ⟨⟨⟨⟨⟨⟨⟨⟨⟨⟨⟨⟨⟨⟨⟨⟨⟨⟨⟨⟨rfl, rfl⟩, rfl⟩, rfl⟩, rfl⟩, rfl⟩, rfl⟩, rfl⟩, rfl⟩, rfl⟩, rfl⟩, rfl⟩, rfl⟩, l1⟩, l2⟩, l3⟩, l4⟩, m1⟩, m2⟩, g1⟩, g2⟩ := hS
    have v1 := lclB_ok l1
    have v2 := lclB_ok l2
    have v3 := lclB_ok l3
    have v4 := lclB_ok l4
    obtain ⟨q1', q2', q3'⟩ := glB_gl g1
    obtain ⟨fa2, fd2, ps2, a1, a2, a3, a4⟩ := fns fx f g2
    have hgu' := deeper_guards A (envOfC x sg s.heap.objs.size g cdv) hgu
    have hx : Passes (L2.CX P w) (cxOf (L2.CX P w) P w K mg base saidN x sg g cdv A outer s H E0') E0' := passes_call LamX.takes0 fun _ _ _ _ h => h
    have hlen : ∀ e ∈ [(cs1.map EA.ea).map Value.ref, (cs2.map EA.ea).map Value.ref], e.length ≤ 1000 := fun e he => by
      simp only [List.mem_cons, List.not_mem_nil, or_false] at he
      rcases he with rfl | rfl <;> simp [cs1, cs2]
    refine ⟨_, pss_cons (ps_asg (pe_tup (pa_cons pe_non (pa_cons pe_non pa_nil))) (pg_tup rfl (pgs_cons (pg_name (i := 1) FS.nd rfl (.inl v2)) (pgs_cons (pg_name (i := 2) FS.nd rfl (.inl v3)) pgs_nil))) (sole_eq.trans sw_tup) sw_consts rfl)
      (pss_cons (ps_try_val (X := cxOf (L2.CX P w) P w K mg base saidN x sg g cdv A outer s H E0') (i := 3) (iy := 1) (tb := fun W D σ H => ∃ E : XK, (∀ cls d H', E cls d H' → W cls d σ H') ∧ σ[0]? = some (some (.ref fa)) ∧ H c' = some (LamX.CodeO c' q) ∧ tl E H fun v H' => D.nx (σ.set 2 (some v)) H') rfl rfl rfl FS.nd rfl v4 rfl v2 (by decide) (by decide) hlen
          (fun W pn xe tk po => ⟨fun pins s' σ H' D I ⟨E, hE, h0, h1, h2⟩ => (pss_one (ps_set (i := 2) FS.nd rfl (.inl v3) (act W pn xe E p6 p7 tk) rfl (.inr v3))).run pins s' σ H' D I ⟨h0, h1, hE, h2⟩⟩)
          (.cons (cs := cs1.map EA.ea) (fun a oe pn σ H' s' Q E I hq => spl_names (X := (cxOf (L2.CX P w) P w K mg base saidN x sg g cdv A outer s H E0').suite a ((a, oe) :: pn)) I er m1 hq)
            (.cons (cs := cs2.map EA.ea) (fun a oe pn σ H' s' Q E I hq => spl_names (X := (cxOf (L2.CX P w) P w K mg base saidN x sg g cdv A outer s H E0').suite a ((a, oe) :: pn)) I er m2 hq) .nil)))
      (pss_one (ps_ret (pe_ifExp (pt_cmp (pc_isN (pe_var (i := 1) rfl (.inl v2)))) (pe_lst (pa_one (pe_var (i := 2) rfl (.inl v3)) rfl)) (pe_callG a4 hr hgu' q1' a1 a2 a3 .nil hx (pa_one (pe_var (i := 1) rfl (.inl v2)) rfl) q2' rfl rfl))))), ?_⟩
    refine ⟨by show 2 ≤ sizeLine; rw [sizeLine_eq]; omega, fun p hp => ⟨p, [.non, .non], rfl, .inl (.inl upd_same), rfl, .non, _, rfl, .non, _, rfl, rfl, ?_⟩⟩
    refine ⟨by simp [L2.start, saidN], wSaid K call (G.bs f) f Q, ?_, rfl, by rw [upd_ne (ne_of_none hc' hp)]; exact hc', ?_⟩
    · intro cls d H' hw
      obtain ⟨b1, x1, x2, x3⟩ := hw
      have fin : ∀ a, spF call EA.ea (G.bs f) f [.ref a] (upd H' a (ExX cls d a)) Q E0' → tRet (tIf (L2.tB (tIsN (tVar 1))) (tLst (tCons (tVar 2) tNil)) (tCall (spF call EA.ea (G.bs f) f) [] E0' (tCons (tVar 1) tNil))) { nx := fun _ H' => Q .non H', rt := Q } ((((((L2.start saidN [V.ref fa]).set 1 (some .non)).set 2 (some .non)).set 3 (some (.ref a))).set 1 (some (.ref a))).set 3 none) (upd H' a (ExX cls d a)) := fun a ha => by
        refine ⟨.ref a, rfl, _, rfl, ?_⟩
        show (if (decide (V.ref a = V.non)) = true then _ else _)
        rw [if_neg (by simp)]
        exact ⟨.ref a, rfl, ha⟩
      exact ⟨b1, x1, fun hb a ha => fin a (x2 hb a ha), fun hb => by
        obtain ⟨b2, x4, x5, x6⟩ := x3 hb
        exact ⟨b2, x4, fun hb a ha => fin a (x5 hb a ha), fun hb => (x6 hb).elim⟩⟩
    · refine mono _ _ _ _ (fun v H2 z => ⟨.non, rfl, _, rfl, ?_⟩) (h p hp)
      show (if (decide (V.non = V.non)) = true then _ else _)
      rw [if_pos (by simp)]
      exact ⟨v, rfl, by show 1 ≤ sizeLine; rw [sizeLine_eq]; omega, z⟩
  · cases hS
end FC
end
section
set_option Elab.async false
set_option linter.all false
set_option maxRecDepth 100000
set_option maxHeartbeats 4000000
namespace FC
open PySem PySem.Spec PyProof.Rows L2
variable [EA]
def SaidK (K : PySem.W.Frag) (mg : Str → Option Value) (G : Glob) (x : Str) (f : Nat) : Prop :=
  ∃ (g : Addr) (pg : Arguments) (bg : List Stmt) (sg : Scope) (dV kV doc pm cdv ct oc : Value) (an od : Option Addr) (osl : Array (Option Value)), mg x = some (.ref g) ∧ PySem.W.keepIn K (.ref g) = true ∧ K.lookup g = some ⟨oc, od, .func (PySem.W.fnOf x x pg bg sg dV kV doc pm an cdv ct), osl⟩ ∧ PySem.W.codeIn K cdv x = true ∧
    FnScope saidN ["call"] sg ∧ Binds K (PySem.W.fnOf x x pg bg sg dV kV doc pm an cdv ct) ["call"] [] ∧ saidB G sg f bg = true
theorem step_tab {c : Cfg} {H H1 : Hp} (w : WF H c) (eN : LamX.ExtN H H1) (tK : TblK H H1) (T1 : LamX.Tabs EA.tb H1) : Step c H c H1 := by
  have kp : Kp H H1 c.fz c.fz := ⟨fun _ h => h, fun a xs _ h => eN a _ h (by simp), fun a p h => h.imp fun u e k => eN a _ e (by rcases k with ⟨o, rfl⟩ | rfl <;> simp), fun a kvs _ h => eN a _ h (by simp), fun a _ _ h => eN a _ h (by simp [ExX]), fun a _ h => eN a _ h (by simp)⟩
  refine ⟨⟨w.nd, w.len, fun n a o h1 h2 => ?_, w.sep, fun a h => ?_, ?_, T1⟩, fun _ h => h, fun _ h => .inl h, ⟨[], by simp, fun _ h => absurd h (by simp)⟩, fun a o h _ ht => eN a o h ht, tK⟩
  · have q := w.obj n a o h1 h2
    cases o with
    | dct kvs =>
      obtain ⟨vs, e, r⟩ := q
      exact ⟨vs, eN a _ e (by simp), RpK.keep kp r⟩
    | tab kvs =>
      obtain ⟨h0, xs, e, r, h1, h2⟩ := q
      exact ⟨h0, xs, eN a _ e (by simp [TabO]), TabP.keep kp r, h1, h2⟩
    | ins _ _ => exact q
  · have := w.dom a h
    cases q : H a with
    | none => exact absurd q this
    | some o =>
      by_cases ht : ∃ ps, o = .tbl ps
      · obtain ⟨ps, rfl⟩ := ht
        obtain ⟨qs, e⟩ := tK a ps q
        rw [e]; simp
      · rw [eN a o q fun ps z => ht ⟨ps, z⟩]
        simp
  · obtain ⟨φ, e⟩ := w.sm
    exact ⟨φ, eN _ _ e (by simp)⟩
theorem sd_ok {G : Glob} {call : CallT} {k : Nat} {W : XK} {X : Cx} {c P : Addr} (hsd : ∀ x f, G.sd = some (x, f) → SaidK X.K X.mg G x f) (er : G.ax = true → ErrX X.K X.mg G.exc EA.ea) (hr : Room (k + 2) X.A) (hgu : X.A.guards = some [])
    (fns : ∀ x f, G.fn x = some f → ∃ fa fd ps, X.mg x = some (.ref fa) ∧ PySem.W.keepIn X.K (.ref fa) = true ∧ Binds X.K fd ps [] ∧ FnG X.prog X.w X.K X.mg X.base k fa fd ps (spF call EA.ea (G.bs f) f))
    (hcode : X.env.code = .ref c) (TB : LamX.TabB X.base X.mg c P) (hm : (P, X.env.qual ++ "<lambda>") ∈ EA.tb) (hu : ∀ p ∈ EA.tb, p.1 = P → p.2 = X.env.qual ++ "<lambda>") : SdOk G call EA.ea k W X := by
  intro x f hx hax params body scope lpos p pos e hg hlam hb hbody
  have er := er hax
  obtain ⟨g, pg, bg, sg, dV, kV, doc, pm, cdv, ct, oc, an, od, osl, m1, m2, m3, m4, FS, m6, m7⟩ := hsd x f hx
  obtain ⟨xs, es, hp, L⟩ := lamB_ok hlam
  obtain ⟨g1, g2, g3⟩ := glB_gl hg
  have hcl : sg.names.lookup ("call" : Str) = some .local ∨ sg.names.lookup ("call" : Str) = some .cell := FS.par "call" (by simp)
  refine ⟨fun pins s σ H Q I ⟨c0, rel, q⟩ => ?_⟩
  refine wpAny_Call_Name_kw (ld_glob I g1 m1 (PySem.W.callWith_K (h₀ := X.base) I.ok.mod.kin m2 ?_ (by rfl) (by rfl)) g2)
  show wpAny _ _ (spliced ((false, eval (.Lambda params body scope lpos) X.env) :: backTo pos (starEach [] X.env))) _ _ s
  refine Calls.spliced_cons (lam_made I TB hcode hp hm hu rel.wf.tab (L.has I.ok) fun fl c' dL pm' doc' ctv ds H1 s' I1 eN tK T1 nn dl dA hf hfn hfr hco => ?_)
  refine Calls.spliced_nil ⟨I1.kIn, ?_⟩
  have st1 : Step c0 H c0 H1 := step_tab rel.wf eN tK T1
  have rel1 := rel.step st1 rfl
  have main : ∀ p, H1 p = none → tE call EA.ea (wSaid X.K call (G.bs f) f Q) e σ (upd H1 p (.tup [.non, .non])) fun v H' => ∀ p, H' p = none → Q (.ref p) (upd H' p (.lst [v])) := fun p hp => by
    have st2 := st1.trans (step_tup rel1.wf hp (.tup [.non, .non]))
    refine ⟨c0, rel.step st2 rfl, ?_⟩
    simp only [ev] at q
    match hv : ev call e c0.env c0.os, q with
    | .ok (.d d) os, q =>
      intro v H' c' s1 e1 o1 r1 p2 hp2
      rw [hb] at r1
      obtain ⟨_, s2, kp⟩ := step_any s1.wf hp2 (.lst [v])
      exact q (.ref p2) _ (c'.fr p2) (st2.trans (s1.trans s2)) e1 o1 (.lst (.inr rfl) upd_same (.cons (Rp.keep kp r1) .nil))
    | .er y os, q =>
      intro cls d H' c' s1 e1 o1 r1
      obtain ⟨dx, vs, rfl, rfl, x1, x2, x3⟩ := r1
      have q : PoE EA.ea W false σ c0 H (if clsOk y.cls = true then (call f [.x y.cls y.args] os).noer else .st) Q := q
      cases hc : clsOk y.cls with
      | false => rw [hc] at q; exact q.elim
      | true =>
        rw [hc, if_pos rfl] at q
        have fin : ∀ a, H' a = none → spF call EA.ea (G.bs f) f [.ref a] (upd H' a (ExX (.ref (EA.ea y.cls)) (some dx) a)) Q E0' := fun a ha => by
          obtain ⟨s2, _, _⟩ := step_any s1.wf ha (ExX (.ref (EA.ea y.cls)) (some dx) a)
          have nd : dx ≠ a := fun z => by rw [z, ha] at x1; cases x1
          refine ⟨c', [.x y.cls y.args], s2.wf, .cons (.inl ⟨a, dx, vs, rfl, upd_same, by rw [upd_ne nd]; exact x1, x2, RpA.keep (s2.kp s1.wf) x3⟩) .nil, ?_⟩
          rw [o1]
          cases hz : call f [.x y.cls y.args] os with
          | ok v os2 =>
            rw [hz] at q
            exact fun x H2 c2 s3 o3 r3 => q x H2 { c2 with env := c0.env } ((st2.trans (s1.trans (s2.trans s3))).env c0.env) rfl o3 r3
          | er _ _ => rw [hz] at q; exact q.elim
          | st => rw [hz] at q; exact q.elim
        have k1 : ∀ c ∈ cs1, clsOk c = true := by decide
        have k2 : ∀ c ∈ cs2, clsOk c = true := by decide
        refine ⟨_, exm_all er hc k1, fun _ => fin, fun h1 => ⟨_, exm_all er hc k2, fun _ => fin, fun h2 => ?_⟩⟩
        have hlt : 1 ≤ y.cls ∧ y.cls ≤ 11 := by simpa [clsOk] using hc
        have := hlt.1
        have := hlt.2
        generalize y.cls = n at *
        clear hc fin q hbody
        revert h1 h2
        match n with
        | 1 | 2 | 3 | 4 | 5 | 6 | 7 | 8 | 9 | 10 | 11 => decide
        | 0 => omega
        | n + 12 => omega
  have rc : codeAny (model X.prog X.w) X.A (.call (.ref g) ⟨[.ref fl], []⟩) (CR (L2.CX X.prog X.w) X.stack X.prog X.w H1 s' Q E0') s' := by
    refine LamX.run_ofS (N := saidN) (ps := ["call"]) (us := [.ref fl]) (vs := [.ref fl]) m3 m4 FS hr I1.env0 (m6 s' [.ref fl] I1.kIn rfl) (.cons rfl .nil) rfl fun hr' => ?_
    exact said_gives FS m7 er fns (hr'.mono (Nat.le_succ k)) hgu (fun W pn xe E p1 p2 tk => act_lam (i := 0) (tb := tE call EA.ea E e) I1 L hf hfn hfr hp dl dA tk hr' hgu (fun A outer s H hr2 hg2 => hbody A outer s H E fl c' hr2 hg2) rfl (hcl.elim .inl fun z => .inr (.inl z)) (by decide) (by decide))
      (fun E H' Q Q' hq ⟨c, r, z⟩ => ⟨c, r, z.mono hq⟩) hco main
  refine wpAny_call (codeAny_mono rc fun r s2 hq => ?_)
  match r, hq with
  | .error e, hq =>
    obtain ⟨_, _, _, _, _, _, _, _, _, _, _, _, z⟩ := hq
    exact z.elim
  | .ok (.ret u), hq => exact I1.after hq
end FC
end
section
set_option Elab.async false
set_option linter.all false
set_option maxRecDepth 100000
set_option maxHeartbeats 4000000
namespace FC
open PySem PySem.Spec PyProof.Rows L2
variable [EA]
structure SdRaw (G : Glob) (k : Nat) (X : Cx) : Prop where
  sd : ∀ x f, G.sd = some (x, f) → SaidK X.K X.mg G x f
  er : G.ax = true → ErrX X.K X.mg G.exc EA.ea
  rm : Room (k + 2) X.A
  lam : ∀ x f, G.sd = some (x, f) → ∃ c P, X.env.code = .ref c ∧ LamX.TabB X.base X.mg c P ∧ (P, X.env.qual ++ "<lambda>") ∈ EA.tb ∧ ∀ p ∈ EA.tb, p.1 = P → p.2 = X.env.qual ++ "<lambda>"
def BodyR (G : Glob) (N : List Str) (sc : Scope) (b : S) (body : List Stmt) : Prop :=
  ∀ {call : CallT} {k : Nat} {W : XK} {X : Cx} {c0 : Cfg} {H0 : Hp}, GdS G call EA.ea k W X → SdRaw G k X → X.N = N → X.env.scope = sc → PSs X body (tS call EA.ea W c0 H0 b)
theorem BodyOk.raw {G : Glob} {N : List Str} {sc : Scope} {b : S} {body : List Stmt} (h : BodyOk G N sc b body) : BodyR G N sc b body := fun gd _ hN hs => h gd hN hs
end FC
end
section
set_option Elab.async false
set_option linter.all false
set_option maxRecDepth 100000
set_option maxHeartbeats 4000000
namespace FC
open PySem L2 PyProof.Rows
variable [EA]
structure RowK (P : Program) (w : World) (K : PySem.W.Frag) (mg : Str → Option Value) (base : Heap) (G : Glob) (F : Nat → Option FnD) : Prop where
  cst : ∀ x d, G.cst x = some d → ∃ v u, mg x = some u ∧ RelV v u ∧ ∀ H fz, Rp H fz v d
  blt : ∀ x, x ∈ bltNames → mg x = none
  fns : ∀ x f, G.fn x = some f → ∃ (d : FnD) (fa : Addr) (name qual : Str) (params : Arguments) (body : List Stmt) (scope : Scope) (dV kV doc pm cdv ct oc : Value) (an od : Option Addr) (osl : Array (Option Value)) (N ps : List Str),
    F f = some d ∧ mg x = some (.ref fa) ∧ PySem.W.keepIn K (.ref fa) = true ∧ K.lookup fa = some ⟨oc, od, .func (PySem.W.fnOf name qual params body scope dV kV doc pm an cdv ct), osl⟩ ∧ PySem.W.codeIn K cdv qual = true ∧ FnScope N ps scope ∧
    Binds K (PySem.W.fnOf name qual params body scope dV kV doc pm an cdv ct) ps [] ∧ ps.length = d.np ∧ N.length = d.nl ∧ G.bs f = d.bs ∧ BodyR (if d.lam then G else G.nsd) N scope d.body body ∧ (d.lam = true → ∃ c Pt, cdv = .ref c ∧ LamX.TabB base mg c Pt ∧ (Pt, (qual ++ ".<locals>.") ++ "<lambda>") ∈ EA.tb ∧ ∀ p ∈ EA.tb, p.1 = Pt → p.2 = (qual ++ ".<locals>.") ++ "<lambda>")
  exc : ∀ x cl, G.exc x = some cl → ∃ (fI : Addr) (B i newId : String) (bmB : List Value), mg x = some (.ref (EA.ea cl)) ∧ ErrK P K (EA.ea cl) fI B i newId bmB ∧ InitRuns P w K mg (EA.ea cl) fI (fldN cl)
  er : G.ax = true → ErrX K mg G.exc EA.ea
  sd : ∀ x f, G.sd = some (x, f) → SaidK K mg G x f
  dct : ∀ x kvs, G.dct x = some kvs → ∃ a, mg x = some (.ref a) ∧ DctK K w a kvs ∧ (kvs.map (·.1)).Nodup ∧ kvs.length ≤ sizeLine
  mke : G.mke = true → FamX K mg EA.ea ∧ ∀ x cl, G.exc x = some cl → mg x = some (.ref (EA.ea cl)) ∧ MkF P w K mg (EA.ea cl) cl
section
variable {G : Glob} {call : CallT} {k : Nat} {W : XK} {X : Cx} {c0 c : Cfg} {H : Hp}
theorem Rp.tracked {fz : Addr → Prop} {a : Addr} {d : PyData} (h : Rp H fz (.ref a) d) : H a ≠ none := by
  cases h with
  | lst _ e _ => rw [e]; simp
  | tup e _ => exact e.ne
  | dct _ e _ => rw [e]; simp
theorem fld_le (cl : Nat) : (fldN cl).length ≤ 1000 := by
  unfold fldN
  split <;> simp
theorem mke_of {cl : Nat} {x : Str} {fI : Addr} {B i newId : String} {bmB : List Value} (hm : X.mg x = some (.ref (EA.ea cl))) (EK : ErrK X.prog X.K (EA.ea cl) fI B i newId bmB) (IR : InitRuns X.prog X.w X.K X.mg (EA.ea cl) fI (fldN cl)) (hr : Room (k + 1) X.A) (as : List Ex) (e : Expr) (es : List Expr) (p pos : Pos)
    (hg : glB X.env.scope x = true) (hst : ∀ e' ∈ e :: es, stE e' = false) (ha : PA X (e :: es) (tA call EA.ea W as)) : PMk X (.Call (.Name x p) (e :: es) [] pos) (fun σ H Q => tA call EA.ea W as σ H fun vs H1 => spX EA.ea cl vs H1 Q) := by
  obtain ⟨q1, q2, q3⟩ := glB_gl hg
  have pm := pmk_err (p := p) (pos := pos) EK IR (fld_le cl) hr q1 hm ha q2 (star_no (hst e (by simp)) _ _) (back_no fun y hy => hst y (by simp [hy]))
  intro pins s σ H Q I q
  refine pm pins s σ H Q I ?_
  obtain ⟨c, rel, q⟩ := q
  refine ⟨c, rel, ?_⟩
  cases hv : evs call as c.env c.os with
  | st => rw [hv] at q; exact q
  | er y os => rw [hv] at q; exact q
  | ok vs os =>
    rw [hv] at q
    intro xs H1 c1 s1 e1 o1 r1
    obtain ⟨c2, ds, w2, r2, hl, q2⟩ := q xs H1 c1 s1 e1 o1 r1
    have hlx : xs.length = (fldN cl).length := by rw [r2.length, hl]
    refine ⟨hlx, fun dx hdx => ?_⟩
    obtain ⟨s3, _, _⟩ := step_any w2 hdx (.xd ((fldN cl).zip xs))
    exact q2 _ _ _ c2 s3 rfl ⟨dx, xs, rfl, rfl, upd_same, hlx, RpA.keep (s3.kp w2) r2⟩
theorem argSl_ok {c : Cfg} {H : Hp} : ∀ {bs : List Bool} {vs : List V} {args : List PV} {sl : List Sl}, RpB c H bs vs args → argSl bs args = some sl → sl.length = vs.length ∧ ∀ (i : Nat) (s : Sl), sl[i]? = some s →
    (∃ pv v, s = .v pv ∧ vs[i]? = some v ∧ Rpv H c.fz c.om v pv) ∨ (∃ d v, s = .b d ∧ vs[i]? = some v ∧ RoC c H v d)
  | _, _, _, _, .nil, h => by
    have : ∀ bs : List Bool, argSl bs [] = some [] := fun bs => by
      cases bs with
      | nil => rfl
      | cons b bs => cases b <;> rfl
    rw [this] at h
    cases h
    exact ⟨rfl, fun i s hs => by simp at hs⟩
  | [], _, _, _, .cons (v := v) (vs := vs) (x := x) (xs := xs) r t, h => by
    simp only [argSl, List.map_cons] at h
    cases h
    have r : Rpv H c.fz c.om v x := r.elim id fun z => by cases z.1
    obtain ⟨l1, f1⟩ := argSl_ok (bs := []) (sl := xs.map Sl.v) t (by simp [argSl])
    refine ⟨by simp at l1 ⊢; exact l1, fun i s hs => ?_⟩
    cases i with
    | zero => simp at hs; subst hs; exact .inl ⟨x, v, rfl, rfl, r⟩
    | succ i => exact f1 i s (by simpa using hs)
  | true :: bs, _, _, _, .cons (v := v) (vs := vs) (x := .d d) (xs := xs) r t, h => by
    simp only [argSl, Option.map_eq_some_iff] at h
    obtain ⟨sl, h1, rfl⟩ := h
    obtain ⟨l1, f1⟩ := argSl_ok t h1
    have r : RoC c H v d := r.elim (fun z => .inl z) fun ⟨_, d', e, z⟩ => by cases e; exact z
    refine ⟨by simp [l1], fun i s hs => ?_⟩
    cases i with
    | zero => simp at hs; subst hs; exact .inr ⟨d, v, rfl, rfl, r⟩
    | succ i => exact f1 i s (by simpa using hs)
  | true :: bs, _, _, _, .cons (x := .o _) r t, h => by simp [argSl] at h
  | true :: bs, _, _, _, .cons (x := .s _) r t, h => by simp [argSl] at h
  | true :: bs, _, _, _, .cons (x := .x _ _) r t, h => by simp [argSl] at h
  | true :: bs, _, _, _, .cons (x := .xs _) r t, h => by simp [argSl] at h
  | false :: bs, _, _, _, .cons (v := v) (vs := vs) (x := x) (xs := xs) r t, h => by
    simp only [argSl, Option.map_eq_some_iff] at h
    obtain ⟨sl, h1, rfl⟩ := h
    obtain ⟨l1, f1⟩ := argSl_ok t h1
    have r : Rpv H c.fz c.om v x := r.elim id fun z => by cases z.1
    refine ⟨by simp [l1], fun i s hs => ?_⟩
    cases i with
    | zero => simp at hs; subst hs; exact .inl ⟨x, v, rfl, rfl, r⟩
    | succ i => exact f1 i s (by simpa using hs)
theorem RpB.length {c : Cfg} {H : Hp} : ∀ {bs : List Bool} {vs : List V} {xs : List PV}, RpB c H bs vs xs → vs.length = xs.length
  | _, _, _, .nil => rfl
  | _, _, _, .cons _ t => by simp [RpB.length t]
theorem start_rel {c : Cfg} {H : Hp} {bs : List Bool} {vs : List V} {args : List PV} {sl : List Sl} {N : List Str} (w : WF H c) (r : RpB c H bs vs args) (h : argSl bs args = some sl) (hn : vs.length ≤ N.length) :
    RelS c H { c with env := sl ++ List.replicate (N.length - vs.length) Sl.un } (L2.start N vs) H := by
  obtain ⟨hl, f⟩ := argSl_ok r h
  have at_ : ∀ (i : Nat) (s : Sl), (sl ++ List.replicate (N.length - vs.length) Sl.un)[i]? = some s → (sl[i]? = some s ∧ i < vs.length) ∨ s = .un := fun i s hs => by
    by_cases hi : i < sl.length
    · rw [List.getElem?_append_left hi] at hs
      exact .inl ⟨hs, by omega⟩
    · rw [List.getElem?_append_right (by omega)] at hs
      exact .inr (List.eq_of_mem_replicate (List.mem_of_getElem? hs))
  have st : ∀ (i : Nat) (v : V), vs[i]? = some v → (L2.start N vs)[i]? = some (some v) := fun i v hv => by
    unfold L2.start
    have hi : i < vs.length := (List.getElem?_eq_some_iff.mp hv).1
    rw [List.getElem?_append_left (by simpa using hi), List.getElem?_map, hv]
    rfl
  have noM : ∀ (i : Nat) (d : PyData), (sl ++ List.replicate (N.length - vs.length) Sl.un)[i]? ≠ some (.m d) := fun i d hs => by
    rcases at_ i _ hs with ⟨h1, _⟩ | h1
    · rcases f i _ h1 with ⟨pv, v, e, _⟩ | ⟨d', v, e, _⟩ <;> cases e
    · cases h1
  refine ⟨⟨w.env _, by simp [L2.start, hl], fun i s hs => ?_, fun i j d d' a h1 => absurd h1 (noM i d)⟩, (Step.refl w).env _, fun i d a h1 => absurd h1 (noM i d), fun i d a h1 h2 => ?_⟩
  · rcases at_ i s hs with ⟨h1, _⟩ | h1
    · rcases f i s h1 with ⟨pv, v, e, e2, r⟩ | ⟨d, v, e, e2, r⟩
      · subst e
        exact ⟨v, st i v e2, r⟩
      · subst e
        exact ⟨v, st i v e2, r⟩
    · subst h1
      trivial
  · rcases at_ i _ h1 with ⟨h3, _⟩ | h3
    · rcases f i _ h3 with ⟨pv, v, e, e2, r⟩ | ⟨d', v, e, e2, r⟩
      · cases e
      · rw [st i v e2] at h2
        cases h2
        rcases r with r | ⟨a', e', _, r⟩
        · exact r.tracked
        · cases e'
          exact r.tracked
    · cases h3
end
theorem all_fn {P : Program} {w : World} {K : PySem.W.Frag} {mg : Str → Option Value} {base : Heap} {G : Glob} {F : Nat → Option FnD} (R : RowK P w K mg base G F) : ∀ (n : Nat) (x : Str) (f : Nat), G.fn x = some f →
    ∃ fa fd ps, mg x = some (.ref fa) ∧ PySem.W.keepIn K (.ref fa) = true ∧ Binds K fd ps [] ∧ FnG P w K mg base (3 * n + 1) fa fd ps (spF (callN F n) EA.ea (G.bs f) f)
  | 0, x, f, h => by
    obtain ⟨d, fa, name, qual, params, body, scope, dV, kV, doc, pm, cdv, ct, oc, an, od, osl, N, ps, h1, h2, h3, h4, h5, h6, h7, h8, h9, h10, h11, h12⟩ := R.fns x f h
    exact ⟨fa, _, ps, h2, h3, h7, ⟨fun vs H Q E ⟨c, args, _, _, q⟩ => q.elim, fun A outer s H args us vs Q E _ _ _ _ _ ⟨c, args', _, _, q⟩ => q.elim⟩⟩
  | n + 1, x, f, h => by
    obtain ⟨d, fa, name, qual, params, body, scope, dV, kV, doc, pm, cdv, ct, oc, an, od, osl, N, ps, h1, h2, h3, h4, h5, h6, h7, h8, h9, h10, h11, h12⟩ := R.fns x f h
    refine ⟨fa, _, ps, h2, h3, h7, fnG_of (N := N) (k := 3 * n + 3) h4 h5 h6 (fun vs H Q E ⟨c, args, _, r, q⟩ => ?_) fun A outer s H vs Q E hr hg ⟨c, args, w0, r, q⟩ => ?_⟩
    · have : callN F (n + 1) f args c.os = runF (callN F n) d args c.os := by simp only [callN, h1]
      rw [this, runF] at q
      split at q
      · rename_i hl
        rw [r.length, hl, h8]
      · exact q.elim
    · have e1 : callN F (n + 1) f args c.os = runF (callN F n) d args c.os := by simp only [callN, h1]
      rw [e1, runF] at q
      split at q
      · rename_i hl
        cases ha : argSl d.bs args with
        | none => rw [ha] at q; exact q.elim
        | some sl =>
          rw [ha] at q
          have hvl : vs.length = d.np := by rw [r.length, hl]
          have hnp : d.np ≤ N.length := by
            have := congrArg List.length h6.pre
            rw [List.length_take] at this
            omega
          have rs := start_rel (N := N) w0 r (by rw [h10]; exact ha) (by omega)
          have mk : ∀ G' : Glob, G'.cst = G.cst → G'.fn = G.fn → G'.exc = G.exc → G'.bs = G.bs → G'.ax = G.ax → G'.dct = G.dct → G'.mke = G.mke → SdOk G' (callN F n) EA.ea (3 * n + 1) E (cxOf (L2.CX P w) P w K mg base N qual scope fa cdv A outer s H E) → GdS G' (callN F n) EA.ea (3 * n + 1) E (cxOf (L2.CX P w) P w K mg base N qual scope fa cdv A outer s H E) := fun G' e1 e2 e3 e4 e5 e6 e7 sd =>
            ⟨⟨rfl, h6.nd, deeper_guards A _ hg, hr.mono (by omega), by rw [e1]; exact R.cst, R.blt, fun y g hy => by rw [e4]; exact all_fn R n y g (by rw [← e2]; exact hy), takes_of rfl rfl rfl rfl, fun hax => by rw [e3]; exact R.er (by rw [← e5]; exact hax), sd, by rw [e6]; exact R.dct, fun hm => ⟨(R.mke (by rw [← e7]; exact hm)).1, by rw [e3]; exact (R.mke (by rw [← e7]; exact hm)).2, 0, hr.mono (by omega)⟩⟩, h6.kind, passes_of rfl, fun _ => rfl, fun y cl hy as e es p pos hgl hst pa => by
              obtain ⟨fI, B, i, newId, bmB, m1, m2, m3⟩ := R.exc y cl (by rw [← e3]; exact hy)
              exact mke_of (k := n) m1 m2 m3 (hr.mono (by omega)) as e es p pos hgl hst pa⟩
          have gd : GdS (if d.lam then G else G.nsd) (callN F n) EA.ea (3 * n + 1) E (cxOf (L2.CX P w) P w K mg base N qual scope fa cdv A outer s H E) := by
            cases hl : d.lam with
            | false =>
              rw [if_neg Bool.false_ne_true]
              exact mk G.nsd rfl rfl rfl rfl rfl rfl rfl SdOk.nsd
            | true =>
              rw [if_pos rfl]
              obtain ⟨c', Pt, z1, z2, z3, z4⟩ := h12 hl
              subst z1
              exact mk G rfl rfl rfl rfl rfl rfl rfl (sd_ok R.sd R.er hr (deeper_guards A _ hg) (fun y g hy => all_fn R n y g hy) rfl z2 z3 z4)
          have raw : SdRaw (if d.lam then G else G.nsd) (3 * n + 1) (cxOf (L2.CX P w) P w K mg base N qual scope fa cdv A outer s H E) := by
            cases hl : d.lam with
            | false =>
              rw [if_neg Bool.false_ne_true]
              exact ⟨fun x f hx => (by cases hx), R.er, hr, fun x f hx => (by cases hx)⟩
            | true =>
              rw [if_pos rfl]
              obtain ⟨c', Pt, z1, z2, z3, z4⟩ := h12 hl
              subst z1
              exact ⟨R.sd, R.er, hr, fun x f hx => ⟨c', Pt, rfl, z2, z3, z4⟩⟩
          refine ⟨tS (callN F n) EA.ea E c H d.body, h11 gd raw rfl rfl, ⟨_, rs, ?_⟩⟩
          rw [hvl]
          dsimp only at q
          rw [← h9] at q
          show PoS EA.ea E c H _ H (ex (callN F n) d.body (sl ++ List.replicate (N.length - d.np) Sl.un) c.os) _
          cases hx : ex (callN F n) d.body (sl ++ List.replicate (N.length - d.np) Sl.un) c.os with
          | nx env os => rw [hx] at q; exact fun σ' H' c' rs' e o kp => q .non H' c' rs'.stp o .non
          | rt v os => rw [hx] at q; exact fun x H' c' s o r => q x H' c' s o r
          | er y os => rw [hx] at q; exact fun cls d H' c' s o r => q cls d H' c' s o r
          | st => rw [hx] at q; exact q
      · exact q.elim
end FC
end
section
set_option Elab.async false
set_option linter.all false
set_option maxRecDepth 100000
set_option maxHeartbeats 4000000
namespace FC
open PySem PySem.Spec PyProof.Rows L2
theorem zip_look : ∀ (ns : List Str) (us : List Value) (pre : List (Str × Value)), (∀ n ∈ ns, pre.lookup n = none) → ns.Nodup → us.length = ns.length → ns.filterMap (fun n => ((pre ++ ns.zip us).lookup n).map (n, ·)) = ns.zip us
  | [], _, _, _, _, _ => rfl
  | n :: ns, [], _, _, _, h => by simp at h
  | n :: ns, u :: us, pre, hp, hd, hl => by
    obtain ⟨h1, h2⟩ := List.nodup_cons.mp hd
    have e0 : (pre ++ (n, u) :: ns.zip us).lookup n = some u := by
      rw [List.lookup_append, hp n (by simp)]
      simp [List.lookup]
    rw [List.zip_cons_cons, List.filterMap_cons, e0]
    simp only [Option.map_some]
    have ih := zip_look ns us (pre ++ [(n, u)]) (fun m hm => by
      have : m ≠ n := fun z => h1 (by rw [← z]; exact hm)
      rw [List.lookup_append, hp m (by simp [hm])]
      simp [List.lookup, beq_eq_false_iff_ne.mpr this]) h2 (by simpa using hl)
    rw [show pre ++ (n, u) :: ns.zip us = (pre ++ [(n, u)]) ++ ns.zip us by simp, ih]
def plainA : Arguments → Bool
  | ⟨[], _, none, [], [], none, []⟩ => true
  | _ => false
def parA (a : Arguments) : List Str := a.args.map fun x => x.arg
theorem bind_plain {fd : FuncData} {us : List Value} (h : plainA fd.params = true) (hd : fd.defaults = .none) (nd : (parA fd.params).Nodup) (hl : us.length = (parA fd.params).length) : bindArgs fd ⟨us, []⟩ = pure ((parA fd.params).zip us) := by
  obtain ⟨n1, n2, params, n4, n5, n6, n7, n8, n9, n10, n11, n12, n13, n14, n15⟩ := fd
  dsimp only at h hd nd hl ⊢
  subst hd
  obtain ⟨po, as, va, ko, kd, kw, df⟩ := params
  unfold plainA at h
  split at h
  · rename_i heq
    cases heq
    have nd' : (as.map fun x => x.arg).Nodup := nd
    have hl' : us.length = (as.map fun x => x.arg).length := hl
    have hz := zip_look (as.map fun x => x.arg) us [] (fun _ _ => rfl) nd' hl'
    simp only [List.nil_append] at hz
    have hm : ((as.map fun x => x.arg).filter fun n => (((as.map fun x => x.arg).zip us).lookup n).isNone) = [] := by
      rw [List.filter_eq_nil_iff]
      intro n hn hc
      simp only [Option.isNone_iff_eq_none] at hc
      have hlen := congrArg List.length hz
      have : ∀ (l : List Str), (l.filterMap fun n => (((as.map fun x => x.arg).zip us).lookup n).map (n, ·)).length ≤ l.length ∧ (n ∈ l → (l.filterMap fun n => (((as.map fun x => x.arg).zip us).lookup n).map (n, ·)).length < l.length) := by
        intro l
        induction l with
        | nil => simp
        | cons m l ih =>
          rw [List.filterMap_cons]
          refine ⟨?_, fun hm => ?_⟩
          · split
            · simp only [List.length_cons]; omega
            · simp only [List.length_cons]; omega
          · rcases List.mem_cons.mp hm with rfl | hm
            · rw [hc]
              simp only [Option.map_none, List.length_cons]; omega
            · have := ih.2 hm
              split
              · simp only [List.length_cons]; omega
              · simp only [List.length_cons]; omega
      have := (this _).2 hn
      rw [hlen, List.length_zip, hl'] at this
      simp at this
    have ht : (as.map fun x => x.arg).take as.length = as.map fun x => x.arg := List.take_of_length_le (by simp)
    have hz' : List.filterMap ((fun n => Option.map (fun x => (n, x)) (List.lookup n ((as.map fun x => x.arg).zip us))) ∘ fun x => x.arg) as = (as.map fun x => x.arg).zip us := by
      rw [← List.filterMap_map]; exact hz
    simp [bindArgs, parA, hl, seqItems?]
    simp [notAStandIn, ht, hm, hz']
  · cases h
def scB (N ps : List Str) (sc : Scope) : Bool :=
  decide (sc.kind = .function) && !sc.isCoroutine && !sc.isGenerator && decide N.Nodup && decide (N.take ps.length = ps) && (ps.all fun x => decide (sc.names.lookup x = some .local) || decide (sc.names.lookup x = some .cell)) && (sc.names.all fun y => !decide (y.2 = .free))
theorem scB_ok {N ps : List Str} {sc : Scope} (h : scB N ps sc = true) : FnScope N ps sc := by
  unfold scB at h
  simp only [Bool.and_eq_true, Bool.or_eq_true, Bool.not_eq_true', decide_eq_true_eq, decide_eq_false_iff_not, List.all_eq_true] at h
  obtain ⟨⟨⟨⟨⟨⟨h1, h2⟩, h3⟩, h4⟩, h5⟩, h6⟩, h7⟩ := h
  exact ⟨h1, h2, h3, h4, h5, h6, h7⟩
end FC
end
section
set_option Elab.async false
set_option linter.all false
set_option maxRecDepth 100000
set_option maxHeartbeats 4000000
namespace FC
open PySem PySem.Spec PyProof.Rows L2
def excL : List (Str × Nat) := [("BadDrawing", 1), ("BadCompany", 2), ("BadMove", 3), ("BadNumber", 4), ("BadPoint", 5), ("BadStep", 6), ("BadPaper", 7), ("BadLog", 8), ("BadText", 9), ("TooMany", 10), ("NothingLeft", 11)]
def excNm : Nat → Str
  | 1 => "BadDrawing"
  | 2 => "BadCompany"
  | 3 => "BadMove"
  | 4 => "BadNumber"
  | 5 => "BadPoint"
  | 6 => "BadStep"
  | 7 => "BadPaper"
  | 8 => "BadLog"
  | 9 => "BadText"
  | 10 => "TooMany"
  | _ => "NothingLeft"
def eqB (a b : Option Bool) : Bool := decide (a = b)
def eqV (a b : Option Value) : Bool := decide (a = b)
def errB (P : Program) (K : PySem.W.Frag) (C : Addr) (b : Bas) : Bool :=
  PySem.W.excInitIn K C b.bm b.n && PySem.W.excOver K C b.bm && He.eqO (PySem.W.findIn K (.ref C) "__setattr__") (some (some (.builtin "object.__setattr__"))) && PySem.W.hasDictIn K C &&
  He.eqO (PySem.W.findIn K (.ref C) "__init__") (some (some (.ref (He.ma K C "__init__")))) && eqV (PySem.W.typeIn K (.ref (He.ma K C "__init__"))) (some (.type "function")) && eqB (PySem.W.subIn K (.ref C) (.type b.B)) (some true) &&
  He.eqO (PySem.W.nsIn K cStatics "thirdparty.any") (some none) && He.eqO (PySem.W.ks_superIn K C C "__init__") (some (some (.builtin b.i))) && eqB (PySem.W.mroIn K C (.ref C)) (some true) && eqB (PySem.W.subIn K (.ref C) (.type "BaseException")) (some true) &&
  eqV (PySem.W.typeIn K (.ref C)) (some (.type "type")) && PySem.W.keepIn K (.ref C) && !(P.main.scope.names.lookup ("super" : Str)).isSome
theorem errB_ok {P : Program} {K : PySem.W.Frag} {C : Addr} {cl : Nat} (h : errB P K C (basOf cl) = true) : ErrK P K C (He.ma K C "__init__") (basOf cl).B (basOf cl).i (basOf cl).n (basOf cl).bm := by
  obtain ⟨f1, f2, f3⟩ := bas_ok cl
  generalize basOf cl = b at *
  simp only [errB, Bool.and_eq_true, Bool.not_eq_true', eqB, eqV, He.eqO, decide_eq_true_eq] at h
  obtain ⟨⟨⟨⟨⟨⟨⟨⟨⟨⟨⟨⟨⟨h1, h2⟩, h3⟩, h4⟩, h5⟩, h6⟩, h7⟩, h8⟩, h9⟩, h10⟩, h11⟩, h12⟩, h13⟩, h14⟩ := h
  exact ⟨f1, f2, f3, h1, h2, h3, h4, h5, h6, h7, h8, h9, h10, h11, h12, h13, h14⟩
def initSh (flds : List Str) (b : List Stmt) : Bool := match b with
  | [.Expr (.Call (.Attribute (.Call (.Name s0 _) [] [] _) m p2) [.Constant (.str _) _ _] [] p4) _, .Assign [.Attribute (.Name s1 _) f _] (.Name g _) _] => decide (s0 = "super") && (p2.endLine == p4.line) && decide (m = "__init__") && decide (s1 = "self") && decide (f = g) && decide (flds = [f])
  | [.Expr (.Call (.Attribute (.Call (.Name s0 _) [] [] _) m p2) [.Constant (.str _) _ _] [] p4) _, .Assign [.Attribute (.Name s1 _) f _] (.Name g _) _, .Assign [.Attribute (.Name s2 _) f2 _] (.Name g2 _) _] =>
    decide (s0 = "super") && (p2.endLine == p4.line) && decide (m = "__init__") && decide (s1 = "self") && decide (f = g) && decide (s2 = "self") && decide (f2 = g2) && decide (flds = [f, f2])
  | _ => false
def noneB : Value → Bool
  | .none => true
  | _ => false
def fileB (P : Program) (K : PySem.W.Frag) (c : Addr) : Bool := match K.lookup c with
  | some ⟨_, _, .fields vs, _⟩ => (match (vs[2]? : Option Value) with
    | some (.str file _) => (P.main.file : Str) == file
    | _ => false)
  | _ => false
def cellB (K : PySem.W.Frag) (cc C : Addr) : Bool := match K.lookup cc with
  | some ⟨_, _, .cell (some (.ref D)), _⟩ => decide (D = C)
  | _ => false
def initFd (P : Program) (K : PySem.W.Frag) (C : Addr) (flds : List Str) (fd : FuncData) : Bool :=
  match fd.closure, fd.code with
  | [(x, cc)], .ref cda => decide (x = "__class__") && decide (fd.globals = mainGlobals) && decide (fd.builtins = builtinsNs) && noneB fd.defaults && (match fd.body with
      | .stmts b => initSh flds b
      | _ => false) && PySem.W.codeIn K (.ref cda) fd.qualname && fileB P K cda && cellB K cc C && plainA fd.params && decide (parA fd.params = ("self" : Str) :: flds) && decide (("self" : Str) :: flds).Nodup && decide (fd.scope.kind = .function) && !fd.scope.isCoroutine && !fd.scope.isGenerator &&
      (fd.scope.names.all fun y => !decide (y.2 = .cell)) && decide (fd.scope.names.lookup ("super" : Str) = some .globalImplicit) && decide (fd.scope.names.lookup ("__class__" : Str) = some .free) && ((("self" : Str) :: flds).all fun x => decide (fd.scope.names.lookup x = some .local)) &&
      (flds.all fun f => He.eqO (PySem.W.takerIn K C f) (some none) && !(f == ("__debug__" : Str)))
  | _, _ => false
def initB (P : Program) (K : PySem.W.Frag) (C : Addr) (flds : List Str) : Bool := match K.lookup (He.ma K C "__init__") with
  | some ⟨_, _, .func fd, _⟩ => initFd P K C flds fd
  | _ => false
theorem sup_ev {msg : Str} {j : Nat} {p0 p1 p2 p3 p4 : Pos} {env : Env} (hl : (p2.endLine == p4.line) = true) : SupEv msg j p0 p1 p2 p3 p4 env := by
  refine ⟨do return (← importBound (.Call (.Name "super" p0) [] [] p1) env).getD true, ?_⟩
  show (do
    let ov ← attributeBase (.Call (.Name "super" p0) [] [] p1) "__init__" env (eval (.Call (.Name "super" p0) [] [] p1) env)
    standAt p2.atName
    methodCall (.Call (.Name "super" p0) [] [] p1) "__init__" p2 p4 env ov 1 (backTo p4 (starEach [.Constant (.str msg) j p3] env)) (backToKw p4 (keywordEach [] env))) = _
  have hf : methodCallForm 1 (backTo p4 (starEach [.Constant (.str msg) j p3] env)) (backToKw p4 (keywordEach [] env)) = true := rfl
  simp only [methodCall, hf, calleeOf, methodCallPos, hl, Bool.or_true, if_true, Bool.not_true, Bool.false_or, pure_bind]
  rfl
theorem initB_ok {P : Program} {w : World} {K : PySem.W.Frag} {mg : Str → Option Value} {C : Addr} {B i newId : String} {bmB : List Value} {flds : List Str} (EK : ErrK P K C (He.ma K C "__init__") B i newId bmB) (hs : mg "super" = none) (h : initB P K C flds = true) : InitRuns P w K mg C (He.ma K C "__init__") flds := by
  unfold initB at h
  split at h
  · rename_i oc od fd osl lk
    obtain ⟨name, qual, params, body, scope, globals, closure, defaults, kwd, doc, pm, an, code, ct, blt⟩ := fd
    unfold initFd at h
    split at h
    · rename_i x cc cda e1 e2
      dsimp only at e1 e2 h
      subst e1 e2
      simp only [Bool.and_eq_true, Bool.not_eq_true', decide_eq_true_eq, decide_eq_false_iff_not, List.all_eq_true] at h
      obtain ⟨⟨⟨⟨⟨⟨⟨⟨⟨⟨⟨⟨⟨⟨⟨⟨⟨⟨h1, h2⟩, h3⟩, h4⟩, h5⟩, h6⟩, h7⟩, h8⟩, h9⟩, h10⟩, h11⟩, h12⟩, h13⟩, h14⟩, h15⟩, h16⟩, h17⟩, h18⟩, h19⟩ := h
      subst h1 h2 h3
      have hdn : defaults = .none := by
        cases defaults <;> first | rfl | cases h4
      subst hdn
      cases body with
      | stmts b =>
        dsimp only at h5
        have IK : InitK P K C (He.ma K C "__init__") cda cc qual params b scope (PySem.W.ksFn name qual params b scope .none kwd doc pm an (.ref cda) ct cc) flds := by
          refine ⟨⟨oc, od, osl, name, .none, kwd, doc, pm, an, ct, rfl, lk⟩, h6, ?_, ?_, ?_, h12, h13, h14, h15, h16, h17, h18, ?_⟩
          · unfold fileB at h7
            split at h7
            · rename_i ccl cdd vs ccs q1
              split at h7
              · rename_i file tf q2
                exact ⟨ccl, cdd, vs, ccs, file, tf, q1, q2, h7⟩
              · cases h7
            · cases h7
          · unfold cellB at h8
            split at h8
            · rename_i cl cld D csl q1
              have : D = C := of_decide_eq_true h8
              subst this
              exact ⟨cl, cld, csl, q1⟩
            · cases h8
          · obtain ⟨po, as, va, ko, kd, kw, df⟩ := params
            unfold plainA at h9
            split at h9
            · rename_i heq
              cases heq
              cases as with
              | nil => simp [parA] at h10
              | cons a as =>
                simp only [parA, List.map_cons, List.cons.injEq] at h10
                exact ⟨a, rfl, h10.1⟩
            · cases h9
          · refine .all fun us hl => ?_
            have := bind_plain (fd := PySem.W.ksFn name qual params b scope .none kwd doc pm an (.ref cda) ct cc) (us := us) h9 rfl (by rw [show parA (PySem.W.ksFn name qual params b scope .none kwd doc pm an (.ref cda) ct cc).params = parA params from rfl, h10]; exact h11) (by rw [show parA (PySem.W.ksFn name qual params b scope .none kwd doc pm an (.ref cda) ct cc).params = parA params from rfl, h10]; exact hl)
            rw [this, show parA (PySem.W.ksFn name qual params b scope .none kwd doc pm an (.ref cda) ct cc).params = parA params from rfl, h10]
        unfold initSh at h5
        split at h5
        · rename_i s0 p0 p1 m p2 msg j p3 p4 p5 s1 p6 f p7 g p8 p9
          simp only [Bool.and_eq_true, decide_eq_true_eq] at h5
          obtain ⟨⟨⟨⟨⟨rfl, hl⟩, rfl⟩, rfl⟩, rfl⟩, rfl⟩ := h5
          have q := h19 f (by simp)
          have nf : f ≠ "self" := fun z => by
            rw [z] at h11
            simp at h11
          exact init1 (f := f) EK IK hs (He.eqO_ok q.1) q.2 nf fun L => sup_ev hl
        · rename_i s0 p0 p1 m p2 msg j p3 p4 p5 s1 p6 f p7 g p8 p9 s2 q6 f2 q7 g2 q8 q9
          simp only [Bool.and_eq_true, decide_eq_true_eq] at h5
          obtain ⟨⟨⟨⟨⟨⟨⟨rfl, hl⟩, rfl⟩, rfl⟩, rfl⟩, rfl⟩, rfl⟩, rfl⟩ := h5
          have q := h19 f (by simp)
          have q2 := h19 f2 (by simp)
          simp only [List.nodup_cons, List.mem_cons, List.not_mem_nil, or_false, not_or] at h11
          exact init2 (f := f) (f2 := f2) EK IK hs (He.eqO_ok q.1) (He.eqO_ok q2.1) q.2 q2.2 (Ne.symm h11.1.1) (Ne.symm h11.1.2) h11.2.1 fun L => sup_ev hl
        · cases h5
      | _ => cases h5
    · cases h
  · cases h
def clsB (K : PySem.W.Frag) (D : Addr) (cl : Nat) : Bool :=
  He.eqO (PySem.W.findIn K (.ref D) "__getattribute__") (some (some (.builtin "BaseException.__getattribute__"))) && He.eqO (PySem.W.findIn K (.ref D) "__getattr__") (some none) && eqB (PySem.W.subIn K (.ref D) (.type "BaseException")) (some true) && PySem.W.hasDictIn K D &&
  He.eqO (PySem.W.findIn K (.ref D) "__class__") (some (some (.builtin "object.__class__"))) && He.eqO (PySem.W.specialIn K (.builtin "object.__class__") "__get__") (some (some (.builtin "getset_descriptor.__get__"))) && eqB (PySem.W.takesIn K (.builtin "object.__class__")) (some true) && eqB (PySem.W.mroIn K D (.type "object")) (some true) &&
  (fldN cl).all fun f => He.eqO (PySem.W.findIn K (.ref D) f) (some none)
theorem clsB_ok {K : PySem.W.Frag} {D : Addr} {cl : Nat} (h : clsB K D cl = true) : ExcC K D ∧ ∀ f ∈ fldN cl, PySem.W.findIn K (.ref D) f = some none := by
  simp only [clsB, Bool.and_eq_true, eqB, He.eqO, decide_eq_true_eq, List.all_eq_true] at h
  obtain ⟨⟨⟨⟨⟨⟨⟨⟨h1, h2⟩, h3⟩, h4⟩, h5⟩, h6⟩, h7⟩, h8⟩, h9⟩ := h
  exact ⟨⟨h1, h2, h3, h4, h5, h6, h7, h8⟩, h9⟩
end FC
end
section
set_option Elab.async false
set_option linter.all false
set_option maxRecDepth 100000
set_option maxHeartbeats 4000000
namespace FC
open PySem PySem.Spec PySem.Calls PyProof.Rows PySem.W L2
def BindsK (fd : FuncData) (flds : List Str) : Prop := ∀ (s : Shared) (x : Value) (us : List Value) (kws : List (Str × Value)), us.length = flds.length → KwOk flds us kws → BindsTo s fd ⟨[x], kws⟩ ((("self" : Str) :: flds).zip (x :: us))
theorem bindsK1 {fd : FuncData} {f : Str} (h : plainA fd.params = true) (hd : fd.defaults = .none) (hp : parA fd.params = [("self" : Str), f]) (nd : [("self" : Str), f].Nodup) : BindsK fd [f] := by
  intro s x us kws hl hk
  refine BindsTo.of_eq ?_
  obtain ⟨n1, n2, params, n4, n5, n6, n7, n8, n9, n10, n11, n12, n13, n14, n15⟩ := fd
  dsimp only at h hd hp ⊢
  subst hd
  obtain ⟨po, as, va, ko, kd, kw, df⟩ := params
  unfold plainA at h
  split at h
  · rename_i heq
    cases heq
    have hp : as.map (fun x => x.arg) = [("self" : Str), f] := hp
    match us, hl with
    | [u], _ =>
      have : kws = [(f, u)] := by rcases hk with rfl | rfl <;> rfl
      subst this
      simp only [List.nodup_cons, List.mem_cons, List.not_mem_nil, or_false] at nd
      have n1 : (f == ("self" : Str)) = false := beq_eq_false_iff_ne.mpr (Ne.symm nd.1)
      have n2 : (("self" : Str) == f) = false := beq_eq_false_iff_ne.mpr nd.1
      simp [bindArgs, hp, seqItems?, notAStandIn, List.lookup, n1, n2]
  · cases h
theorem bindsK2 {fd : FuncData} {f f2 : Str} (h : plainA fd.params = true) (hd : fd.defaults = .none) (hp : parA fd.params = [("self" : Str), f, f2]) (nd : [("self" : Str), f, f2].Nodup) : BindsK fd [f, f2] := by
  intro s x us kws hl hk
  refine BindsTo.of_eq ?_
  obtain ⟨n1, n2, params, n4, n5, n6, n7, n8, n9, n10, n11, n12, n13, n14, n15⟩ := fd
  dsimp only at h hd hp ⊢
  subst hd
  obtain ⟨po, as, va, ko, kd, kw, df⟩ := params
  unfold plainA at h
  split at h
  · rename_i heq
    cases heq
    have hp : as.map (fun x => x.arg) = [("self" : Str), f, f2] := hp
    match us, hl with
    | [u, u2], _ =>
      simp only [List.nodup_cons, List.mem_cons, List.not_mem_nil, or_false, not_or] at nd
      have n1 : (f == ("self" : Str)) = false := beq_eq_false_iff_ne.mpr (Ne.symm nd.1.1)
      have n2 : (("self" : Str) == f) = false := beq_eq_false_iff_ne.mpr nd.1.1
      have n3 : (f2 == ("self" : Str)) = false := beq_eq_false_iff_ne.mpr (Ne.symm nd.1.2)
      have n4 : (("self" : Str) == f2) = false := beq_eq_false_iff_ne.mpr nd.1.2
      have n5 : (f == f2) = false := beq_eq_false_iff_ne.mpr nd.2.1
      have n6 : (f2 == f) = false := beq_eq_false_iff_ne.mpr (Ne.symm nd.2.1)
      have : kws = [(f, u), (f2, u2)] ∨ kws = [(f2, u2), (f, u)] := by
        rcases hk with rfl | rfl
        · exact .inl rfl
        · exact .inr rfl
      rcases this with rfl | rfl
      · simp [bindArgs, hp, seqItems?, notAStandIn, List.lookup, n1, n2, n3, n4, n5, n6]
      · simp [bindArgs, hp, seqItems?, notAStandIn, List.lookup, n1, n2, n3, n4, n5, n6]
  · cases h
section
variable {P : Program} {w : World} {A : Around} {K : Frag} {mg : Str → Option Value} {C fI cda cc : Addr} {B i newId : String} {bmB : List Value} {qual : Str} {params : Arguments} {body : List Stmt} {scope : Scope} {fd : FuncData} {flds : List Str} {E : Value → Shared → Prop} {hp : Heap} {L x : Addr} {m : Str → Option Value} {s : Shared}
theorem init1K {f msg : Str} {j : Nat} {p0 p1 p2 p3 p4 p5 p6 p7 p8 p9 : Pos} (EK : ErrK P K C fI B i newId bmB) (IK : InitK P K C fI cda cc qual params [supStmt msg j p0 p1 p2 p3 p4 p5, fldStmt f p6 p7 p8 p9] scope fd [f]) (hbd : BindsK fd [f]) (hsm : mg "super" = none) (ht : takerIn K C f = some none) (hdf : (f == ("__debug__" : Str)) = false) (hfs : f ≠ "self")
    (hev : ∀ L, SupEv msg j p0 p1 p2 p3 p4 (ksEnv qual scope L fI (.ref cda) cc)) : InitRunsK P w K mg C fI [f] := by
  intro A hp g d t os us kws R hl hkw hroom X₀ hg hb hlim hR
  have hsf : (("self" : Str) == f) = false := beq_eq_false_iff_ne.mpr (Ne.symm hfs)
  match us, hl with
  | [u], _ =>
    obtain ⟨oc, od, osl, nm, dV, kV, doc, pm, an, ct, hfd, lk⟩ := IK.lk
    have kk : ∀ b o, hp.get? b = some o → ((hp.push (kdv_tup [])).push (excObj C hp.objs.size none .none)).get? b = some o := fun b o e => Heap.get?_push_of_some _ (Heap.get?_push_of_some _ e)
    have hget : ((hp.push (kdv_tup [])).push (excObj C hp.objs.size none .none)).get? (hp.objs.size + 1) = some (excObj C hp.objs.size none .none) := by heap_get
    have hxn : hp.get? (hp.objs.size + 1) = none := Heap.get?_none_of_le (Nat.le_succ _)
    have X2 : K.In ((hp.push (kdv_tup [])).push (excObj C hp.objs.size none .none)) := X₀.keeps kk
    have bd := hbd ⟨(hp.push (kdv_tup [])).push (excObj C hp.objs.size none .none), g, d, t, os⟩ (.ref (hp.objs.size + 1)) [u] kws rfl hkw
    subst hfd
    refine ks_codeAny_call_defAt hroom (X2 _ _ lk) rfl (hlim.keeps kk) (codeRec_of X2 IK.hcd) rfl bd IK.nc (fun y hy => ?_) (fun h₁ hns hk₁ => ?_) IK.co IK.gen IK.kd
    · have : y = (("self" : Str), Value.ref (hp.objs.size + 1)) ∨ y = (f, u) := by simpa using hy
      rcases this with rfl | rfl
      · exact IK.loc _ (by simp)
      · exact IK.loc _ (by simp)
    have hsz : ((hp.push (kdv_tup [])).push (excObj C hp.objs.size none .none)).objs.size = hp.objs.size + 1 + 1 := by rw [Heap.size_push, Heap.size_push]
    generalize hL : ((hp.push (kdv_tup [])).push (excObj C hp.objs.size none .none)).objs.size = L at hns ⊢
    rw [hL] at hsz
    have F1 : Fr hp L h₁ _ := ⟨hns, fun b o e => hk₁ b o (kk b o e), by omega⟩
    have hxL : hp.objs.size + 1 ≠ L := by omega
    refine ks_wpAt_execs_cons (run_sup (hev L) EK IK hg hsm hb F1 X₀ (hk₁ _ _ hget) hxL hxn ?_ fun t' h2 tk F2 hx2 => ?_)
    · simp [List.lookup, hsf]
    refine ks_wpAt_execs_cons (run_fld0 (u := u) EK IK.kd (IK.loc _ (by simp)) (IK.loc _ (by simp)) ht hdf F2 X₀ hx2 hxL hxn ?_ ?_ fun dx h3 tk3 F3 hx3 hd3 hdL hdn hdx => ?_)
    · simp [List.lookup, hsf]
    · simp [List.lookup]
    refine wpAt_of_wpAny (wpAny_execs_nil ?_)
    refine hR h3 tk3 dx t' _ F3.keep hx3 (ns1_one hd3) (fun y => ?_) hdn
    by_cases hy : y = f
    · subst hy; simp [List.lookup]
    · have : (y == f) = false := beq_eq_false_iff_ne.mpr hy
      simp [List.lookup, hy, this]
theorem init2K {f f2 msg : Str} {j : Nat} {p0 p1 p2 p3 p4 p5 p6 p7 p8 p9 q6 q7 q8 q9 : Pos} (EK : ErrK P K C fI B i newId bmB) (IK : InitK P K C fI cda cc qual params [supStmt msg j p0 p1 p2 p3 p4 p5, fldStmt f p6 p7 p8 p9, fldStmt f2 q6 q7 q8 q9] scope fd [f, f2]) (hbd : BindsK fd [f, f2]) (hsm : mg "super" = none) (ht : takerIn K C f = some none) (ht2 : takerIn K C f2 = some none) (hdf : (f == ("__debug__" : Str)) = false) (hdf2 : (f2 == ("__debug__" : Str)) = false) (hfs : f ≠ "self") (hfs2 : f2 ≠ "self") (hne : f ≠ f2)
    (hev : ∀ L, SupEv msg j p0 p1 p2 p3 p4 (ksEnv qual scope L fI (.ref cda) cc)) : InitRunsK P w K mg C fI [f, f2] := by
  intro A hp g d t os us kws R hl hkw hroom X₀ hg hb hlim hR
  have hsf : (("self" : Str) == f) = false := beq_eq_false_iff_ne.mpr (Ne.symm hfs)
  have hsf2 : (("self" : Str) == f2) = false := beq_eq_false_iff_ne.mpr (Ne.symm hfs2)
  have hff : (f == f2) = false := beq_eq_false_iff_ne.mpr hne
  match us, hl with
  | [u, u2], _ =>
    obtain ⟨oc, od, osl, nm, dV, kV, doc, pm, an, ct, hfd, lk⟩ := IK.lk
    have kk : ∀ b o, hp.get? b = some o → ((hp.push (kdv_tup [])).push (excObj C hp.objs.size none .none)).get? b = some o := fun b o e => Heap.get?_push_of_some _ (Heap.get?_push_of_some _ e)
    have hget : ((hp.push (kdv_tup [])).push (excObj C hp.objs.size none .none)).get? (hp.objs.size + 1) = some (excObj C hp.objs.size none .none) := by heap_get
    have hxn : hp.get? (hp.objs.size + 1) = none := Heap.get?_none_of_le (Nat.le_succ _)
    have X2 : K.In ((hp.push (kdv_tup [])).push (excObj C hp.objs.size none .none)) := X₀.keeps kk
    have bd := hbd ⟨(hp.push (kdv_tup [])).push (excObj C hp.objs.size none .none), g, d, t, os⟩ (.ref (hp.objs.size + 1)) [u, u2] kws rfl hkw
    subst hfd
    refine ks_codeAny_call_defAt hroom (X2 _ _ lk) rfl (hlim.keeps kk) (codeRec_of X2 IK.hcd) rfl bd IK.nc (fun y hy => ?_) (fun h₁ hns hk₁ => ?_) IK.co IK.gen IK.kd
    · have : y = (("self" : Str), Value.ref (hp.objs.size + 1)) ∨ y = (f, u) ∨ y = (f2, u2) := by simpa using hy
      rcases this with rfl | rfl | rfl
      · exact IK.loc _ (by simp)
      · exact IK.loc _ (by simp)
      · exact IK.loc _ (by simp)
    have hsz : ((hp.push (kdv_tup [])).push (excObj C hp.objs.size none .none)).objs.size = hp.objs.size + 1 + 1 := by rw [Heap.size_push, Heap.size_push]
    generalize hL : ((hp.push (kdv_tup [])).push (excObj C hp.objs.size none .none)).objs.size = L at hns ⊢
    rw [hL] at hsz
    have F1 : Fr hp L h₁ _ := ⟨hns, fun b o e => hk₁ b o (kk b o e), by omega⟩
    have hxL : hp.objs.size + 1 ≠ L := by omega
    refine ks_wpAt_execs_cons (run_sup (hev L) EK IK hg hsm hb F1 X₀ (hk₁ _ _ hget) hxL hxn ?_ fun t' h2 tk F2 hx2 => ?_)
    · simp [List.lookup, hsf, hsf2]
    refine ks_wpAt_execs_cons (run_fld0 (u := u) EK IK.kd (IK.loc _ (by simp)) (IK.loc _ (by simp)) ht hdf F2 X₀ hx2 hxL hxn ?_ ?_ fun dx h3 tk3 F3 hx3 hd3 hdL hdn hdx => ?_)
    · simp [List.lookup, hsf, hsf2]
    · simp [List.lookup, hff]
    have hput : ∀ (k0 : Int) (t0 : Tok) k tk v, putL f2 k (.str f2 tk) v [⟨k0, .str f t0, u⟩] = [⟨k0, .str f t0, u⟩, ⟨k, .str f2 tk, v⟩] := fun k0 t0 k tk v => by
      simp [putL, Value.isStr, hff]
    refine ks_wpAt_execs_cons (run_fldD (u := u2) EK IK.kd (IK.loc _ (by simp)) (IK.loc _ (by simp)) ht2 hdf2 (by simp [getL, Value.isStr, hff, DictEntry.refKey]) (by rw [hput]; simp) F3 X₀ hx3 hd3 hdx hxL hxn hdL hdn ?_ ?_ fun h4 tk4 F4 hx4 hd4 => ?_)
    · simp [List.lookup, hsf, hsf2]
    · simp [List.lookup]
    refine wpAt_of_wpAny (wpAny_execs_nil ?_)
    rw [hput] at hd4
    refine hR h4 tk4 dx t' _ F4.keep hx4 (ns1_two hne hd4) (fun y => ?_) hdn
    by_cases hy : y = f
    · subst hy; simp [List.lookup]
    · have h1 : (y == f) = false := beq_eq_false_iff_ne.mpr hy
      by_cases hy2 : y = f2
      · subst hy2; simp [List.lookup, hy, h1]
      · have h2 : (y == f2) = false := beq_eq_false_iff_ne.mpr hy2
        simp [List.lookup, hy, hy2, h1, h2]
end
theorem initB_okK {P : Program} {w : World} {K : PySem.W.Frag} {mg : Str → Option Value} {C : Addr} {B i newId : String} {bmB : List Value} {flds : List Str} (EK : ErrK P K C (He.ma K C "__init__") B i newId bmB) (hs : mg "super" = none) (h : initB P K C flds = true) : InitRunsK P w K mg C (He.ma K C "__init__") flds := by
  unfold initB at h
  split at h
  · rename_i oc od fd osl lk
    obtain ⟨name, qual, params, body, scope, globals, closure, defaults, kwd, doc, pm, an, code, ct, blt⟩ := fd
    unfold initFd at h
    split at h
    · rename_i x cc cda e1 e2
      dsimp only at e1 e2 h
      subst e1 e2
      simp only [Bool.and_eq_true, Bool.not_eq_true', decide_eq_true_eq, decide_eq_false_iff_not, List.all_eq_true] at h
      obtain ⟨⟨⟨⟨⟨⟨⟨⟨⟨⟨⟨⟨⟨⟨⟨⟨⟨⟨h1, h2⟩, h3⟩, h4⟩, h5⟩, h6⟩, h7⟩, h8⟩, h9⟩, h10⟩, h11⟩, h12⟩, h13⟩, h14⟩, h15⟩, h16⟩, h17⟩, h18⟩, h19⟩ := h
      subst h1 h2 h3
      have hdn : defaults = .none := by
        cases defaults <;> first | rfl | cases h4
      subst hdn
      cases body with
      | stmts b =>
        dsimp only at h5
        have IK : InitK P K C (He.ma K C "__init__") cda cc qual params b scope (PySem.W.ksFn name qual params b scope .none kwd doc pm an (.ref cda) ct cc) flds := by
          refine ⟨⟨oc, od, osl, name, .none, kwd, doc, pm, an, ct, rfl, lk⟩, h6, ?_, ?_, ?_, h12, h13, h14, h15, h16, h17, h18, ?_⟩
          · unfold fileB at h7
            split at h7
            · rename_i ccl cdd vs ccs q1
              split at h7
              · rename_i file tf q2
                exact ⟨ccl, cdd, vs, ccs, file, tf, q1, q2, h7⟩
              · cases h7
            · cases h7
          · unfold cellB at h8
            split at h8
            · rename_i cl cld D csl q1
              have : D = C := of_decide_eq_true h8
              subst this
              exact ⟨cl, cld, csl, q1⟩
            · cases h8
          · obtain ⟨po, as, va, ko, kd, kw, df⟩ := params
            unfold plainA at h9
            split at h9
            · rename_i heq
              cases heq
              cases as with
              | nil => simp [parA] at h10
              | cons a as =>
                simp only [parA, List.map_cons, List.cons.injEq] at h10
                exact ⟨a, rfl, h10.1⟩
            · cases h9
          · refine .all fun us hl => ?_
            have := bind_plain (fd := PySem.W.ksFn name qual params b scope .none kwd doc pm an (.ref cda) ct cc) (us := us) h9 rfl (by rw [show parA (PySem.W.ksFn name qual params b scope .none kwd doc pm an (.ref cda) ct cc).params = parA params from rfl, h10]; exact h11) (by rw [show parA (PySem.W.ksFn name qual params b scope .none kwd doc pm an (.ref cda) ct cc).params = parA params from rfl, h10]; exact hl)
            rw [this, show parA (PySem.W.ksFn name qual params b scope .none kwd doc pm an (.ref cda) ct cc).params = parA params from rfl, h10]
        unfold initSh at h5
        split at h5
        · rename_i s0 p0 p1 m p2 msg j p3 p4 p5 s1 p6 f p7 g p8 p9
          simp only [Bool.and_eq_true, decide_eq_true_eq] at h5
          obtain ⟨⟨⟨⟨⟨rfl, hl⟩, rfl⟩, rfl⟩, rfl⟩, rfl⟩ := h5
          have q := h19 f (by simp)
          have nf : f ≠ "self" := fun z => by
            rw [z] at h11
            simp at h11
          exact init1K (f := f) EK IK (bindsK1 h9 rfl h10 h11) hs (He.eqO_ok q.1) q.2 nf fun L => sup_ev hl
        · rename_i s0 p0 p1 m p2 msg j p3 p4 p5 s1 p6 f p7 g p8 p9 s2 q6 f2 q7 g2 q8 q9
          simp only [Bool.and_eq_true, decide_eq_true_eq] at h5
          obtain ⟨⟨⟨⟨⟨⟨⟨rfl, hl⟩, rfl⟩, rfl⟩, rfl⟩, rfl⟩, rfl⟩, rfl⟩ := h5
          have q := h19 f (by simp)
          have q2 := h19 f2 (by simp)
          have h11' := h11
          simp only [List.nodup_cons, List.mem_cons, List.not_mem_nil, or_false, not_or] at h11
          exact init2K (f := f) (f2 := f2) EK IK (bindsK2 h9 rfl h10 h11') hs (He.eqO_ok q.1) (He.eqO_ok q2.1) q.2 q2.2 (Ne.symm h11.1.1) (Ne.symm h11.1.2) h11.2.1 fun L => sup_ev hl
        · cases h5
      | _ => cases h5
    · cases h
  · cases h
end FC
end
section
set_option Elab.async false
set_option linter.all false
set_option maxRecDepth 100000
set_option maxHeartbeats 4000000
namespace FC
open PySem PySem.Spec PyProof.Rows L2
structure DefR where
  x : Str
  pl : Nat
  N : List Str
  d : FnD
structure RowD where
  ds : List DefR
  cs : List (Str × PyData)
  said : Option (Nat × Nat)
  ex : List (Str × Nat)
  dc : List (Str × List (Str × Int))
  fam : Bool := false
def stOf (P : Program) (i : Nat) : Stmt := P.main.body.getD i (.Pass ⟨0, 0, 0, 0⟩)
def saidX : Str := "_law_said"
def bsAt (ds : List DefR) (f : Nat) : List Bool := match ds[f]? with
  | some r => r.d.bs
  | none => []
def RowD.glob (R : RowD) : Glob where
  fn := fun x => R.ds.findIdx? fun r => decide (r.x = x)
  cst := fun x => R.cs.lookup x
  exc := fun x => R.ex.lookup x
  bs := fun f => bsAt R.ds f
  sd := R.said.map fun p => (saidX, p.2)
  ax := decide (R.ex = excL)
  dct := fun x => R.dc.lookup x
  mke := R.fam && decide (R.ex = excL)
def RowD.F (R : RowD) (f : Nat) : Option FnD := (R.ds[f]?).map fun r => r.d
def ddOf (P : Program) (x : Str) (i : Nat) : He.DefD := ⟨(x, none), x, x, defArgs (stOf P i), defBody (stOf P i), defScope (stOf P i), [], []⟩
def saidL (P : Program) : Option (Nat × Nat) → List He.DefD
  | some p => [ddOf P saidX p.1]
  | none => []
def saidN1 : Option (Nat × Nat) → List Str
  | some _ => [saidX]
  | none => []
def RowD.fn (R : RowD) (P : Program) : List He.DefD := (R.ds.map fun r => ddOf P r.x r.pl) ++ saidL P R.said
def cstFa : Str × PyData → He.Fa
  | (x, .int i) => .int x i
  | (x, .str z) => .str x z
  | (x, _) => .glo x
def cstOk : PyData → Bool
  | .int _ => true
  | .str _ => true
  | _ => false
def famFa : Bool → List He.Fa
  | true => [.glo "FallError", .free "ValueError", .free "OverflowError", .free "RuntimeError"]
  | false => []
def RowD.fa (R : RowD) : List He.Fa := R.cs.map cstFa ++ (bltNames.map He.Fa.free ++ ([He.Fa.free "super"] ++ ((R.ds.map fun r => He.Fa.glo r.x) ++ (((saidN1 R.said).map He.Fa.glo) ++ ((R.ex.map fun p => He.Fa.glo p.1) ++ ((R.dc.map fun p => He.Fa.glo p.1) ++ famFa R.fam))))))
def RowD.tf (R : RowD) : List He.Defn := (R.ds.filter fun r => r.d.lam).map fun r => (r.x, none)
def isHand : S → Bool
  | .hand _ => true
  | _ => false
def defB (P : Program) (G : Glob) (r : DefR) : Bool :=
  scB r.N (parA (defArgs (stOf P r.pl))) (defScope (stOf P r.pl)) && plainA (defArgs (stOf P r.pl)) && decide (parA (defArgs (stOf P r.pl))).Nodup && decide ((parA (defArgs (stOf P r.pl))).length = r.d.np) && decide (r.N.length = r.d.nl) &&
  (isHand r.d.body || chkB (if r.d.lam then G else G.nsd) r.N (defScope (stOf P r.pl)) r.d.body (defBody (stOf P r.pl)))
def saidOk (P : Program) (G : Glob) : Option (Nat × Nat) → Bool
  | some p => plainA (defArgs (stOf P p.1)) && decide (parA (defArgs (stOf P p.1)) = [("call" : Str)]) && scB saidN [("call" : Str)] (defScope (stOf P p.1)) && saidB G (defScope (stOf P p.1)) p.2 (defBody (stOf P p.1))
  | none => true
def RowD.stat (R : RowD) (P : Program) : Bool := (R.ds.all fun r => defB P R.glob r) && saidOk P R.glob R.said && (R.cs.all fun p => cstOk p.2) && (R.ex.all fun p => excL.contains p) && (R.dc.all fun p => decide (p.2.map (·.1)).Nodup && decide (p.2.length ≤ 1000))
def noLst (K : PySem.W.Frag) : Bool := K.all fun p => !decide (p.2.cls = .type "list")
def tabA (K : PySem.W.Frag) (tf : List He.Defn) : List Addr := tf.map fun p => (He.cT K p).2
def famB (R : RowD) (K : PySem.W.Frag) : Bool :=
  PySem.W.keepIn K (.ref (He.ga K "FallError")) && PySem.W.excIn K (He.ga K "FallError") basV.bm basV.n && clsB K (He.ga K "FallError") 0 && eqB (PySem.W.kitOne K (.ref (He.ga K "FallError")) (.type "ValueError")) (some true) &&
  R.ex.all fun p => eqB (PySem.W.kitOne K (.ref (He.ga K p.1)) (.ref (He.ga K "FallError"))) (some (famD 0 p.2)) && eqB (PySem.W.kitOne K (.ref (He.ga K p.1)) (.type "ValueError")) (some (famD 1 p.2)) && eqB (PySem.W.kitOne K (.ref (He.ga K p.1)) (.type "OverflowError")) (some (famD 2 p.2)) && eqB (PySem.W.kitOne K (.ref (He.ga K p.1)) (.type "RuntimeError")) (some (famD 3 p.2))
def RowD.exB (R : RowD) (P : Program) (K : PySem.W.Frag) : Bool :=
  ((R.ex.all fun p => errB P K (He.ga K p.1) (basOf p.2) && initB P K (He.ga K p.1) (fldN p.2) && clsB K (He.ga K p.1) p.2) && (!R.fam || famB R K)) &&
  (R.ex.all fun p => R.ex.all fun q => eqB (PySem.W.kitOne K (.ref (He.ga K p.1)) (.ref (He.ga K q.1))) (some (decide (p.2 = q.2))) && eqB (PySem.W.exmOne K (.ref (He.ga K p.1)) (.ref (He.ga K q.1))) (some (decide (p.2 = q.2)))) &&
  noLst K && (K.lookup sysModules).isNone && decide (tabA K R.tf).Nodup
@[reducible] def eaOf (R : RowD) (K : PySem.W.Frag) : EA := ⟨fun cl => He.ga K (excNm cl), R.tf.map fun p => ((He.cT K p).2, (p.1 ++ ".<locals>.") ++ "<lambda>")⟩
theorem mem_look {α β : Type} [BEq α] [LawfulBEq α] {a : α} {b : β} : ∀ {l : List (α × β)}, l.lookup a = some b → (a, b) ∈ l
  | [], h => by cases h
  | (c, d) :: l, h => by
    simp only [List.lookup] at h
    split at h
    · rename_i e
      cases h
      rw [beq_iff_eq.mp e]
      exact List.mem_cons_self
    · exact List.mem_cons_of_mem _ (mem_look h)
theorem exc_nm : ∀ p ∈ excL, excNm p.2 = p.1 ∧ clsOk p.2 = true := by decide
theorem exc_all : ∀ cl, clsOk cl = true → (excNm cl, cl) ∈ excL := fun cl h => by
  have hlt : 1 ≤ cl ∧ cl ≤ 11 := by simpa [clsOk] using h
  match cl, hlt with
  | 1, _ | 2, _ | 3, _ | 4, _ | 5, _ | 6, _ | 7, _ | 8, _ | 9, _ | 10, _ | 11, _ => decide
  | 0, q => omega
  | n + 12, q => omega
section
variable {R : RowD} {P : Program} {w : World} {K : PySem.W.Frag} {mg : Str → Option Value} {base h : Heap}
theorem plain_def {fd : FuncData} {x : Str} {i : Nat} (F : FunD K x x (defArgs (stOf P i)) (defBody (stOf P i)) (defScope (stOf P i)) [] [] (He.ga K x) fd) (hp : plainA (defArgs (stOf P i)) = true) (nd : (parA (defArgs (stOf P i))).Nodup) :
    ∃ (kV doc pm cdv ct oc : Value) (an od : Option Addr) (osl : Array (Option Value)), K.lookup (He.ga K x) = some ⟨oc, od, .func (PySem.W.fnOf x x (defArgs (stOf P i)) (defBody (stOf P i)) (defScope (stOf P i)) .none kV doc pm an cdv ct), osl⟩ ∧ PySem.W.codeIn K cdv x = true ∧ PySem.W.keepIn K (.ref (He.ga K x)) = true ∧
      Binds K (PySem.W.fnOf x x (defArgs (stOf P i)) (defBody (stOf P i)) (defScope (stOf P i)) .none kV doc pm an cdv ct) (parA (defArgs (stOf P i))) [] := by
  obtain ⟨oc, od, dV, kV, doc, pm, an, cdv, ct, osl, rfl, lk, hc, hD, _⟩ := F.ex
  rcases hD with ⟨_, rfl⟩ | ⟨e, _⟩
  · exact ⟨kV, doc, pm, cdv, ct, oc, an, od, osl, lk, hc, F.kp, .all fun us hl => bind_plain hp rfl nd hl⟩
  · exact absurd rfl e
def RowD.hands [EA] (R : RowD) (P : Program) : Prop := ∀ r ∈ R.ds, isHand r.d.body = true → BodyR (if r.d.lam then R.glob else R.glob.nsd) r.N (defScope (stOf P r.pl)) r.d.body (defBody (stOf P r.pl))
theorem hands_none [EA] {R : RowD} {P : Program} (h : (R.ds.all fun r => !isHand r.d.body) = true) : R.hands P := fun r hr hb => by
  have := List.all_eq_true.mp h r hr
  rw [hb] at this
  cases this
theorem rowK_of (hs : R.stat P = true) (hh : ∀ [EA], R.hands P) (X : K.In h) (G : h.Ns mainGlobals mg) (c : He.SaysD R.fa (R.fn P) K) (e : R.exB P K = true) (ed : R.dc.map (fun p => dctW K (He.ga K p.1)) = R.dc.map fun p => some (entsV w.params p.2)) (tb : ∀ p ∈ R.tf, LamX.TabB base mg (He.cT K p).1 (He.cT K p).2) : @RowK (eaOf R K) P w K mg base R.glob R.F := by
  letI : EA := eaOf R K
  simp only [RowD.stat, Bool.and_eq_true, List.all_eq_true] at hs
  obtain ⟨⟨⟨⟨s1, s2⟩, s3⟩, s4⟩, s5⟩ := hs
  have exL : ∀ p ∈ R.ex, p ∈ excL := fun p hp => by simpa using s4 p hp
  simp only [RowD.exB, Bool.and_eq_true, List.all_eq_true] at e
  obtain ⟨⟨⟨⟨⟨e1, e6⟩, e2⟩, e3⟩, e4⟩, e5⟩ := e
  have hsup : mg "super" = none := He.free_ok X G (c.facts (f := .free "super") (by simp [RowD.fa]))
  have gExc : ∀ cl, (excNm cl, cl) ∈ R.ex → mg (excNm cl) = some (.ref (He.ga K (excNm cl))) := fun cl hc => He.glo_ok X G (c.facts (f := .glo (excNm cl)) (by
    have := hc
    simp only [RowD.fa, List.mem_append, List.mem_map]
    exact .inr (.inr (.inr (.inr (.inr (.inl ⟨_, this, rfl⟩)))))))
  refine ⟨fun x d hx => ?_, fun x hx => He.free_ok X G (c.facts (f := .free x) ?_), fun x f hx => ?_, fun x cl hx => ?_, fun hax => ⟨fun cl hc => ?_, fun x cl hx => ?_, fun cl cm h1 h2 => ?_, fun cl cm h1 h2 => ?_⟩, fun x f hx => ?_, fun x kvs hx => ?_, fun hm => ?_⟩
  · have hm := mem_look hx
    have h3 := s3 _ hm
    have hf : cstFa (x, d) ∈ R.fa := by simp only [RowD.fa, List.mem_append, List.mem_map]; exact .inl ⟨_, hm, rfl⟩
    cases d <;> simp only [cstOk] at h3 <;> try contradiction
    · obtain ⟨t, q⟩ := He.int_ok X G (c.facts hf)
      exact ⟨.int _, _, q, ⟨t, rfl⟩, fun H fz => .int _⟩
    · obtain ⟨t, q⟩ := He.str_ok X G (c.facts hf)
      exact ⟨.str _, _, q, ⟨t, rfl⟩, fun H fz => .str _⟩
  · simp only [RowD.fa, List.mem_append, List.mem_map]
    exact .inr (.inl ⟨x, hx, rfl⟩)
  · have hx' : R.ds.findIdx? (fun r => decide (r.x = x)) = some f := hx
    obtain ⟨hlt, hp, _⟩ := List.findIdx?_eq_some_iff_getElem.mp hx'
    have hr : R.ds[f]? = some R.ds[f] := List.getElem?_eq_getElem hlt
    generalize R.ds[f] = r at *
    have hrx : r.x = x := of_decide_eq_true hp
    subst hrx
    have hmem : r ∈ R.ds := List.mem_of_getElem? hr
    have hb := s1 r hmem
    simp only [defB, Bool.and_eq_true, decide_eq_true_eq] at hb
    obtain ⟨⟨⟨⟨⟨b1, b2⟩, b3⟩, b4⟩, b5⟩, b6⟩ := hb
    obtain ⟨fd, FD⟩ := c.defs (d := ddOf P r.x r.pl) (by simp only [RowD.fn, List.mem_append, List.mem_map]; exact .inl ⟨r, hmem, rfl⟩)
    obtain ⟨kV, doc, pm, cdv, ct, oc, an, od, osl, lk, hc, kp, bd⟩ := plain_def (x := r.x) (i := r.pl) FD b2 b3
    have hg : mg r.x = some (.ref (He.ga K r.x)) := He.glo_ok X G (c.facts (f := .glo r.x) (by
      simp only [RowD.fa, List.mem_append, List.mem_map]
      exact .inr (.inr (.inr (.inl ⟨r, hmem, rfl⟩)))))
    refine ⟨r.d, He.ga K r.x, r.x, r.x, _, _, _, .none, kV, doc, pm, cdv, ct, oc, an, od, osl, r.N, parA (defArgs (stOf P r.pl)), by simp [RowD.F, hr], hg, kp, lk, hc, scB_ok b1, bd, b4, b5, by simp [RowD.glob, bsAt, hr], (by
      rcases Bool.or_eq_true_iff.mp b6 with z | z
      · exact hh r hmem z
      · exact BodyOk.raw (bodyOk_chk z)), fun hl => ?_⟩
    obtain ⟨cc, rfl⟩ := He.codeIn_ref hc
    have ht : ((r.x, none) : He.Defn) ∈ R.tf := by
      simp only [RowD.tf, List.mem_map, List.mem_filter]
      exact ⟨r, ⟨hmem, hl⟩, rfl⟩
    have ecc : (He.cT K (r.x, none)).1 = cc := He.codeOf_eq (p := (r.x, none)) lk rfl
    have tb1 := tb _ ht
    rw [ecc] at tb1
    refine ⟨cc, (He.cT K (r.x, none)).2, rfl, tb1, List.mem_map.mpr ⟨_, ht, rfl⟩, fun p hp hq => ?_⟩
    obtain ⟨q, hq1, rfl⟩ := List.mem_map.mp hp
    have nd : (tabA K R.tf).Nodup := of_decide_eq_true e5
    have : q = (r.x, none) := by
      have inj : ∀ (l : List He.Defn), (tabA K l).Nodup → ∀ a ∈ l, ∀ b ∈ l, (He.cT K a).2 = (He.cT K b).2 → a = b := by
        intro l
        induction l with
        | nil => intro _ a ha; cases ha
        | cons z l ih =>
          intro hn a ha b hb hab
          have hn : ((He.cT K z).2 :: tabA K l).Nodup := hn
          obtain ⟨n1, n2⟩ := List.nodup_cons.mp hn
          rcases List.mem_cons.mp ha with ea | ga
          · rcases List.mem_cons.mp hb with eb | gb
            · rw [ea, eb]
            · exact absurd (List.mem_map.mpr ⟨b, gb, by rw [← hab, ea]⟩) n1
          · rcases List.mem_cons.mp hb with eb | gb
            · exact absurd (List.mem_map.mpr ⟨a, ga, by rw [hab, eb]⟩) n1
            · exact ih n2 a ga b gb hab
      exact inj _ nd _ hq1 _ ht hq
    subst this
    rfl
  · have hm := mem_look (show R.ex.lookup x = some cl from hx)
    obtain ⟨n1, n2⟩ := exc_nm _ (exL _ hm)
    dsimp only at n1 n2
    subst n1
    obtain ⟨⟨q1, q2⟩, q3⟩ := e1 _ hm
    have EK := errB_ok q1
    exact ⟨_, _, _, _, _, gExc cl hm, EK, initB_ok EK hsup q2⟩
  · have eX : R.ex = excL := of_decide_eq_true hax
    have hm : (excNm cl, cl) ∈ R.ex := by rw [eX]; exact exc_all cl hc
    exact clsB_ok (e1 _ hm).2
  · have hm := mem_look (show R.ex.lookup x = some cl from hx)
    obtain ⟨n1, n2⟩ := exc_nm _ (exL _ hm)
    dsimp only at n1 n2
    subst n1
    exact ⟨gExc cl hm, n2⟩
  · have eX : R.ex = excL := of_decide_eq_true hax
    have g1 : (excNm cl, cl) ∈ R.ex := by rw [eX]; exact exc_all cl h1
    have g2 : (excNm cm, cm) ∈ R.ex := by rw [eX]; exact exc_all cm h2
    exact of_decide_eq_true (e2 _ g1 _ g2).1
  · have eX : R.ex = excL := of_decide_eq_true hax
    have g1 : (excNm cl, cl) ∈ R.ex := by rw [eX]; exact exc_all cl h1
    have g2 : (excNm cm, cm) ∈ R.ex := by rw [eX]; exact exc_all cm h2
    exact of_decide_eq_true (e2 _ g1 _ g2).2
  · have hx' : R.said.map (fun p => (saidX, p.2)) = some (x, f) := hx
    cases hsd : R.said with
    | none => rw [hsd] at hx'; cases hx'
    | some p =>
      rw [hsd] at hx' s2
      simp only [Option.map_some, Option.some.injEq, Prod.mk.injEq] at hx'
      obtain ⟨rfl, rfl⟩ := hx'
      simp only [saidOk, Bool.and_eq_true, decide_eq_true_eq] at s2
      obtain ⟨⟨⟨b1, b2⟩, b3⟩, b4⟩ := s2
      obtain ⟨fd, FD⟩ := c.defs (d := ddOf P saidX p.1) (by simp only [RowD.fn, List.mem_append]; rw [hsd]; exact .inr (by simp [saidL]))
      obtain ⟨kV, doc, pm, cdv, ct, oc, an, od, osl, lk, hc, kp, bd⟩ := plain_def (x := saidX) (i := p.1) FD b1 (by rw [b2]; simp)
      rw [b2] at bd
      have hg : mg saidX = some (.ref (He.ga K saidX)) := He.glo_ok X G (c.facts (f := .glo saidX) (by
        simp only [RowD.fa, List.mem_append, List.mem_map]
        rw [hsd]
        exact .inr (.inr (.inr (.inr (.inl ⟨saidX, by simp [saidN1], rfl⟩))))))
      exact ⟨_, _, _, _, .none, kV, doc, pm, cdv, ct, oc, an, od, osl, hg, kp, lk, hc, scB_ok b3, bd, b4⟩
  · have hm := mem_look (show R.dc.lookup x = some kvs from hx)
    have h5 := s5 _ hm
    simp only [Bool.and_eq_true, decide_eq_true_eq] at h5
    obtain ⟨i, hi⟩ := List.mem_iff_getElem?.mp hm
    have ei := congrArg (fun l => l[i]?) ed
    simp only [List.getElem?_map, hi, Option.map_some, Option.some.injEq] at ei
    exact ⟨_, He.glo_ok X G (c.facts (f := .glo x) (by
      simp only [RowD.fa, List.mem_append, List.mem_map]
      exact .inr (.inr (.inr (.inr (.inr (.inr (.inl ⟨_, hm, rfl⟩)))))))), dctW_ok ei, h5.1, Nat.le_trans h5.2 (by rw [sizeLine_eq]; omega)⟩
  · have hm : (R.fam && decide (R.ex = excL)) = true := hm
    simp only [Bool.and_eq_true, decide_eq_true_eq] at hm
    obtain ⟨hf, eX⟩ := hm
    have fa : ∀ z ∈ famFa true, z ∈ R.fa := fun z hz => by
      simp only [RowD.fa, List.mem_append, hf]
      exact .inr (.inr (.inr (.inr (.inr (.inr (.inr hz))))))
    have hfam : famB R K = true := by
      rw [hf] at e6
      simpa using e6
    simp only [famB, Bool.and_eq_true, List.all_eq_true, eqB, decide_eq_true_eq] at hfam
    obtain ⟨⟨⟨⟨f1, f2⟩, f3⟩, f4⟩, f5⟩ := hfam
    have mem : ∀ cl, clsOk cl = true → (excNm cl, cl) ∈ R.ex := fun cl hc => by rw [eX]; exact exc_all cl hc
    refine ⟨⟨⟨_, He.glo_ok X G (c.facts (fa _ (by simp [famFa]))), f1, f2, (clsB_ok f3).1, f4, fun cl hc => (f5 _ (mem cl hc)).1.1.1⟩, fun cl hc => ⟨(f5 _ (mem cl hc)).1.1.2, (f5 _ (mem cl hc)).1.2, (f5 _ (mem cl hc)).2⟩, He.free_ok X G (c.facts (fa _ (by simp [famFa]))), He.free_ok X G (c.facts (fa _ (by simp [famFa]))), He.free_ok X G (c.facts (fa _ (by simp [famFa])))⟩, fun x cl hx => ?_⟩
    have hm := mem_look (show R.ex.lookup x = some cl from hx)
    obtain ⟨n1, n2⟩ := exc_nm _ (exL _ hm)
    dsimp only at n1 n2
    subst n1
    obtain ⟨⟨q1, q2⟩, q3⟩ := e1 _ hm
    have EK := errB_ok q1
    exact ⟨gExc cl hm, _, _, _, _, _, EK, initB_ok EK hsup q2, initB_okK EK hsup q2⟩
end
end FC
end
section
set_option Elab.async false
set_option linter.all false
set_option maxRecDepth 100000
set_option maxHeartbeats 4000000
namespace FC
open PySem PySem.Spec PyProof.Rows L2
def frF (g : Addr → Option Obj) (as : List Addr) : PySem.W.Frag := (He.frT g as).filter fun q => !(q.1 == sysModules)
theorem look_filter {a : Addr} {o : Obj} : ∀ {l : List (Addr × Obj)}, (l.filter fun q => !(q.1 == sysModules)).lookup a = some o → l.lookup a = some o
  | [], h => by cases h
  | (b, u) :: r, h => by
    rw [List.filter_cons] at h
    by_cases hs : b = sysModules
    · rw [if_neg (by simp [hs])] at h
      have h2 := look_filter h
      simp only [List.lookup]
      by_cases hb : a = b
      · exfalso
        have : ∀ {l : List (Addr × Obj)}, (l.filter fun q => !(q.1 == sysModules)).lookup a ≠ some o := by
          intro l
          induction l with
          | nil => simp
          | cons q l ih =>
            rw [List.filter_cons]
            split
            · rename_i hq
              intro z
              simp only [List.lookup] at z
              split at z
              · rename_i e
                have e := beq_iff_eq.mp e
                rw [← e, hb, hs] at hq
                simp at hq
              · exact ih z
            · exact ih
        exact this h
      · rw [beq_eq_false_iff_ne.mpr hb]
        exact h2
    · rw [if_pos (by simp [hs])] at h
      simp only [List.lookup] at h ⊢
      split at h
      · exact h
      · exact look_filter h
theorem frF_mem {g : Addr → Option Obj} {as : List Addr} {a : Addr} {o : Obj} (h : (frF g as).lookup a = some o) : g a = some o ∧ He.emptyTab o = false := He.frT_mem (look_filter h)
structure SaysF (R : RowD) (P : Program) (w : World) (h : Heap) (K : PySem.W.Frag) : Prop where
  d : He.SaysD R.fa (R.fn P) K
  more : R.exB P K = true
  hd : ∀ p ∈ R.tf, PySem.W.codeHdIn K (He.cT K p).1 (He.cT K p).2 = true
  out : ∀ p ∈ R.tf, K.lookup (He.cT K p).2 = none
  empty : ∀ p ∈ R.tf, h.get? (He.cT K p).2 = some { cls := .none, data := .fields #[] }
  sm : ∃ o, h.get? sysModules = some o ∧ ∃ es ep, o.data = .dict es ep
  dct : R.dc.map (fun p => dctW K (He.ga K p.1)) = R.dc.map fun p => some (entsV w.params p.2)
abbrev AlF : Type := He.AlD × Bool × Bool × List (Option (List (Option (Str × Int × Int))))
def smB (g : Addr → Option Obj) : Bool := match g sysModules with
  | some ⟨_, _, .dict _ _, _⟩ => true
  | _ => false
theorem smB_ok {g : Addr → Option Obj} (h : smB g = true) : ∃ o, g sysModules = some o ∧ ∃ es ep, o.data = .dict es ep := by
  unfold smB at h
  split at h
  · rename_i e
    exact ⟨_, e, _, _, rfl⟩
  · cases h
def obsK (R : RowD) (P : Program) (g : Addr → Option Obj) (K : PySem.W.Frag) : AlF := (He.obsD R.fa (R.fn P) K, R.exB P K, He.tabsB g R.tf K && smB g, R.dc.map fun p => dctW K (He.ga K p.1))
def obsF (R : RowD) (P : Program) (as : List Addr) (g : Addr → Option Obj) : AlF := obsK R P g (frF g as)
def valF (R : RowD) (P : Program) (w : World) : AlF := (He.valD (R.fn P), true, true, R.dc.map fun p => some (entsV w.params p.2))
theorem saysF_of {R : RowD} {P : Program} {w : World} {as : List Addr} {h : Heap} (e : obsF R P as h.get? = valF R P w) : SaysF R P w h (frF h.get? as) := by
  have e1 : He.obsD R.fa (R.fn P) (frF h.get? as) = He.valD (R.fn P) := congrArg (fun z : AlF => z.1) e
  have e2 : R.exB P (frF h.get? as) = true := congrArg (fun z : AlF => z.2.1) e
  have e3 : (He.tabsB h.get? R.tf (frF h.get? as) && smB h.get?) = true := congrArg (fun z : AlF => z.2.2.1) e
  simp only [Bool.and_eq_true, He.tabsB, List.all_eq_true] at e3
  obtain ⟨e3, e4⟩ := e3
  have key : ∀ p ∈ R.tf, ∃ o, h.get? (He.cT (frF h.get? as) p).2 = some o ∧ He.emptyTab o = true := fun p hp => by
    have q := (e3 p hp).2
    split at q
    · rename_i o ho
      exact ⟨o, ho, q⟩
    · cases q
  refine ⟨e1, e2, fun p hp => (e3 p hp).1, fun p hp => ?_, fun p hp => ?_, smB_ok e4, congrArg (fun z : AlF => z.2.2.2) e⟩
  · obtain ⟨o, h1, h2⟩ := key p hp
    cases z : (frF h.get? as).lookup (He.cT (frF h.get? as) p).2 with
    | none => rfl
    | some u =>
      obtain ⟨q1, q2⟩ := frF_mem z
      rw [h1] at q1
      cases q1
      rw [h2] at q2
      cases q2
  · obtain ⟨o, h1, h2⟩ := key p hp
    rw [h1, He.emptyTab_eq h2]
def hookF (R : RowD) (P : Program) (as : List Addr) : PySem.W.Hook where
  α := AlF
  obs := fun s => obsF R P as s.heap.get?
  val := fun w => valF R P w
  says := fun w h => ∃ K : PySem.W.Frag, K.In h ∧ SaysF R P w h K
  of := fun _ s e => ⟨_, fun _ _ q => (frF_mem q).1, saysF_of e⟩
  keeps := fun _ _ _ ⟨K, hK, c⟩ k => ⟨K, hK.keeps k, ⟨c.d, c.more, c.hd, c.out, fun p hp => k _ _ (c.empty p hp), let ⟨o, z, y⟩ := c.sm; ⟨o, k _ _ z, y⟩, c.dct⟩⟩
theorem obsF_eq {R : RowD} {P : Program} {as : List Addr} {g : Addr → Option Obj} {s : Shared} (h : ∀ a, g a = s.heap.get? a) : obsF R P as g = (hookF R P as).obs s := by
  rw [show g = s.heap.get? from funext h]
  rfl
theorem law_callG {P : Program} {w : World} {K : PySem.W.Frag} {mg mb : Str → Option Value} {k : Nat} {fa a : Addr} {cs : List (Addr × Addr)} {s₁ : Shared} {vs : List Value} {ns : List Int}
    (KX : K.In s₁.heap) (hns : s₁.heap.Ns mainGlobals mg) (hb : s₁.heap.Ns builtinsNs mb) (hbb : ∀ x : Str, x ≠ "__name__" → mb x = bootBuiltins x) (hlim : s₁.heap.NoLimit) (hg : s₁.gens = #[])
    (hT : ∀ p ∈ cs, s₁.heap.get? p.2 = some { cls := .none, data := .fields #[] }) (nT : ∀ p ∈ cs, K.lookup p.2 = none) (C : ∀ p ∈ cs, PySem.W.CodeHd s₁.heap p.1 p.2)
    (hbm : ∃ (bm : Addr) (ob : Obj), mg "__builtins__" = some (.ref bm) ∧ bm ≠ builtinsNs ∧ s₁.heap.get? bm = some ob ∧ ob.cls = .type "module" ∧ ob.dict = some builtinsNs ∧ ob.data = .plain)
    (hsm : ∃ o, s₁.heap.get? sysModules = some o ∧ ∃ es ep, o.data = .dict es ep) (nsm : K.lookup sysModules = none) (nl : noLst K = true)
    (ha : s₁.heap.get? a = some { cls := .type "list", data := .seq vs.toArray }) (hi : IntsAre vs ns) (hl : ns.length ≤ sizeLine) (hr : Room k callerA)
    (F : ∀ base : Heap, K.In base → base.Ns mainGlobals mg → (∀ p ∈ cs, LamX.TabB base mg p.1 p.2) → ∃ fd ps sp, Binds K fd ps [] ∧ FnG P w K mg base k fa fd ps sp ∧
      ∀ H : Hp, (∀ p ∈ cs, H p.2 = some (.tbl #[])) → (∃ φ, H sysModules = some (.ext φ)) → (∃ o, H a = some (.frz o (.lst (ns.map V.int)))) → sp [.ref a] H (fun v H' => v = .bl true ∧ H' sysModules = H sysModules) fun _ _ _ => False) :
    codeAny (model P w) callerA (.call (.ref fa) ⟨[.ref a], []⟩) (fun r s' => r = .ok (.ret (.bool true)) ∧ OldK s₁.heap s'.heap ∧ s'.os = s₁.os ∧ AllBare s'.gens) s₁ := by
  have rv := vals_ints hi
  have lenV := hi.length
  obtain ⟨om, hom, mes, mep, hmd⟩ := hsm
  have isT : ∀ b : Addr, b ∈ cs.map (·.2) → s₁.heap.get? b = some { cls := .none, data := .fields #[] } := fun b hb => by
    obtain ⟨p, hp, e⟩ := List.mem_map.mp hb
    rw [← e]
    exact hT p hp
  have aT : a ∉ cs.map (·.2) := fun z => by
    have q := isT a z
    rw [ha] at q
    have z' : Data.seq vs.toArray _ = Data.fields #[] := congrArg Obj.data (Option.some.inj q)
    cases z'
  have aM : a ≠ sysModules := fun z => by
    rw [← z, ha] at hom
    cases hom
    cases hmd
  have mT : sysModules ∉ cs.map (·.2) := fun z => by
    have q := isT _ z
    rw [hom] at q
    cases q
    cases hmd
  have kA : K.lookup a = none := by
    cases q : K.lookup a with
    | none => rfl
    | some o =>
      have e := KX a o q
      rw [ha] at e
      cases e
      simp only [noLst, List.all_eq_true] at nl
      have := nl _ (mem_look q)
      simp at this
  let H : Hp := fun b => if b = a then some (.frz { cls := .type "list", data := .seq vs.toArray } (.lst (ns.map V.int))) else if b = sysModules then some (.ext fun h => h.get? sysModules = some om) else if b ∈ cs.map (·.2) then some (.tbl #[]) else none
  have Ha : H a = some (.frz { cls := .type "list", data := .seq vs.toArray } (.lst (ns.map V.int))) := if_pos rfl
  have Hm : H sysModules = some (.ext fun h => h.get? sysModules = some om) := (if_neg (Ne.symm aM)).trans (if_pos rfl)
  have HT : ∀ p ∈ cs, H p.2 = some (.tbl #[]) := fun p hp => by
    have h1 : p.2 ∈ cs.map (·.2) := List.mem_map.mpr ⟨p, hp, rfl⟩
    have h2 : p.2 ≠ a := fun z => aT (by rw [← z]; exact h1)
    have h3 : p.2 ≠ sysModules := fun z => mT (by rw [← z]; exact h1)
    exact (if_neg h2).trans ((if_neg h3).trans (if_pos h1))
  have Hn : ∀ b, b ≠ a → b ≠ sysModules → b ∉ cs.map (·.2) → H b = none := fun b h1 h2 h3 => (if_neg h1).trans ((if_neg h2).trans (if_neg h3))
  have hok : HOk P w H s₁.heap := fun b u e => by
    by_cases h1 : b = a
    · subst h1
      rw [Ha] at e
      cases e
      exact ⟨ha, by rw [List.length_map]; exact hl, vs, _, rv, ha⟩
    · by_cases h2 : b = sysModules
      · subst h2
        rw [Hm] at e
        cases e
        exact ⟨hom, ⟨om, hom⟩, fun h1 h2 q st => st _ q⟩
      · by_cases h3 : b ∈ cs.map (·.2)
        · have e2 : H b = some (.tbl #[]) := (if_neg h1).trans ((if_neg h2).trans (if_pos h3))
          rw [e2] at e
          cases e
          exact isT b h3
        · rw [Hn b h1 h2 h3] at e
          cases e
  have bof : ∀ {b : Addr} {o : Obj}, s₁.heap.get? b = some o → H b = none → (hidT s₁.heap H).get? b = some o := fun e n => hidT_get e n
  have noD : ∀ {b : Addr} {o : Obj}, s₁.heap.get? b = some o → (∀ vs n, o.data ≠ .seq vs n) → o.data ≠ .fields #[] → b ≠ sysModules → H b = none := fun {b o} e h1 h2 h3 => by
    refine Hn b (fun z => ?_) h3 fun z => ?_
    · rw [z, ha] at e
      cases e
      exact h1 _ _ rfl
    · rw [isT b z] at e
      cases e
      exact h2 rfl
  have nsK : ∀ {b : Addr} {m : Str → Option Value}, b ≠ sysModules → s₁.heap.Ns b m → (hidT s₁.heap H).Ns b m := fun {b m} hb ⟨o, es, ep, e, d, r⟩ => ⟨o, es, ep, bof e (noD e (fun _ _ z => by rw [d] at z; cases z) (fun z => by rw [d] at z; cases z) hb), d, r⟩
  have hKb : K.In (hidT s₁.heap H) := fun b o e => bof (KX b o e) (by
    refine Hn b (fun z => ?_) (fun z => ?_) fun z => ?_
    · rw [z, kA] at e; cases e
    · rw [z, nsm] at e; cases e
    · obtain ⟨p, hp, ep⟩ := List.mem_map.mp z
      rw [← ep, nT p hp] at e
      cases e)
  have hM : L2.Mod K mg (hidT s₁.heap H) := ⟨hKb, nsK (by decide) hns, ⟨mb, nsK (by decide) hb, hbb⟩, let ⟨mc, h1, h2⟩ := hlim; ⟨mc, nsK (by decide) h1, h2⟩⟩
  have TB : ∀ p ∈ cs, LamX.TabB (hidT s₁.heap H) mg p.1 p.2 := fun p hp => by
    have hTp := hT p hp
    refine ⟨?_, ?_, fun z => ?_⟩
    · obtain ⟨o, us, file, tf, flags, tg, inF, text, tt, e1, r1, r2, r3, r4, r5, r6, r7, r8, hne⟩ := C p hp
      refine ⟨o, us, file, tf, flags, tg, inF, text, tt, bof e1 (noD e1 (fun vs n z => ?_) (fun z => ?_) fun z => ?_), r1, r2, r3, r4, r5, r6, r7, r8, hne⟩
      · rw [r2] at z; cases z
      · rw [r2] at z
        cases z
        simp at r3
      · rw [z, hom] at e1
        cases e1
        rw [hmd] at r2
        cases r2
    · obtain ⟨bm, ob, b1, b2, b3, b4, b5, b6⟩ := hbm
      have nG : bm ≠ mainGlobals := fun q => by
        obtain ⟨o, es, ep, e, hd, _⟩ := hns
        rw [q, e] at b3
        cases b3
        rw [hd] at b6
        cases b6
      have nP : bm ≠ p.2 := fun q => by
        rw [q, hTp] at b3
        cases b3
        cases b6
      refine ⟨bm, ob, b1, b2, nG, nP, bof b3 (noD b3 (fun vs n z => by rw [b6] at z; cases z) (fun z => by rw [b6] at z; cases z) fun z => ?_), b4, b5, b6⟩
      rw [z, hom] at b3
      cases b3
      rw [hmd] at b6
      cases b6
    · obtain ⟨o, es, ep, e, hd, _⟩ := hns
      rw [z, hTp] at e
      cases e
      cases hd
  have e0 : Env0 P w K mg (hidT s₁.heap H) callerA [] s₁ H := ⟨rfl, hM, fun b o e => of_hidT e, Nat.le_of_eq (hidT_size _ _), trivial, fun b hb => absurd (show b ∈ ([] : List Addr) from hb) (by simp), hok, .of_eq hg⟩
  obtain ⟨fd, ps, sp, bd, FG, hsp⟩ := F _ hKb (nsK (by decide) hns) TB
  have hs := hsp H HT ⟨_, Hm⟩ ⟨_, Ha⟩
  have hln : ([.ref a] : List V).length = ps.length := FG.len _ _ _ _ hs
  refine codeAny_mono (FG.run callerA [] s₁ H ⟨[.ref a], []⟩ [.ref a] [.ref a] _ _ hr rfl e0 (by have := bd s₁ [.ref a] KX (by simpa using hln); simpa using this) (.cons rfl .nil) hs) fun r s' h => ?_
  cases r with
  | error e =>
    obtain ⟨_, _, _, _, _, _, _, _, _, _, _, _, z⟩ := h
    exact z.elim
  | ok fl =>
    cases fl with
    | next => exact False.elim h
    | brk => exact False.elim h
    | cont => exact False.elim h
    | ret u =>
      obtain ⟨v, H', os, bare, un, hok', r', q1, q2⟩ := h
      subst q1
      obtain rfl : u = Value.bool true := r'
      have key : ∀ b o, b ∉ cs.map (·.2) → s₁.heap.get? b = some o → s'.heap.get? b = some o := fun b o nb e => by
        by_cases h1 : b = a
        · subst h1
          have z2 := un.frzs b _ _ Ha
          obtain ⟨e2, _⟩ := hok' b _ z2
          rw [ha] at e
          cases e
          exact e2
        · by_cases h2 : b = sysModules
          · subst h2
            rw [Hm] at q2
            obtain ⟨e2, _⟩ := hok' _ _ q2
            rw [hom] at e
            cases e
            exact e2
          · exact un.keep b o e (Hn b h1 h2 nb) (by intro z; exact absurd (show b ∈ ([] : List Addr) from z) (by simp)) (by simp)
      have grown : ∀ p ∈ cs, ∃ more : Array Value, s'.heap.get? p.2 = some { cls := .none, data := .fields more } := fun p hp => by
        obtain ⟨more, z⟩ := un.tbls p.2 #[] (HT p hp)
        exact ⟨_, hok' p.2 _ z⟩
      refine ⟨rfl, ⟨fun b o e => ?_, fun b o e => ?_⟩, os, bare⟩
      · by_cases hb : b ∈ cs.map (·.2)
        · obtain ⟨p, hp, ep⟩ := List.mem_map.mp hb
          obtain ⟨more, hm⟩ := grown p hp
          rw [← ep] at e ⊢
          rw [hT p hp] at e
          cases e
          exact .inr (.inl ⟨((C p hp).tab (hT p hp)).isCodeTable, rfl, #[], more, rfl, by rw [Array.empty_append]; exact hm⟩)
        · exact .inl (key b o hb e)
      · by_cases hb : b ∈ cs.map (·.2)
        · obtain ⟨p, hp, ep⟩ := List.mem_map.mp hb
          obtain ⟨more, hm⟩ := grown p hp
          rw [← ep]
          exact ⟨_, hm⟩
        · exact ⟨o, key b o hb e⟩
theorem walkF {l : PySem.W.OpenLaw} {R : RowD} {as : List Addr} {m lw : Nat} {q : Program} {loose : List Str} {XP : (Str → Option Value) → Heap → Prop} {d : DefRec} (hn : l.most = some 63) (hdf : d.params.defaults = []) (hdn : d.name = "law") (hs : R.stat l.prog = true) (hlw : R.glob.fn "law" = some lw) (hbs : bsAt R.ds lw = [false])
    (hr : Room (3 * m + 1) callerA) (law : ∀ ns : List Int, ns.length ≤ 63 → ∃ os, callN R.F m lw [.s ns] [] = .ok (.d (.bool true)) os)
    (hh : ∀ [EA], R.hands l.prog := by intro _; exact FC.hands_none (by decide +kernel)) :
    PySem.W.WalkO q loose XP (hookF R l.prog as).says l.row.toRowW d [] (fun f vs => PySem.call f vs) := by
  refine Att.attach_call hn hdf fun w s₀ s₁ mg mb fa o pm cd doc a vs ns G Y ho hd hcd hmg hobj hints hlen hg => ?_
  obtain ⟨K, KX, c⟩ := Y
  have ex := c.more
  simp only [RowD.exB, Bool.and_eq_true] at ex
  obtain ⟨⟨⟨⟨_, _⟩, e3⟩, e4⟩, _⟩ := ex
  rw [hdn] at hmg
  refine law_callG (cs := R.tf.map fun p => He.cT K p) KX G.T.g G.T.b G.T.builtins G.T.nolimit hg (fun p hp => ?_) (fun p hp => ?_) (fun p hp => ?_) G.T.bmain c.sm (Option.isNone_iff_eq_none.mp e4) e3 hobj hints (Nat.le_trans hlen (by rw [sizeLine_eq]; omega)) hr fun base KB GB TB => ?_
  · obtain ⟨p, hq, rfl⟩ := List.mem_map.mp hp
    exact c.empty p hq
  · obtain ⟨p, hq, rfl⟩ := List.mem_map.mp hp
    exact c.out p hq
  · obtain ⟨p, hq, rfl⟩ := List.mem_map.mp hp
    exact PySem.W.codeHd_of_K KX (c.hd p hq)
  · letI : EA := eaOf R K
    have RK : RowK l.prog w K mg base R.glob R.F := rowK_of hs hh KX G.T.g c.d c.more c.dct fun p hp => TB _ (List.mem_map.mpr ⟨p, hp, rfl⟩)
    obtain ⟨fa', fd, ps, m1, m2, m3, m4⟩ := all_fn RK m "law" lw hlw
    rw [hmg] at m1
    cases m1
    refine ⟨fd, ps, _, m3, m4, fun H hT ⟨φ, hm⟩ ⟨ob, hA⟩ => ?_⟩
    obtain ⟨os, hl⟩ := law ns hlen
    refine ⟨⟨[], [], fun _ => False, []⟩, [.s ns], ⟨List.nodup_nil, rfl, fun n a o h => by simp at h, fun _ h => h.elim, fun _ h => h.elim, ⟨φ, hm⟩, fun p hp => ?_⟩, ?_, ?_⟩
    · obtain ⟨p, hq, rfl⟩ := List.mem_map.mp hp
      exact LamX.TabS.nil (hT _ (List.mem_map.mpr ⟨p, hq, rfl⟩))
    · refine .cons (.inl ⟨a, ob, rfl, hA⟩) .nil
    · show PoF _ _ _ (callN R.F m lw [.s ns] []) _ _
      rw [hl]
      intro x H' c' st o r
      cases r
      exact ⟨rfl, (st.keep _ _ hm (by simp) (by simp)).trans hm.symm⟩
end FC
end
section
set_option linter.all false
set_option maxRecDepth 100000
namespace FP
open FC
open PySem
def code_law_begin : S := .seq (.ret (.begin (.var 0))) (.skip)
def fd_law_begin : FnD := ⟨1, 1, [false], false, code_law_begin⟩
def code_law_next : S := .seq (.ife (.op2 .gt (.oget (.var 0) "left") (.cst (.int 0))) (.seq (.nx2 2 (.var 0) "left" (.oget (.var 0) "left") (.op2 .fdiv (.oget (.var 0) "left") (.var 1))) (.seq (.ret (.op2 .mod (.var 2) (.var 1))) (.skip))) (.skip)) (.seq (.set (.one 3) (.oget (.var 0) "cells")) (.seq (.set (.one 2) (.op2 .idx (.var 3) (.op2 .mod (.oget (.var 0) "at") (.op1 .len (.var 3))))) (.seq (.oput (.var 0) "at" (.op2 .add (.oget (.var 0) "at") (.cst (.int 1)))) (.seq (.ife (.an (.op2 .ge (.var 2) (.op2 .pow (.cst (.int 10)) (.cst (.int 18)))) (.op2 .le (.oget (.var 0) "at") (.op1 .len (.var 3)))) (.seq (.oput (.var 0) "left" (.op2 .fdiv (.var 2) (.var 1))) (.seq (.ret (.op2 .mod (.var 2) (.var 1))) (.skip))) (.skip)) (.seq (.oput (.var 0) "used" (.op2 .add (.oget (.var 0) "used") (.cst (.int 1)))) (.seq (.set (.one 4) (.op2 .add (.op2 .mod (.var 2) (.cst (.int 1000000007))) (.op2 .mul (.op2 .mul (.cst (.int 7919)) (.oget (.var 0) "used")) (.oget (.var 0) "used")))) (.seq (.fr (.one 5) (.seq (.tup [(.oget (.var 0) "at"), (.oget (.var 0) "used")])) (.seq (.set (.one 4) (.op2 .mod (.op2 .mul (.op2 .add (.op2 .add (.var 4) (.op2 .mul (.cst (.int 31)) (.var 5))) (.cst (.int 7))) (.cst (.int 48271))) (.cst (.int 2147483647)))) (.seq (.set (.one 4) (.op2 .mod (.op2 .mul (.var 4) (.op2 .add (.cst (.int 69621)) (.op2 .mul (.cst (.int 2)) (.op2 .mod (.var 5) (.cst (.int 1000)))))) (.cst (.int 2147483629)))) (.skip)))) (.seq (.ret (.op2 .mod (.op2 .fdiv (.var 4) (.cst (.int 7))) (.var 1))) (.skip)))))))))
def fd_law_next : FnD := ⟨2, 6, [false, false], false, code_law_next⟩
def code_k02_law_bent (i_law_next : Nat) (i_law_pick : Nat) (i_law_odd : Nat) (i_law_bent : Nat) : S := .seq (.ife (.an (.op1 (.isi "int") (.var 1)) (.an (.nt (.op1 (.isi "bool") (.var 1))) (.op2 .gt (.call i_law_next [(.var 0), (.cst (.int 3))]) (.cst (.int 0))))) (.seq (.ret (.op2 .add (.var 1) (.call i_law_pick [(.var 0), (.lst [(.cst (.int 1)), (.op1 .neg (.cst (.int 1))), (.cst (.int 2)), (.op1 .neg (.cst (.int 2))), (.cst (.int 15))])]))) (.skip)) (.skip)) (.seq (.ife (.orr (.nt (.op1 (.isi "tuple") (.var 1))) (.orr (.op2 .eq (.var 1) (.tup [])) (.op2 .eq (.call i_law_next [(.var 0), (.cst (.int 7))]) (.cst (.int 0))))) (.seq (.ret (.call i_law_odd [(.var 0)])) (.skip)) (.skip)) (.seq (.par [(false, 2), (false, 3)] [(.call i_law_next [(.var 0), (.op1 .len (.var 1))]), (.call i_law_next [(.var 0), (.cst (.int 9))])]) (.seq (.ife (.op2 .eq (.var 3) (.cst (.int 0))) (.seq (.ret (.op2 .add (.slc (.var 1) none (some (.var 2))) (.slc (.var 1) (some (.op2 .add (.var 2) (.cst (.int 1)))) none))) (.skip)) (.skip)) (.seq (.ife (.op2 .eq (.var 3) (.cst (.int 1))) (.seq (.ret (.op2 .add (.slc (.var 1) none (some (.op2 .add (.var 2) (.cst (.int 1))))) (.slc (.var 1) (some (.var 2)) none))) (.skip)) (.skip)) (.seq (.ife (.op2 .eq (.var 3) (.cst (.int 2))) (.seq (.ret (.op2 .add (.op2 .add (.slc (.var 1) none (some (.var 2))) (.tup [(.call i_law_odd [(.var 0)])])) (.slc (.var 1) (some (.var 2)) none))) (.skip)) (.skip)) (.seq (.ife (.op2 .eq (.var 3) (.cst (.int 3))) (.seq (.ret (.op1 .list (.var 1))) (.skip)) (.skip)) (.seq (.ife (.op2 .eq (.var 3) (.cst (.int 4))) (.seq (.ret (.op1 .rev (.var 1))) (.skip)) (.skip)) (.seq (.ret (.op2 .add (.op2 .add (.slc (.var 1) none (some (.var 2))) (.tup [(.call i_law_bent [(.var 0), (.op2 .idx (.var 1) (.var 2))])])) (.slc (.var 1) (some (.op2 .add (.var 2) (.cst (.int 1)))) none))) (.skip)))))))))
def fd_k02_law_bent (i_law_next : Nat) (i_law_pick : Nat) (i_law_odd : Nat) (i_law_bent : Nat) : FnD := ⟨2, 4, [false, false], false, code_k02_law_bent i_law_next i_law_pick i_law_odd i_law_bent⟩
end FP
end
section
set_option linter.all false
set_option maxRecDepth 100000
namespace FP
open FC
open PySem
end FP
end
section
set_option linter.all false
set_option maxRecDepth 100000
namespace FP
open FC
open PySem
def code_k01_law_pick (i_law_next : Nat) : S := .seq (.ret (.op2 .idx (.var 1) (.call i_law_next [(.var 0), (.op1 .len (.var 1))]))) (.skip)
def fd_k01_law_pick (i_law_next : Nat) : FnD := ⟨2, 2, [false, false], false, code_k01_law_pick i_law_next⟩
def code_k01_law_fields : S := .seq (.set (.one 1) (.lst [(.xget (.mkx 1 0 [(.var 0)]) "place"), (.xget (.mkx 2 0 [(.var 0)]) "number"), (.xget (.mkx 3 0 [(.var 0)]) "given")])) (.seq (.set (.one 1) (.op2 .add (.var 1) (.lst [(.xget (.mkx 4 0 [(.var 0)]) "given"), (.xget (.mkx 5 0 [(.var 0)]) "given")]))) (.seq (.set (.one 1) (.op2 .add (.var 1) (.lst [(.xget (.mkx 6 0 [(.var 0)]) "given"), (.xget (.mkx 7 0 [(.var 0)]) "part"), (.xget (.mkx 8 0 [(.var 0)]) "number"), (.xget (.mkx 9 0 [(.var 0), (.cst (.int 5))]) "line")]))) (.seq (.set (.one 1) (.op2 .add (.var 1) (.lst [(.xget (.mkx 9 0 [(.cst (.int 5)), (.var 0)]) "word"), (.xget (.mkx 10 0 [(.var 0)]) "most"), (.xget (.mkx 11 0 [(.var 0)]) "many")]))) (.seq (.set (.one 1) (.op2 .add (.var 1) (.lst [(.xget (.mkx 1 1 [(.var 0)]) "place")]))) (.seq (.set (.one 1) (.op2 .add (.var 1) (.lst [(.xget (.mkx 2 1 [(.var 0)]) "number"), (.xget (.mkx 3 1 [(.var 0)]) "given"), (.xget (.mkx 4 1 [(.var 0)]) "given")]))) (.seq (.set (.one 1) (.op2 .add (.var 1) (.lst [(.xget (.mkx 5 1 [(.var 0)]) "given"), (.xget (.mkx 6 1 [(.var 0)]) "given"), (.xget (.mkx 7 1 [(.var 0)]) "part")]))) (.seq (.set (.one 1) (.op2 .add (.var 1) (.lst [(.xget (.mkx 8 1 [(.var 0)]) "number"), (.xget (.mkx 9 2 [(.var 0), (.cst (.int 0))]) "word")]))) (.seq (.set (.one 1) (.op2 .add (.var 1) (.lst [(.xget (.mkx 9 2 [(.cst (.int 0)), (.var 0)]) "line")]))) (.seq (.ret (.op2 .add (.var 1) (.lst [(.xget (.mkx 10 1 [(.var 0)]) "most"), (.xget (.mkx 11 1 [(.var 0)]) "many")]))) (.skip))))))))))
def fd_k01_law_fields : FnD := ⟨1, 2, [false], false, code_k01_law_fields⟩
def code_k01_law_kinds_of : S := .seq (.set (.one 1) (.lst [(.isx (.var 0) [1]), (.isx (.var 0) [2])])) (.seq (.set (.one 1) (.op2 .add (.var 1) (.lst [(.isx (.var 0) [3]), (.isx (.var 0) [4])]))) (.seq (.set (.one 1) (.op2 .add (.var 1) (.lst [(.isx (.var 0) [5]), (.isx (.var 0) [6])]))) (.seq (.set (.one 1) (.op2 .add (.var 1) (.lst [(.isx (.var 0) [7]), (.isx (.var 0) [8])]))) (.seq (.set (.one 1) (.op2 .add (.var 1) (.lst [(.isx (.var 0) [9]), (.isx (.var 0) [10]), (.isx (.var 0) [11])]))) (.seq (.ret (.comp (.one 2) (.rng1 (.cst (.int 11))) (some (.op2 .idx (.var 1) (.var 2))) (.var 2))) (.skip))))))
def fd_k01_law_kinds_of : FnD := ⟨1, 3, [false], false, code_k01_law_kinds_of⟩
def code_k01_law (i_law_begin : Nat) (i_law_pick : Nat) (i_law_fields : Nat) (i_law_kinds_of : Nat) : S := .seq (.set (.one 1) (.call i_law_begin [(.var 0)])) (.seq (.fr (.one 2) (.rng1 (.cst (.int 3))) (.seq (.set (.one 3) (.call i_law_pick [(.var 1), (.lst [(.cst .none), (.cst (.int 5)), (.cst (.bool true)), (.cst (.str "a")), (.tup [(.cst (.int 1)), (.cst (.int 2))]), (.lst []), .dic0, (.tup [(.cst (.str "x")), (.lst [(.cst .none)])]), (.op1 .neg (.cst (.int 1))), (.op2 .pow (.cst (.int 10)) (.cst (.int 29)))])])) (.seq (.ife (.op2 .ne (.op1 .repr (.call i_law_fields [(.var 3)])) (.op1 .repr (.op2 .mul (.lst [(.var 3)]) (.cst (.int 24))))) (.seq (.ret (.cst (.bool false))) (.skip)) (.skip)) (.seq (.set (.one 4) (.lstx [(.mkx 1 0 [(.var 3)]), (.mkx 2 0 [(.var 3)]), (.mkx 3 0 [(.var 3)])])) (.seq (.set (.one 4) (.catx (.var 4) (.lstx [(.mkx 4 0 [(.var 3)]), (.mkx 5 0 [(.var 3)]), (.mkx 6 0 [(.var 3)])]))) (.seq (.set (.one 4) (.catx (.var 4) (.lstx [(.mkx 7 0 [(.var 3)]), (.mkx 8 0 [(.var 3)]), (.mkx 9 0 [(.var 3), (.var 3)])]))) (.seq (.set (.one 4) (.catx (.var 4) (.lstx [(.mkx 10 0 [(.var 3)]), (.mkx 11 0 [(.var 3)])]))) (.seq (.frx 5 6 (.var 4) (.seq (.set (.one 7) (.lst [(.isy 0 (.var 6)), (.isy 1 (.var 6))])) (.seq (.set (.one 7) (.op2 .add (.var 7) (.lst [(.isy 2 (.var 6)), (.isy 3 (.var 6))]))) (.seq (.ife (.orr (.op2 .ne (.call i_law_kinds_of [(.var 6)]) (.lst [(.var 5)])) (.op2 .ne (.var 7) (.lst [(.op2 .lt (.var 5) (.cst (.int 9))), (.op2 .lt (.var 5) (.cst (.int 9))), (.op2 .eq (.var 5) (.cst (.int 9))), (.op2 .eq (.var 5) (.cst (.int 10)))]))) (.seq (.ret (.cst (.bool false))) (.skip)) (.skip)) (.skip))))) (.skip))))))))) (.seq (.ret .isf) (.skip)))
def fd_k01_law (i_law_begin : Nat) (i_law_pick : Nat) (i_law_fields : Nat) (i_law_kinds_of : Nat) : FnD := ⟨1, 8, [false], false, code_k01_law i_law_begin i_law_pick i_law_fields i_law_kinds_of⟩
end FP
end
section
set_option Elab.async false
set_option linter.all false
set_option maxRecDepth 100000
set_option maxHeartbeats 0
namespace Rk01
open PySem FC FP
abbrev pg : Program := PySem.Challenge.pw_fallcuts_k01_errors_made
def r0 : DefR := ⟨"_law_begin", 14, ["script"], (fd_law_begin)⟩
def r1 : DefR := ⟨"_law_next", 15, ["draw", "many_so", "cell", "cells", "number_so", "k"], (fd_law_next)⟩
def r2 : DefR := ⟨"_law_pick", 16, ["draw", "some"], (fd_k01_law_pick 1)⟩
def r3 : DefR := ⟨"_law_fields", 17, ["odd", "some"], (fd_k01_law_fields)⟩
def r4 : DefR := ⟨"_law_kinds_of", 18, ["e", "some", "k"], (fd_k01_law_kinds_of)⟩
def r5 : DefR := ⟨"law", 19, ["script", "draw", "turn", "odd", "errors", "k", "error", "told"], (fd_k01_law 0 2 3 4)⟩
def row : RowD := ⟨[r0, r1, r2, r3, r4, r5], [], none, excL, [], true⟩
def nm0 : List PySem.Str := ["FallError", "BadDrawing", "BadCompany", "BadMove", "BadNumber", "BadPoint", "BadStep", "BadPaper", "BadLog", "BadText", "TooMany", "NothingLeft", "_law_begin", "_law_next", "_law_pick", "_law_fields", "_law_kinds_of"]
def names : List PySem.Str := nm0
def ad0 : List PySem.Addr := [3, 2, 6, 4, 24, 46, 67, 88, 109, 130, 151, 172, 193, 214, 235, 257, 267, 274, 281, 288, 293, 300, 0, 23, 45, 66, 87, 108, 129, 150, 171, 192, 213, 234, 256, 266, 273, 280, 287, 292]
def ad1 : List PySem.Addr := [299, 22, 25, 43, 44, 64, 65, 85, 86, 106, 107, 127, 128, 148, 149, 169, 170, 190, 191, 211, 212, 232, 233, 236, 254, 255, 258, 261, 263, 264, 265, 268, 270, 271, 272, 275, 277, 278, 279, 282]
def ad2 : List PySem.Addr := [284, 285, 286, 289, 291, 294, 296, 297, 298, 42, 31, 63, 52, 84, 73, 105, 94, 126, 115, 147, 136, 168, 157, 189, 178, 210, 199, 231, 220, 253, 242]
def ads : List PySem.Addr := ad0 ++ (ad1 ++ (ad2))
abbrev RO : PySem.W.OpenRow := PySem.W.OpenLaw.row PySem.Challenge.rw_fallcuts_k01_errors_made
abbrev hk : PySem.W.Hook := hookF row pg ads
def ob (s : PySem.W.SharedT) : AlF := obsF row pg ads (HandSHeadRun.getT s)
theorem ob_eq (s : PySem.W.SharedT) : ob s = hk.obs s.abs := obsF_eq (HandSHeadRun.getT_eq s)
theorem run (w : World) : HandSHeadRun.RunEq RO (PySem.W.view RO.prog [19]) hk ob 9000 names w := by
  intro os
  kernel_rfl
theorem stat : row.stat pg = true := by decide +kernel
end Rk01
end
section
set_option linter.all false
set_option maxRecDepth 100000
set_option maxHeartbeats 1000000
namespace FP
open FC
open PySem
theorem callN_at {F : Nat → Option FnD} {d : FnD} {i n : Nat} (h : F i = some d) : callN F (n + 1) i = runF (callN F n) d := by
  funext vs os
  simp only [callN, h]
def chn (o : Option PyData) (os : Objs) (f : Unit → R PV) : R PV := match o with
    | some (.bool true) => f ()
    | some (.bool false) => .ok (.d (.bool false)) os
    | _ => .st
@[simp] theorem chn_bool (b : Bool) (os : Objs) (f : Unit → R PV) : chn (some (.bool b)) os f = if b then f () else .ok (.d (.bool false)) os := by cases b <;> rfl
def cnd (r : R PV) (f g : Objs → SR) : SR := match r with
    | .ok (.d (.bool true)) os1 => f os1
    | .ok (.d (.bool false)) os1 => g os1
    | .er e os1 => .er e os1
    | _ => .st
@[simp] theorem cnd_ok (b : Bool) (os : Objs) (f g : Objs → SR) : cnd (.ok (.d (.bool b)) os) f g = if b then f os else g os := by cases b <;> rfl
@[simp] theorem cnd_er (e : PExc) (os : Objs) (f g : Objs → SR) : cnd (.er e os) f g = .er e os := rfl
def fin (r : SR) : R PV := match r with
      | .nx _ os1 => .ok (.d .none) os1
      | .rt v os1 => .ok v os1
      | .er e os1 => .er e os1
      | .st => .st
@[simp] theorem fin_nx (env : PEnv) (os : Objs) : fin (.nx env os) = .ok (.d .none) os := rfl
@[simp] theorem fin_rt (v : PV) (os : Objs) : fin (.rt v os) = .ok v os := rfl
@[simp] theorem fin_er (e : PExc) (os : Objs) : fin (.er e os) = .er e os := rfl
theorem runF_eq {call : CallT} {f : FnD} {vs : List PV} {os : Objs} {sl : List Sl} (h1 : vs.length = f.np) (h2 : argSl f.bs vs = some sl) : runF call f vs os = fin (ex call f.body (sl ++ List.replicate (f.nl - f.np) Sl.un) os) := by
  simp only [runF, h1, if_true, h2]
  rfl
def nxt (o : Option PEnv) (f : PEnv → SR) : SR := match o with
    | some env' => f env'
    | none => .st
@[simp] theorem nxt_some (env : PEnv) (f : PEnv → SR) : nxt (some env) f = f env := rfl
@[simp] theorem forL_nil (t : Tgt) (body : PEnv → Objs → SR) (env : PEnv) (os : Objs) : forL t body [] env os = .nx env os := rfl
@[simp] theorem forL_cons (t : Tgt) (body : PEnv → Objs → SR) (x : PyData) (xs : List PyData) (env : PEnv) (os : Objs) : forL t body (x :: xs) env os = nxt (bindT t x env) fun env' => (body env' os).then fun env2 os2 => forL t body xs env2 os2 := rfl
def itm (o : Option PEnv) (f : PEnv → R (Option PyData)) : R (Option PyData) := match o with
    | some env' => f env'
    | none => .st
@[simp] theorem itm_some (env : PEnv) (f : PEnv → R (Option PyData)) : itm (some env) f = f env := rfl
@[simp] theorem compL_nil (f : PyData → Objs → R (Option PyData)) (os : Objs) : compL f [] os = .ok [] os := rfl
@[simp] theorem compL_cons (f : PyData → Objs → R (Option PyData)) (x : PyData) (xs : List PyData) (os : Objs) : compL f (x :: xs) os = (f x os).noer.bind fun y os1 => (compL f xs os1).bind fun ys os2 => .ok (y.toList ++ ys) os2 := by
  simp only [compL]
  congr 1
  funext y os1
  congr 1
  funext ys os2
  cases y <;> rfl
def dsp (o : Option (List PyData)) (f : List PyData → PyData) (os : Objs) : R PV := match o with
    | some ds => if fit ds.length then .ok (.d (f ds)) os else .st
    | none => .st
@[simp] theorem dsp_some (ds : List PyData) (f : List PyData → PyData) (os : Objs) : dsp (some ds) f os = if fit ds.length then .ok (.d (f ds)) os else .st := rfl
section
variable (call : CallT)
@[simp] theorem ev_var (i : Nat) (env : PEnv) (os : Objs) : ev call (.var i) env os = (match env[i]? with | some (.v x) => .ok x os | _ => .st) := by first | (rw [ev]; done) | (rw [ev]; rfl)
@[simp] theorem ev_bor (i : Nat) (env : PEnv) (os : Objs) : ev call (.bor i) env os = (match env[i]? with | some (.m x) => .ok (.d x) os | some (.b x) => .ok (.d x) os | _ => .st) := by first | (rw [ev]; done) | (rw [ev]; rfl)
@[simp] theorem ev_cst (d : PyData) (env : PEnv) (os : Objs) : ev call (.cst d) env os = .ok (.d d) os := by first | (rw [ev]; done) | (rw [ev]; rfl)
@[simp] theorem ev_op1 (p : P1) (a : Ex) (env : PEnv) (os : Objs) : ev call (.op1 p a) env os = (ev call a env os).dat fun x os1 => (R.opt (d1 p x) os1).bind fun y os2 => .ok (.d y) os2 := by first | (rw [ev]; done) | (rw [ev]; rfl)
@[simp] theorem ev_op2 (p : P2) (a b : Ex) (env : PEnv) (os : Objs) : ev call (.op2 p a b) env os = (ev call a env os).dat fun x os1 => (ev call b env os1).dat fun y os2 => (R.opt (d2 p x y) os2).bind fun z os3 => .ok (.d z) os3 := by first | (rw [ev]; done) | (rw [ev]; rfl)
@[simp] theorem ev_slc (a : Ex) (lo hi : Option Ex) (env : PEnv) (os : Objs) : ev call (.slc a lo hi) env os = (ev call a env os).dat fun x os1 => (evO call lo env os1).bind fun l os2 => (evO call hi env os2).bind fun h os3 => (match x with
    | .list xs => .ok (.d (.list (cutD xs l h))) os3
    | .tuple xs => .ok (.d (.tuple (cutD xs l h))) os3
    | _ => .st) := by first | (rw [ev]; done) | (rw [ev]; rfl)
@[simp] theorem ev_chain (p q : P2) (a b c : Ex) (env : PEnv) (os : Objs) : ev call (.chain p q a b c) env os = (ev call a env os).dat fun x os1 => (ev call b env os1).dat fun y os2 => chn (d2 p x y) os2 fun _ => (ev call c env os2).dat fun z os3 => (R.opt (d2 q y z) os3).bind fun w os4 => .ok (.d w) os4 := by rw [ev]; rfl
@[simp] theorem ev_nt (a : Ex) (env : PEnv) (os : Objs) : ev call (.nt a) env os = (ev call a env os).bool fun b os1 => .ok (.d (.bool (!b))) os1 := by first | (rw [ev]; done) | (rw [ev]; rfl)
@[simp] theorem ev_an (a b : Ex) (env : PEnv) (os : Objs) : ev call (.an a b) env os = (ev call a env os).bool fun x os1 => if x then (ev call b env os1).bool fun y os2 => .ok (.d (.bool y)) os2 else .ok (.d (.bool false)) os1 := by first | (rw [ev]; done) | (rw [ev]; rfl)
@[simp] theorem ev_orr (a b : Ex) (env : PEnv) (os : Objs) : ev call (.orr a b) env os = (ev call a env os).bool fun x os1 => if x then .ok (.d (.bool true)) os1 else (ev call b env os1).bool fun y os2 => .ok (.d (.bool y)) os2 := by first | (rw [ev]; done) | (rw [ev]; rfl)
@[simp] theorem ev_ite (c a b : Ex) (env : PEnv) (os : Objs) : ev call (.ite c a b) env os = (ev call c env os).bool fun x os1 => if x then ev call a env os1 else ev call b env os1 := by first | (rw [ev]; done) | (rw [ev]; rfl)
@[simp] theorem ev_isN (a : Ex) (env : PEnv) (os : Objs) : ev call (.isN a) env os = (ev call a env os).nul fun x os1 => .ok (.d (.bool x)) os1 := by first | (rw [ev]; done) | (rw [ev]; rfl)
@[simp] theorem ev_nN (a : Ex) (env : PEnv) (os : Objs) : ev call (.nN a) env os = (ev call a env os).nul fun x os1 => .ok (.d (.bool (!x))) os1 := by first | (rw [ev]; done) | (rw [ev]; rfl)
@[simp] theorem ev_tup (as : List Ex) (env : PEnv) (os : Objs) : ev call (.tup as) env os = (evs call as env os).bind fun vs os1 => dsp (dataAll vs) .tuple os1 := by rw [ev]; rfl
@[simp] theorem ev_lst (as : List Ex) (env : PEnv) (os : Objs) : ev call (.lst as) env os = (evs call as env os).bind fun vs os1 => dsp (dataAll vs) .list os1 := by rw [ev]; rfl
@[simp] theorem ev_dic0 (env : PEnv) (os : Objs) : ev call .dic0 env os = .ok (.d (.dict [])) os := by first | (rw [ev]; done) | (rw [ev]; rfl)
@[simp] theorem ev_dic1 (k v : Ex) (env : PEnv) (os : Objs) : ev call (.dic1 k v) env os = (ev call k env os).dat fun x os1 => (ev call v env os1).dat fun y os2 => if isKey x then .ok (.d (.dict [(x, y)])) os2 else .st := by first | (rw [ev]; done) | (rw [ev]; rfl)
@[simp] theorem ev_comp (t : Tgt) (it : It) (c : Option Ex) (e : Ex) (env : PEnv) (os : Objs) : ev call (.comp t it c e) env os = (evI call it env os).bind fun xs os1 =>
      (compL (fun x os2 => itm (bindT t x (clrL env (tgtIx t))) fun env' => (evC call c env' os2).bind fun b os3 => if b then (ev call e env' os3).dat fun y os4 => .ok (some y) os4 else .ok none os3) xs os1).bind fun ys os5 => if fit ys.length then .ok (.d (.list ys)) os5 else .st := by rw [ev]; rfl
@[simp] theorem ev_call (f : Nat) (as : List Ex) (env : PEnv) (os : Objs) : ev call (.call f as) env os = (evs call as env os).bind fun vs os1 => call f vs os1 := by first | (rw [ev]; done) | (rw [ev]; rfl)
@[simp] theorem ev_said (f : Nat) (e : Ex) (env : PEnv) (os : Objs) : ev call (.said f e) env os = (match ev call e env os with
    | .ok (.d x) os1 => .ok (.d (.list [x])) os1
    | .ok _ _ => .st
    | .er x os1 => if clsOk x.cls then (call f [.x x.cls x.args] os1).noer else .st
    | .st => .st) := by first | (rw [ev]; done) | (rw [ev]; rfl)
@[simp] theorem ev_isx (a : Ex) (cs : List Nat) (env : PEnv) (os : Objs) : ev call (.isx a cs) env os = (match ev call a env os with
    | .ok (.x cl _) os1 => if clsOk cl then .ok (.d (.bool (cs.contains cl))) os1 else .st
    | .er e os1 => .er e os1
    | _ => .st) := by first | (rw [ev]; done) | (rw [ev]; rfl)
@[simp] theorem ev_xget (a : Ex) (k : Str) (env : PEnv) (os : Objs) : ev call (.xget a k) env os = (match ev call a env os with
    | .ok (.x cl ds) os1 => if clsOk cl then (R.opt (((fldN cl).zip ds).lookup k) os1).bind fun y os2 => .ok (.d y) os2 else .st
    | .er e os1 => .er e os1
    | _ => .st) := by first | (rw [ev]; done) | (rw [ev]; rfl)
@[simp] theorem ev_oget (a : Ex) (k : Str) (env : PEnv) (os : Objs) : ev call (.oget a k) env os = (match ev call a env os with
    | .ok (.o n) os1 => (R.opt (ogetO os1 n k) os1).bind fun y os2 => .ok (.d y) os2
    | .er e os1 => .er e os1
    | _ => .st) := by first | (rw [ev]; done) | (rw [ev]; rfl)
@[simp] theorem ev_begin (a : Ex) (env : PEnv) (os : Objs) : ev call (.begin a) env os = (match ev call a env os with
    | .ok (.s ns) os1 => if decide (ns.length ≤ 63) then .ok (.o os1.length) (os1 ++ [drawO ns]) else .st
    | .er e os1 => .er e os1
    | _ => .st) := by first | (rw [ev]; done) | (rw [ev]; rfl)
@[simp] theorem evs_nil (env : PEnv) (os : Objs) : evs call [] env os = .ok [] os := by first | (rw [evs]; done) | (rw [evs]; rfl)
theorem evs_cons {a : Ex} (h : ∀ b, a ≠ .star b) (as : List Ex) (env : PEnv) (os : Objs) : evs call (a :: as) env os = (ev call a env os).bind fun x os1 => (evs call as env os1).bind fun xs os2 => .ok (x :: xs) os2 := by
  rw [evs]; exact h
@[simp] theorem evO_none (env : PEnv) (os : Objs) : evO call none env os = .ok none os := by first | (rw [evO]; done) | (rw [evO]; rfl)
@[simp] theorem evO_some (a : Ex) (env : PEnv) (os : Objs) : evO call (some a) env os = (ev call a env os).dat fun x os1 => (match x with
    | .int i => .ok (some i) os1
    | _ => .st) := by first | (rw [evO]; done) | (rw [evO]; rfl)
@[simp] theorem evC_none (env : PEnv) (os : Objs) : evC call none env os = .ok true os := by first | (rw [evC]; done) | (rw [evC]; rfl)
@[simp] theorem evC_some (a : Ex) (env : PEnv) (os : Objs) : evC call (some a) env os = (ev call a env os).bool fun b os1 => .ok b os1 := by first | (rw [evC]; done) | (rw [evC]; rfl)
@[simp] theorem evI_seq (e : Ex) (env : PEnv) (os : Objs) : evI call (.seq e) env os = (ev call e env os).dat fun x os1 => R.opt (seqD x) os1 := by first | (rw [evI]; done) | (rw [evI]; rfl)
@[simp] theorem evI_rng1 (a : Ex) (env : PEnv) (os : Objs) : evI call (.rng1 a) env os = (ev call a env os).dat fun x os1 => (match x with
    | .int i => if rngOk i then .ok (rngL 0 i) os1 else .st
    | _ => .st) := by first | (rw [evI]; done) | (rw [evI]; rfl)
@[simp] theorem evI_rng2 (a b : Ex) (env : PEnv) (os : Objs) : evI call (.rng2 a b) env os = (ev call a env os).dat fun x os1 => (ev call b env os1).dat fun y os2 => (match x, y with
    | .int i, .int j => if rngOk i && rngOk j then .ok (rngL i j) os2 else .st
    | _, _ => .st) := by first | (rw [evI]; done) | (rw [evI]; rfl)
@[simp] theorem evI_enum (e : Ex) (env : PEnv) (os : Objs) : evI call (.enum e) env os = (ev call e env os).dat fun x os1 => (R.opt (seqD x) os1).bind fun xs os2 => .ok (enumL xs) os2 := by first | (rw [evI]; done) | (rw [evI]; rfl)
end
@[simp] theorem bind_ok {α β : Type} (a : α) (os : Objs) (f : α → Objs → R β) : (R.ok a os).bind f = f a os := rfl
@[simp] theorem bind_er {α β : Type} (e : PExc) (os : Objs) (f : α → Objs → R β) : (R.er e os).bind f = .er e os := rfl
@[simp] theorem nul_ok {a : PyData} {os : Objs} {f : Bool → Objs → R PV} : (R.ok (PV.d a) os).nul f = f (isNoneD a) os := rfl
@[simp] theorem nul_o {n : Nat} {os : Objs} {f : Bool → Objs → R PV} : (R.ok (PV.o n) os).nul f = f false os := rfl
@[simp] theorem nul_er {e : PExc} {os : Objs} {f : Bool → Objs → R PV} : (R.er e os : R PV).nul f = .er e os := rfl
@[simp] theorem dat_ok {β : Type} (a : PyData) (os : Objs) (f : PyData → Objs → R β) : (R.ok (PV.d a) os).dat f = f a os := rfl
@[simp] theorem dat_er {β : Type} (e : PExc) (os : Objs) (f : PyData → Objs → R β) : (R.er e os : R PV).dat f = .er e os := rfl
@[simp] theorem bool_ok {β : Type} (b : Bool) (os : Objs) (f : Bool → Objs → R β) : (R.ok (PV.d (.bool b)) os).bool f = f b os := rfl
@[simp] theorem bool_er {β : Type} (e : PExc) (os : Objs) (f : Bool → Objs → R β) : (R.er e os : R PV).bool f = .er e os := rfl
@[simp] theorem opt_some {α : Type} (a : α) (os : Objs) : R.opt (some a) os = .ok a os := rfl
@[simp] theorem opt_none {α : Type} (os : Objs) : R.opt (none : Option α) os = .st := rfl
@[simp] theorem sd_ok' (a : PyData) (os : Objs) (f : PyData → Objs → SR) : (R.ok (PV.d a) os).sd f = f a os := rfl
@[simp] theorem sd_er' (e : PExc) (os : Objs) (f : PyData → Objs → SR) : (R.er e os : R PV).sd f = .er e os := rfl
@[simp] theorem sp_ok (a : PV) (os : Objs) (f : PV → Objs → SR) : (R.ok a os).sp f = f a os := rfl
@[simp] theorem sp_er (e : PExc) (os : Objs) (f : PV → Objs → SR) : (R.er e os : R PV).sp f = .er e os := rfl
@[simp] theorem sps_ok (a : List PV) (os : Objs) (f : List PV → Objs → SR) : (R.ok a os).sps f = f a os := rfl
@[simp] theorem sps_er (e : PExc) (os : Objs) (f : List PV → Objs → SR) : (R.er e os : R (List PV)).sps f = .er e os := rfl
@[simp] theorem then_nx (env : PEnv) (os : Objs) (f : PEnv → Objs → SR) : (SR.nx env os).then f = f env os := rfl
@[simp] theorem then_rt (v : PV) (os : Objs) (f : PEnv → Objs → SR) : (SR.rt v os).then f = .rt v os := rfl
@[simp] theorem then_er (e : PExc) (os : Objs) (f : PEnv → Objs → SR) : (SR.er e os).then f = .er e os := rfl
@[simp] theorem noer_ok {α : Type} (a : α) (os : Objs) : (R.ok a os).noer = .ok a os := rfl
@[simp] theorem dataAll_nil : dataAll [] = some [] := rfl
@[simp] theorem dataAll_cons (x : PyData) (r : List PV) : dataAll (.d x :: r) = (dataAll r).map (x :: ·) := rfl
section
variable (call : CallT)
@[simp] theorem ex_skip (env : PEnv) (os : Objs) : ex call .skip env os = .nx env os := rfl
@[simp] theorem ex_seq (a b : S) (env : PEnv) (os : Objs) : ex call (.seq a b) env os = (ex call a env os).then fun env1 os1 => ex call b env1 os1 := rfl
@[simp] theorem ex_set1 (i : Nat) (e : Ex) (env : PEnv) (os : Objs) : ex call (.set (.one i) e) env os = (ev call e env os).sp fun x os1 => if decide (i < env.length) then .nx (env.set i (.v x)) os1 else .st := rfl
@[simp] theorem ex_setT (ts : List Tgt) (e : Ex) (env : PEnv) (os : Objs) : ex call (.set (.tup ts) e) env os = (ev call e env os).sd fun x os1 => nxt (bindT (.tup ts) x env) fun env' => .nx env' os1 := rfl
@[simp] theorem ex_own (i : Nat) (e : Ex) (env : PEnv) (os : Objs) : ex call (.own i e) env os = (ev call e env os).sd fun x os1 => if decide (i < env.length) && ownD x then .nx (env.set i (.m x)) os1 else .st := rfl
@[simp] theorem ex_par (ts : List (Bool × Nat)) (es : List Ex) (env : PEnv) (os : Objs) : ex call (.par ts es) env os = (evs call es env os).sps fun vs os1 => nxt (setP ts vs env) fun env' => .nx env' os1 := rfl
@[simp] theorem ex_ife (c : Ex) (a b : S) (env : PEnv) (os : Objs) : ex call (.ife c a b) env os = cnd (ev call c env os) (fun os1 => ex call a env os1) fun os1 => ex call b env os1 := rfl
def _root_.FC.R.its (x : R (List PyData)) (f : List PyData → Objs → SR) : SR := match x with
  | .ok a os => f a os
  | .er e os => .er e os
  | .st => .st
@[simp] theorem its_ok (a : List PyData) (os : Objs) (f : List PyData → Objs → SR) : (R.ok a os).its f = f a os := rfl
@[simp] theorem ex_fr (t : Tgt) (it : It) (b : S) (env : PEnv) (os : Objs) : ex call (.fr t it b) env os = (evI call it env os).its fun xs os1 => forL t (ex call b) xs env os1 := rfl
@[simp] theorem ex_wh (c : Ex) (b : S) (env : PEnv) (os : Objs) : ex call (.wh c b) env os = whL (ev call c) (ex call b) whFuel env os := rfl
@[simp] theorem ex_ret (e : Ex) (env : PEnv) (os : Objs) : ex call (.ret e) env os = (ev call e env os).sp fun x os1 => .rt x os1 := rfl
@[simp] theorem ex_ex (e : Ex) (env : PEnv) (os : Objs) : ex call (.ex e) env os = (ev call e env os).sp fun _ os1 => .nx env os1 := rfl
end
end FP
end
section
set_option linter.all false
set_option maxRecDepth 100000
set_option maxHeartbeats 1000000
namespace FP
open FC
open PySem PySem.F
theorem lay_all {xs : List PyData} : PyData.canLayAll0 xs = xs.all PyData.canLay0 := by
  induction xs with
  | nil => rfl
  | cons x xs ih => simp [PyData.canLayAll0, ih]
theorem depth_all {xs : List PyData} {n : Nat} (h : ∀ x ∈ xs, x.depth ≤ n) : PyData.depthAll xs ≤ n := by
  induction xs with
  | nil => simp [PyData.depthAll]
  | cons x xs ih =>
    simp only [PyData.depthAll]
    have := h x (by simp)
    have := ih fun y hy => h y (by simp [hy])
    omega
theorem depth_mem {xs : List PyData} {x : PyData} (h : x ∈ xs) : x.depth ≤ PyData.depthAll xs := by
  induction xs with
  | nil => simp at h
  | cons y xs ih =>
    simp only [PyData.depthAll]
    rcases List.mem_cons.mp h with rfl | h
    · omega
    · have := ih h; omega
@[simp] theorem shaped_none : SeqAt.shaped .none = true := rfl
@[simp] theorem shaped_bool (b : Bool) : SeqAt.shaped (.bool b) = true := rfl
@[simp] theorem shaped_int (i : Int) : SeqAt.shaped (.int i) = true := rfl
theorem shaped_seq {xs : List PyData} (h : ∀ x ∈ xs, SeqAt.shaped x = true ∧ x.depth ≤ 63) : SeqAt.shaped (.list xs) = true ∧ SeqAt.shaped (.tuple xs) = true := by
  have h1 : PyData.canLayAll0 xs = true := by
    rw [lay_all, List.all_eq_true]
    exact fun x hx => SeqAt.canLay_of_shaped (h x hx).1
  have h2 : PyData.depthAll xs ≤ 63 := depth_all fun x hx => (h x hx).2
  constructor
  · simp [SeqAt.shaped, PyData.canLay0, PyData.depth, h1]; omega
  · simp [SeqAt.shaped, PyData.canLay0, PyData.depth, h1]; omega
def eD (e : Int × Int) : PyData := .tuple [.int e.1, .int e.2]
def esD (es : List (Int × Int)) : PyData := .tuple (es.map eD)
@[simp] theorem eD_depth (e : Int × Int) : (eD e).depth = 1 := rfl
@[simp] theorem shaped_eD (e : Int × Int) : SeqAt.shaped (eD e) = true := rfl
@[simp] theorem shaped_esD (es : List (Int × Int)) : SeqAt.shaped (esD es) = true := (shaped_seq fun x hx => by
  obtain ⟨e, _, rfl⟩ := List.mem_map.mp hx
  exact ⟨rfl, by rw [eD_depth]; omega⟩).2
theorem shaped_ints (ns : List Int) : SeqAt.shaped (.list (ns.map PyData.int)) = true := (shaped_seq fun x hx => by
  obtain ⟨e, _, rfl⟩ := List.mem_map.mp hx
  exact ⟨rfl, by simp [PyData.depth]⟩).1
@[simp] theorem eqv_int (a b : Int) : PyData.eqv (.int a) (.int b) = decide (a = b) := by
  simp [PyData.eqv]; rfl
@[simp] theorem eqv_eD (a b : Int × Int) : PyData.eqv (eD a) (eD b) = decide (a = b) := by
  obtain ⟨a1, a2⟩ := a
  obtain ⟨b1, b2⟩ := b
  simp only [eD, PyData.eqv, PyData.eqvAll, Bool.and_true]
  by_cases h1 : a1 = b1 <;> by_cases h2 : a2 = b2 <;> simp [h1, h2]
theorem eqvAll_es : ∀ (a b : List (Int × Int)), PyData.eqvAll (a.map eD) (b.map eD) = decide (a = b)
  | [], [] => by simp [PyData.eqvAll]
  | [], _ :: _ => by simp [PyData.eqvAll]
  | _ :: _, [] => by simp [PyData.eqvAll]
  | x :: a, y :: b => by
    simp only [List.map_cons, PyData.eqvAll, eqv_eD, eqvAll_es a b]
    by_cases h1 : x = y <;> by_cases h2 : a = b <;> simp [h1, h2]
@[simp] theorem eqv_esD (a b : List (Int × Int)) : PyData.eqv (esD a) (esD b) = decide (a = b) := by
  simp [esD, PyData.eqv, eqvAll_es]
mutual
def big : PyData → Nat
  | .none => 4
  | .bool _ => 5
  | .int i => i.natAbs.log2 + 2
  | .str x => (reprText x).length
  | .list xs => 2 + bigs xs
  | .tuple xs => 3 + bigs xs
  | .dict kvs => 2 + bigK kvs
def bigs : List PyData → Nat
  | [] => 0
  | x :: xs => big x + 2 + bigs xs
def bigK : List (PyData × PyData) → Nat
  | [] => 0
  | (k, v) :: r => big k + 2 + big v + 2 + bigK r
end
theorem int_len (i : Int) : (Str.ofString (toString i)).length ≤ i.natAbs.log2 + 2 := by
  have key : ∀ n : Nat, (Nat.repr n).length ≤ n.log2 + 1 := fun n => by
    refine nat_repr_length_le (by omega) ?_
    exact Nat.lt_log2_self
  rw [show (Str.ofString (toString i)).length = (toString i).length by first | exact ofString_length _ | simp]
  cases i with
  | ofNat n =>
    have := key n
    show (Nat.repr n).length ≤ _
    simpa using Nat.le_succ_of_le this
  | negSucc n =>
    have := key (n + 1)
    show ("-" ++ Nat.repr (n + 1)).length ≤ _
    rw [String.length_append]
    show 1 + _ ≤ (n + 1).log2 + 2
    omega
theorem join_le : ∀ ts : List Str, (Str.join ", " ts).length ≤ piled ts
  | [] => Nat.le_refl 0
  | t :: ts => by
    have h := join_length_add (t :: ts) (by simp)
    omega
theorem text_le : ∀ (ts : List Str) (k : Nat) (acc : Str), (textFrom k acc ts).length ≤ acc.length + piled ts
  | [], k, acc => by simp [textFrom, piled]
  | t :: ts, k, acc => by
    simp only [textFrom]
    have h := text_le ts (k + 1) (acc ++ (if k > 0 then ", " else "" : String) ++ t)
    rw [strLen_append, strLen_append, ofString_length] at h
    rw [piled_cons]
    have : (if k > 0 then ", " else "" : String).length ≤ 2 := by split <;> decide
    omega
mutual
theorem shown_le : ∀ d : PyData, d.shown.length ≤ big d
  | .none => by decide
  | .bool b => by cases b <;> decide
  | .int i => by simp only [PyData.shown, big]; exact int_len i
  | .str x => by simp [PyData.shown, big]
  | .list xs => by
    simp only [PyData.shown, big, listText]
    have h := text_le (PyData.shownAll xs) 0 "["
    have := shownAll_le xs
    rw [strLen_append]
    have e1 : (Str.ofString "[").length = 1 := rfl
    have e2 : (Str.ofString "]").length = 1 := rfl
    omega
  | .tuple xs => by
    simp only [PyData.shown, big, tupleText]
    have h := join_le (PyData.shownAll xs)
    have := shownAll_le xs
    rw [strLen_append, strLen_append]
    have e1 : (Str.ofString "(").length = 1 := rfl
    have e2 : (Str.ofString (if ((PyData.shownAll xs).length == 1) = true then ",)" else ")" : String)).length ≤ 2 := by split <;> decide
    omega
  | .dict kvs => by
    simp only [PyData.shown, big, dictText]
    have h := join_le (PyData.shownKv kvs)
    have := shownKv_le kvs
    rw [strLen_append, strLen_append]
    have e1 : (Str.ofString "{").length = 1 := rfl
    have e2 : (Str.ofString "}").length = 1 := rfl
    omega
theorem shownAll_le : ∀ xs : List PyData, piled (PyData.shownAll xs) ≤ bigs xs
  | [] => by simp [PyData.shownAll, bigs, piled]
  | x :: xs => by
    simp only [PyData.shownAll, bigs, piled_cons]
    have := shown_le x
    have := shownAll_le xs
    omega
theorem shownKv_le : ∀ xs : List (PyData × PyData), piled (PyData.shownKv xs) ≤ bigK xs
  | [] => by simp [PyData.shownKv, bigK, piled]
  | (k, v) :: xs => by
    simp only [PyData.shownKv, bigK, piled_cons, strLen_append]
    have := shown_le k
    have := shown_le v
    have := shownKv_le xs
    have e : (Str.ofString ": ").length = 2 := rfl
    omega
end
structure Sh (n m : Nat) (d : PyData) : Prop where
  ok : d.showable = true
  dp : d.depth ≤ n
  bg : big d ≤ m
theorem Sh.mono {n m n' m' : Nat} {d : PyData} (h : Sh n m d) (h1 : n ≤ n') (h2 : m ≤ m') : Sh n' m' d := ⟨h.ok, Nat.le_trans h.dp h1, Nat.le_trans h.bg h2⟩
theorem Sh.repr {n m : Nat} {d : PyData} (h : Sh n m d) (h1 : n ≤ 60) (h2 : m ≤ 16000000) : d1 .repr d = some (.str d.shown) := by
  have hb := shown_le d
  have h3 := h.bg
  have h4 := h.dp
  have : fit d.shown.length = true := by
    simp only [fit, decide_eq_true_eq]
    rw [sizeLine_eq]
    omega
  simp [d1, h.ok, this]
  omega
theorem bigs_append : ∀ (xs ys : List PyData), bigs (xs ++ ys) = bigs xs + bigs ys
  | [], ys => by simp [bigs]
  | x :: xs, ys => by simp [bigs, bigs_append xs ys]; omega
theorem showable_all {xs : List PyData} : PyData.showableAll xs = xs.all PyData.showable := by
  induction xs with
  | nil => rfl
  | cons x xs ih => simp [PyData.showableAll, ih]
theorem bigs_le {xs : List PyData} {m : Nat} (h : ∀ x ∈ xs, big x ≤ m) : bigs xs ≤ xs.length * (m + 2) := by
  induction xs with
  | nil => simp [bigs]
  | cons x xs ih =>
    simp only [bigs, List.length_cons]
    have := h x (by simp)
    have := ih fun y hy => h y (by simp [hy])
    rw [Nat.add_mul]
    omega
theorem Sh.seq {n m k : Nat} {xs : List PyData} (h : ∀ x ∈ xs, Sh n m x) (hk : xs.length ≤ k) : Sh (n + 1) (k * (m + 2) + 3) (.list xs) ∧ Sh (n + 1) (k * (m + 2) + 3) (.tuple xs) := by
  have h1 : PyData.showableAll xs = true := by
    rw [showable_all, List.all_eq_true]
    exact fun x hx => (h x hx).ok
  have h2 : PyData.depthAll xs ≤ n := depth_all fun x hx => (h x hx).dp
  have h3 := bigs_le fun x hx => (h x hx).bg
  have h4 : xs.length * (m + 2) ≤ k * (m + 2) := Nat.mul_le_mul_right _ hk
  constructor
  · exact ⟨by simp [PyData.showable, h1], by simp [PyData.depth]; omega, by simp [big]; omega⟩
  · exact ⟨by simp [PyData.showable, h1], by simp [PyData.depth]; omega, by simp [big]; omega⟩
theorem Sh.int {i : Int} (h : i.natAbs < 2 ^ 120) : Sh 0 122 (.int i) := by
  have : i.natAbs.log2 < 120 := by
    rcases Nat.eq_zero_or_pos i.natAbs with z | z
    · rw [z]; decide
    · exact (Nat.log2_lt (by omega)).mpr h
  exact ⟨by simp [PyData.showable]; omega, by simp [PyData.depth], by simp [big]; omega⟩
theorem Sh.none : Sh 0 122 .none := ⟨rfl, Nat.le_refl _, by decide⟩
theorem Sh.bool (b : Bool) : Sh 0 122 (.bool b) := ⟨rfl, Nat.le_refl _, by simp [big]⟩
theorem Sh.eD {e : Int × Int} (h1 : e.1.natAbs < 2 ^ 120) (h2 : e.2.natAbs < 2 ^ 120) : Sh 1 251 (FP.eD e) := (Sh.seq (xs := [.int e.1, .int e.2]) (k := 2) (fun x hx => by
  simp only [List.mem_cons, List.not_mem_nil, or_false] at hx
  rcases hx with rfl | rfl
  · exact Sh.int h1
  · exact Sh.int h2) (by simp)).2
end FP
end
section
set_option linter.all false
set_option maxRecDepth 100000
set_option maxHeartbeats 1000000
namespace FP
open FC
open PySem
abbrev Ed : Type := Int × Int
inductive Reach (es : List Ed) (r : Int) : Int → Prop
  | here : Reach es r r
  | fwd {a b : Int} : Reach es r a → (a, b) ∈ es → Reach es r b
  | bwd {a b : Int} : Reach es r b → (a, b) ∈ es → Reach es r a
theorem Reach.mono {es es' : List Ed} {r p : Int} (h : ∀ e ∈ es, e ∈ es') (q : Reach es r p) : Reach es' r p := by
  induction q with
  | here => exact .here
  | fwd _ h2 ih => exact .fwd ih (h _ h2)
  | bwd _ h2 ih => exact .bwd ih (h _ h2)
def oth (here : Int) (e : Ed) : Int := if e.1 = here then e.2 else e.1
end FP
end
section
set_option linter.all false
set_option maxRecDepth 100000
set_option maxHeartbeats 1000000
namespace FP
open FC
open PySem
def notStar : Ex → Bool
  | .star _ => false
  | _ => true
theorem evs_c (call : CallT) (a : Ex) (as : List Ex) (env : PEnv) (os : Objs) (h : notStar a = true) : evs call (a :: as) env os = (ev call a env os).bind fun x os1 => (evs call as env os1).bind fun xs os2 => .ok (x :: xs) os2 :=
  evs_cons call (fun b z => by subst z; simp [notStar] at h) as env os
@[simp] theorem evs_x_var (call : CallT) (i : Nat) (al : List Ex) (env : PEnv) (os : Objs) : evs call ((.var i) :: al) env os = (ev call (.var i) env os).bind fun x os1 => (evs call al env os1).bind fun xs os2 => .ok (x :: xs) os2 := evs_c _ _ _ _ _ rfl
@[simp] theorem evs_x_bor (call : CallT) (i : Nat) (al : List Ex) (env : PEnv) (os : Objs) : evs call ((.bor i) :: al) env os = (ev call (.bor i) env os).bind fun x os1 => (evs call al env os1).bind fun xs os2 => .ok (x :: xs) os2 := evs_c _ _ _ _ _ rfl
@[simp] theorem evs_x_cst (call : CallT) (d : PyData) (al : List Ex) (env : PEnv) (os : Objs) : evs call ((.cst d) :: al) env os = (ev call (.cst d) env os).bind fun x os1 => (evs call al env os1).bind fun xs os2 => .ok (x :: xs) os2 := evs_c _ _ _ _ _ rfl
@[simp] theorem evs_x_op1 (call : CallT) (p : P1) (a : Ex) (al : List Ex) (env : PEnv) (os : Objs) : evs call ((.op1 p a) :: al) env os = (ev call (.op1 p a) env os).bind fun x os1 => (evs call al env os1).bind fun xs os2 => .ok (x :: xs) os2 := evs_c _ _ _ _ _ rfl
@[simp] theorem evs_x_op2 (call : CallT) (p : P2) (a b : Ex) (al : List Ex) (env : PEnv) (os : Objs) : evs call ((.op2 p a b) :: al) env os = (ev call (.op2 p a b) env os).bind fun x os1 => (evs call al env os1).bind fun xs os2 => .ok (x :: xs) os2 := evs_c _ _ _ _ _ rfl
@[simp] theorem evs_x_slc (call : CallT) (a : Ex) (lo hi : Option Ex) (al : List Ex) (env : PEnv) (os : Objs) : evs call ((.slc a lo hi) :: al) env os = (ev call (.slc a lo hi) env os).bind fun x os1 => (evs call al env os1).bind fun xs os2 => .ok (x :: xs) os2 := evs_c _ _ _ _ _ rfl
@[simp] theorem evs_x_chain (call : CallT) (p q : P2) (a b c : Ex) (al : List Ex) (env : PEnv) (os : Objs) : evs call ((.chain p q a b c) :: al) env os = (ev call (.chain p q a b c) env os).bind fun x os1 => (evs call al env os1).bind fun xs os2 => .ok (x :: xs) os2 := evs_c _ _ _ _ _ rfl
@[simp] theorem evs_x_nt (call : CallT) (a : Ex) (al : List Ex) (env : PEnv) (os : Objs) : evs call ((.nt a) :: al) env os = (ev call (.nt a) env os).bind fun x os1 => (evs call al env os1).bind fun xs os2 => .ok (x :: xs) os2 := evs_c _ _ _ _ _ rfl
@[simp] theorem evs_x_an (call : CallT) (a b : Ex) (al : List Ex) (env : PEnv) (os : Objs) : evs call ((.an a b) :: al) env os = (ev call (.an a b) env os).bind fun x os1 => (evs call al env os1).bind fun xs os2 => .ok (x :: xs) os2 := evs_c _ _ _ _ _ rfl
@[simp] theorem evs_x_orr (call : CallT) (a b : Ex) (al : List Ex) (env : PEnv) (os : Objs) : evs call ((.orr a b) :: al) env os = (ev call (.orr a b) env os).bind fun x os1 => (evs call al env os1).bind fun xs os2 => .ok (x :: xs) os2 := evs_c _ _ _ _ _ rfl
@[simp] theorem evs_x_ite (call : CallT) (c a b : Ex) (al : List Ex) (env : PEnv) (os : Objs) : evs call ((.ite c a b) :: al) env os = (ev call (.ite c a b) env os).bind fun x os1 => (evs call al env os1).bind fun xs os2 => .ok (x :: xs) os2 := evs_c _ _ _ _ _ rfl
@[simp] theorem evs_x_isN (call : CallT) (a : Ex) (al : List Ex) (env : PEnv) (os : Objs) : evs call ((.isN a) :: al) env os = (ev call (.isN a) env os).bind fun x os1 => (evs call al env os1).bind fun xs os2 => .ok (x :: xs) os2 := evs_c _ _ _ _ _ rfl
@[simp] theorem evs_x_nN (call : CallT) (a : Ex) (al : List Ex) (env : PEnv) (os : Objs) : evs call ((.nN a) :: al) env os = (ev call (.nN a) env os).bind fun x os1 => (evs call al env os1).bind fun xs os2 => .ok (x :: xs) os2 := evs_c _ _ _ _ _ rfl
@[simp] theorem evs_x_tup (call : CallT) (as : List Ex) (al : List Ex) (env : PEnv) (os : Objs) : evs call ((.tup as) :: al) env os = (ev call (.tup as) env os).bind fun x os1 => (evs call al env os1).bind fun xs os2 => .ok (x :: xs) os2 := evs_c _ _ _ _ _ rfl
@[simp] theorem evs_x_lst (call : CallT) (as : List Ex) (al : List Ex) (env : PEnv) (os : Objs) : evs call ((.lst as) :: al) env os = (ev call (.lst as) env os).bind fun x os1 => (evs call al env os1).bind fun xs os2 => .ok (x :: xs) os2 := evs_c _ _ _ _ _ rfl
@[simp] theorem evs_x_dic0 (call : CallT)  (al : List Ex) (env : PEnv) (os : Objs) : evs call (.dic0 :: al) env os = (ev call .dic0 env os).bind fun x os1 => (evs call al env os1).bind fun xs os2 => .ok (x :: xs) os2 := evs_c _ _ _ _ _ rfl
@[simp] theorem evs_x_dic1 (call : CallT) (k v : Ex) (al : List Ex) (env : PEnv) (os : Objs) : evs call ((.dic1 k v) :: al) env os = (ev call (.dic1 k v) env os).bind fun x os1 => (evs call al env os1).bind fun xs os2 => .ok (x :: xs) os2 := evs_c _ _ _ _ _ rfl
@[simp] theorem evs_x_comp (call : CallT) (t : Tgt) (it : It) (c : Option Ex) (e : Ex) (al : List Ex) (env : PEnv) (os : Objs) : evs call ((.comp t it c e) :: al) env os = (ev call (.comp t it c e) env os).bind fun x os1 => (evs call al env os1).bind fun xs os2 => .ok (x :: xs) os2 := evs_c _ _ _ _ _ rfl
@[simp] theorem evs_x_call (call : CallT) (f : Nat) (as : List Ex) (al : List Ex) (env : PEnv) (os : Objs) : evs call ((.call f as) :: al) env os = (ev call (.call f as) env os).bind fun x os1 => (evs call al env os1).bind fun xs os2 => .ok (x :: xs) os2 := evs_c _ _ _ _ _ rfl
@[simp] theorem evs_x_said (call : CallT) (f : Nat) (e : Ex) (al : List Ex) (env : PEnv) (os : Objs) : evs call ((.said f e) :: al) env os = (ev call (.said f e) env os).bind fun x os1 => (evs call al env os1).bind fun xs os2 => .ok (x :: xs) os2 := evs_c _ _ _ _ _ rfl
@[simp] theorem evs_x_isx (call : CallT) (a : Ex) (cs : List Nat) (al : List Ex) (env : PEnv) (os : Objs) : evs call ((.isx a cs) :: al) env os = (ev call (.isx a cs) env os).bind fun x os1 => (evs call al env os1).bind fun xs os2 => .ok (x :: xs) os2 := evs_c _ _ _ _ _ rfl
@[simp] theorem evs_x_xget (call : CallT) (a : Ex) (k : Str) (al : List Ex) (env : PEnv) (os : Objs) : evs call ((.xget a k) :: al) env os = (ev call (.xget a k) env os).bind fun x os1 => (evs call al env os1).bind fun xs os2 => .ok (x :: xs) os2 := evs_c _ _ _ _ _ rfl
@[simp] theorem evs_x_oget (call : CallT) (a : Ex) (k : Str) (al : List Ex) (env : PEnv) (os : Objs) : evs call ((.oget a k) :: al) env os = (ev call (.oget a k) env os).bind fun x os1 => (evs call al env os1).bind fun xs os2 => .ok (x :: xs) os2 := evs_c _ _ _ _ _ rfl
@[simp] theorem evs_x_begin (call : CallT) (a : Ex) (al : List Ex) (env : PEnv) (os : Objs) : evs call ((.begin a) :: al) env os = (ev call (.begin a) env os).bind fun x os1 => (evs call al env os1).bind fun xs os2 => .ok (x :: xs) os2 := evs_c _ _ _ _ _ rfl
@[simp] theorem fit_small (n : Nat) (h : n ≤ 1000000) : fit n = true := by
  simp only [fit, decide_eq_true_eq]
  rw [sizeLine_eq]; omega
@[simp] theorem d1_isi (t : String) (d : PyData) : d1 (.isi t) d = (isiD t d).map .bool := by cases d <;> rfl
@[simp] theorem isi_int (d : PyData) : isiD "int" d = some (isInt d) := rfl
@[simp] theorem isi_bool (d : PyData) : isiD "bool" d = some (isBool d) := rfl
@[simp] theorem isi_tup (d : PyData) : isiD "tuple" d = some (isTup d) := rfl
@[simp] theorem isi_str (d : PyData) : isiD "str" d = some (isStr d) := rfl
@[simp] theorem d2_eq (a b : PyData) : d2 .eq a b = if eqOk a b || nilT a b || strS a b then some (.bool (PyData.eqv a b)) else none := by cases a <;> rfl
@[simp] theorem d2_ne (a b : PyData) : d2 .ne a b = if eqOk a b || strS a b then some (.bool (!PyData.eqv a b)) else none := by cases a <;> rfl
@[simp] theorem d2_lt (a b : PyData) : d2 .lt a b = (ltD a b).map .bool := by cases a <;> rfl
@[simp] theorem d2_isin (a b : PyData) : d2 .isin a b = (memD a b).map .bool := by cases a <;> rfl
@[simp] theorem d2_nin (a b : PyData) : d2 .nin a b = (memD a b).map fun k => .bool (!k) := by cases a <;> rfl
@[simp] theorem d2_idx (a b : PyData) : d2 .idx a b = idxD a b := by cases a <;> rfl
@[simp] theorem d1_neg (i : Int) : d1 .neg (.int i) = some (.int (-i)) := rfl
@[simp] theorem d1_lenL (xs : List PyData) : d1 .len (.list xs) = some (.int xs.length) := rfl
@[simp] theorem d1_lenT (xs : List PyData) : d1 .len (.tuple xs) = some (.int xs.length) := rfl
@[simp] theorem d1_listL (xs : List PyData) : d1 .list (.list xs) = some (.list xs) := rfl
@[simp] theorem d1_listT (xs : List PyData) : d1 .list (.tuple xs) = some (.list xs) := rfl
@[simp] theorem d1_listD (kvs : List (PyData × PyData)) : d1 .list (.dict kvs) = some (.list (kvs.map (·.1))) := rfl
@[simp] theorem d1_tupL (xs : List PyData) : d1 .tuple (.list xs) = some (.tuple xs) := rfl
@[simp] theorem d1_tupT (xs : List PyData) : d1 .tuple (.tuple xs) = some (.tuple xs) := rfl
@[simp] theorem d1_all (xs : List PyData) : d1 .all (.list xs) = (boolsD xs).map fun bs => .bool (bs.all id) := rfl
@[simp] theorem d1_any (xs : List PyData) : d1 .any (.list xs) = (boolsD xs).map fun bs => .bool (bs.any id) := rfl
@[simp] theorem d1_sum (xs : List PyData) : d1 .sum (.list xs) = (intsD xs).map fun bs => .int bs.sum := rfl
@[simp] theorem d1_sorted (xs : List PyData) : d1 .sorted (.list xs) = if srtOk xs then some (.list (srt xs)) else none := rfl
@[simp] theorem d1_rev (xs : List PyData) : d1 .rev (.tuple xs) = some (.tuple xs.reverse) := rfl
@[simp] theorem d2_addI (a b : Int) : d2 .add (.int a) (.int b) = some (.int (a + b)) := rfl
@[simp] theorem d2_addL (a b : List PyData) : d2 .add (.list a) (.list b) = if fit (a.length + b.length) then some (.list (a ++ b)) else none := rfl
@[simp] theorem d2_addT (a b : List PyData) : d2 .add (.tuple a) (.tuple b) = if fit (a.length + b.length) then some (.tuple (a ++ b)) else none := rfl
@[simp] theorem d2_subI (a b : Int) : d2 .sub (.int a) (.int b) = some (.int (a - b)) := rfl
@[simp] theorem d2_mulI (a b : Int) : d2 .mul (.int a) (.int b) = if mulOk a b then some (.int (a * b)) else none := rfl
@[simp] theorem d2_fdiv (a b : Int) : d2 .fdiv (.int a) (.int b) = if decide (0 < b) && (decide (b < 1073741824) || decide (b.natAbs.log2 < 9000)) then some (.int (a / b)) else none := rfl
@[simp] theorem d2_mod (a b : Int) : d2 .mod (.int a) (.int b) = if decide (0 < b) then some (.int (a % b)) else none := rfl
@[simp] theorem d2_pow (a b : Int) : d2 .pow (.int a) (.int b) = if decide (0 ≤ b) && decide (b ≤ 1000000) && decide (a.natAbs < 2 ^ 64) then some (.int (a ^ b.toNat)) else none := rfl
@[simp] theorem d2_gtI (a b : Int) : d2 .gt (.int a) (.int b) = some (.bool (decide (b < a))) := rfl
@[simp] theorem d2_le (a b : Int) : d2 .le (.int a) (.int b) = some (.bool (decide (a ≤ b))) := rfl
@[simp] theorem d2_ge (a b : Int) : d2 .ge (.int a) (.int b) = some (.bool (decide (b ≤ a))) := rfl
@[simp] theorem d2_min2 (a b : Int) : d2 .min2 (.int a) (.int b) = some (.int (if b < a then b else a)) := rfl
@[simp] theorem d2_max2 (a b : Int) : d2 .max2 (.int a) (.int b) = some (.int (if b > a then b else a)) := rfl
@[simp] theorem isTup_t (xs : List PyData) : isTup (.tuple xs) = true := rfl
@[simp] theorem seqD_l (xs : List PyData) : seqD (.list xs) = some xs := rfl
@[simp] theorem seqD_t (xs : List PyData) : seqD (.tuple xs) = some xs := rfl
@[simp] theorem boolsD_nil : boolsD [] = some [] := rfl
@[simp] theorem boolsD_cons (b : Bool) (r : List PyData) : boolsD (.bool b :: r) = (boolsD r).map (b :: ·) := rfl
@[simp] theorem intsD_nil : intsD [] = some [] := rfl
@[simp] theorem intsD_cons (b : Int) (r : List PyData) : intsD (.int b :: r) = (intsD r).map (b :: ·) := rfl
@[simp] theorem strS_str (a b : Str) : strS (.str a) (.str b) = true := rfl
@[simp] theorem eqv_str (a b : Str) : PyData.eqv (.str a) (.str b) = decide (a = b) := by
  simp only [PyData.eqv]
  by_cases z : a = b <;> simp [z]
@[simp] theorem eqOk_int (i j : Int) : eqOk (.int i) (.int j) = true := rfl
theorem atI_nat {α : Type} (xs : List α) (k : Nat) : L2.atI xs (k : Int) = xs[k]? := by
  unfold L2.atI L2.ixN
  by_cases h : k < xs.length
  · first
      | simp [seqIndex?, h]
      | (simp [h]; omega)
  · first
      | simp [seqIndex?, h]
      | (simp [h]; omega)
@[simp] theorem idxT_nat (xs : List PyData) (k : Nat) : idxD (.tuple xs) (.int (k : Int)) = xs[k]? := atI_nat xs k
@[simp] theorem idxL_nat (xs : List PyData) (k : Nat) : idxD (.list xs) (.int (k : Int)) = xs[k]? := atI_nat xs k
@[simp] theorem idxT_0 (xs : List PyData) : idxD (.tuple xs) (.int 0) = xs[0]? := atI_nat xs 0
@[simp] theorem idxL_0 (xs : List PyData) : idxD (.list xs) (.int 0) = xs[0]? := atI_nat xs 0
@[simp] theorem idxT_1 (xs : List PyData) : idxD (.tuple xs) (.int 1) = xs[1]? := atI_nat xs 1
@[simp] theorem idxL_1 (xs : List PyData) : idxD (.list xs) (.int 1) = xs[1]? := atI_nat xs 1
@[simp] theorem setP_nil (env : PEnv) : setP [] [] env = some env := rfl
@[simp] theorem setP_t (i : Nat) (ts : List (Bool × Nat)) (x : PyData) (vs : List PV) (env : PEnv) : setP ((true, i) :: ts) (.d x :: vs) env = if decide (i < env.length) && ownD x then setP ts vs (env.set i (.m x)) else none := rfl
@[simp] theorem setP_f (i : Nat) (ts : List (Bool × Nat)) (x : PV) (vs : List PV) (env : PEnv) : setP ((false, i) :: ts) (x :: vs) env = if decide (i < env.length) then setP ts vs (env.set i (.v x)) else none := rfl
@[simp] theorem ownL (xs : List PyData) : ownD (.list xs) = true := rfl
@[simp] theorem ownK (xs : List (PyData × PyData)) : ownD (.dict xs) = true := rfl
@[simp] theorem bindT_one (i : Nat) (d : PyData) (env : PEnv) : bindT (.one i) d env = if decide (i < env.length) then some (env.set i (.v (.d d))) else none := by rw [bindT]
@[simp] theorem bindT_tup (ts : List Tgt) (ds : List PyData) (env : PEnv) : bindT (.tup ts) (.tuple ds) env = bindTs ts ds env := by rw [bindT]
@[simp] theorem bindTs_nil (env : PEnv) : bindTs [] [] env = some env := by rw [bindTs]
@[simp] theorem bindTs_cons (t : Tgt) (ts : List Tgt) (d : PyData) (ds : List PyData) (env : PEnv) : bindTs (t :: ts) (d :: ds) env = (bindT t d env).bind fun env' => bindTs ts ds env' := by
  rw [bindTs]
  cases bindT t d env <;> rfl
@[simp] theorem tgtIx_one (i : Nat) : tgtIx (.one i) = [i] := by rw [tgtIx]
@[simp] theorem tgtIx_tup (ts : List Tgt) : tgtIx (.tup ts) = tgtsIx ts := by rw [tgtIx]
@[simp] theorem tgtsIx_nil : tgtsIx [] = [] := by rw [tgtsIx]
@[simp] theorem tgtsIx_cons (t : Tgt) (ts : List Tgt) : tgtsIx (t :: ts) = tgtIx t ++ tgtsIx ts := by rw [tgtsIx]
@[simp] theorem clrL_nil (env : PEnv) : clrL env [] = env := rfl
@[simp] theorem clrL_cons (env : PEnv) (v : Nat) (vs : List Nat) : clrL env (v :: vs) = (clrL env vs).set v .un := rfl
section
variable (call : CallT)
@[simp] theorem ex_frz (i : Nat) (env : PEnv) (os : Objs) : ex call (.frz i) env os = (match env[i]? with
    | some (.m x) => .nx (env.set i (.v (.d x))) os
    | some (.v _) => .nx env os
    | _ => .st) := rfl
@[simp] theorem ex_app (i : Nat) (e : Ex) (env : PEnv) (os : Objs) : ex call (.app i e) env os = (match env[i]? with
    | some (.m (.list xs)) => (ev call e env os).sd fun y os1 => if decide (xs.length < sizeLine) then .nx (env.set i (.m (.list (xs ++ [y])))) os1 else .st
    | _ => .st) := rfl
@[simp] theorem ex_ext (i : Nat) (e : Ex) (env : PEnv) (os : Objs) : ex call (.ext i e) env os = (match env[i]? with
    | some (.m (.list xs)) => (ev call e env os).sd fun y os1 => (match y with
      | .list ys => if fit (xs.length + ys.length) then .nx (env.set i (.m (.list (xs ++ ys)))) os1 else .st
      | _ => .st)
    | _ => .st) := rfl
@[simp] theorem ex_pop (i j : Nat) (env : PEnv) (os : Objs) : ex call (.pop i j) env os = (match env[j]? with
    | some (.m (.list xs)) => (match xs.getLast? with
      | some y => if decide (i < env.length) && decide (i ≠ j) then .nx ((env.set j (.m (.list xs.dropLast))).set i (.v (.d y))) os else .st
      | none => .st)
    | _ => .st) := rfl
@[simp] theorem ex_dput (i : Nat) (k v : Ex) (env : PEnv) (os : Objs) : ex call (.dput i k v) env os = (ev call v env os).sd fun y os1 => (match env[i]? with
    | some (.m (.dict kvs)) => (ev call k env os1).sd fun x os2 => if isKey x && decide (kvs.length < sizeLine) then .nx (env.set i (.m (.dict (putD x y kvs)))) os2 else .st
    | _ => .st) := rfl
@[simp] theorem ex_oput (o : Ex) (k : Str) (e : Ex) (env : PEnv) (os : Objs) : ex call (.oput o k e) env os = (ev call e env os).sd fun y os1 => (match ev call o env os1 with
    | .ok (.o n) os2 => (match oputO os2 n k y with
      | some os3 => .nx env os3
      | none => .st)
    | _ => .st) := rfl
@[simp] theorem ex_nx2 (i : Nat) (o : Ex) (k : Str) (a b : Ex) (env : PEnv) (os : Objs) : ex call (.nx2 i o k a b) env os = (ev call a env os).sd fun x os1 => (ev call b env os1).sd fun y os2 =>
      if decide (i < env.length) then (match ev call o (env.set i (.v (.d x))) os2 with
        | .ok (.o n) os3 => (match oputO os3 n k y with
          | some os4 => .nx (env.set i (.v (.d x))) os4
          | none => .st)
        | _ => .st) else .st := rfl
end
@[simp] theorem small_size (n : Nat) (h : n ≤ 1000000) : n < sizeLine := by rw [sizeLine_eq]; omega
@[simp] theorem dat_if {β : Type} (c : Prop) [Decidable c] (x y : R PV) (f : PyData → Objs → R β) : (if c then x else y).dat f = if c then x.dat f else y.dat f := by split <;> rfl
@[simp] theorem bind_if {α β : Type} (c : Prop) [Decidable c] (x y : R α) (f : α → Objs → R β) : (if c then x else y).bind f = if c then x.bind f else y.bind f := by split <;> rfl
@[simp] theorem bool_if {β : Type} (c : Prop) [Decidable c] (x y : R PV) (f : Bool → Objs → R β) : (if c then x else y).bool f = if c then x.bool f else y.bool f := by split <;> rfl
@[simp] theorem sp_if (c : Prop) [Decidable c] (x y : R PV) (f : PV → Objs → SR) : (if c then x else y).sp f = if c then x.sp f else y.sp f := by split <;> rfl
@[simp] theorem sd_if (c : Prop) [Decidable c] (x y : R PV) (f : PyData → Objs → SR) : (if c then x else y).sd f = if c then x.sd f else y.sd f := by split <;> rfl
@[simp] theorem then_if (c : Prop) [Decidable c] (x y : SR) (f : PEnv → Objs → SR) : (if c then x else y).then f = if c then x.then f else y.then f := by split <;> rfl
@[simp] theorem fin_if (c : Prop) [Decidable c] (x y : SR) : fin (if c then x else y) = if c then fin x else fin y := by split <;> rfl
end FP
end
section
set_option linter.all false
set_option maxRecDepth 100000
set_option maxHeartbeats 2000000
namespace FP
open FC
open PySem
def drawD (cs : List Int) (a l u : Int) : PObj := .dct [(.str "cells", .list (cs.map PyData.int)), (.str "at", .int a), (.str "left", .int l), (.str "used", .int u)]
def DrawAt (os : Objs) (n U : Nat) : Prop := ∃ (cs : List Int) (a l u : Int), os[n]? = some (drawD cs a l u) ∧ cs ≠ [] ∧ 0 ≤ u ∧ u ≤ (U : Int)
@[simp] theorem key_str (a b : Str) : keyEq (.str a) (.str b) = decide (a = b) := rfl
section
variable {os : Objs} {n : Nat} {cs : List Int} {a l u : Int} (h : os[n]? = some (drawD cs a l u))
include h
theorem oget_cells : ogetO os n "cells" = some (.list (cs.map PyData.int)) := by simp only [ogetO, h, drawD]; rfl
theorem oget_at : ogetO os n "at" = some (.int a) := by simp only [ogetO, h, drawD]; rfl
theorem oget_left : ogetO os n "left" = some (.int l) := by simp only [ogetO, h, drawD]; rfl
theorem oget_used : ogetO os n "used" = some (.int u) := by simp only [ogetO, h, drawD]; rfl
theorem oput_at (v : Int) : oputO os n "at" (.int v) = some (os.set n (drawD cs v l u)) := by
  have hz : (4 : Nat) < sizeLine := by rw [sizeLine_eq]; omega
  simp only [oputO, h, drawD]
  rw [if_pos (by simp [hz])]
  rfl
theorem oput_left (v : Int) : oputO os n "left" (.int v) = some (os.set n (drawD cs a v u)) := by
  have hz : (4 : Nat) < sizeLine := by rw [sizeLine_eq]; omega
  simp only [oputO, h, drawD]
  rw [if_pos (by simp [hz])]
  rfl
theorem oput_used (v : Int) : oputO os n "used" (.int v) = some (os.set n (drawD cs a l v)) := by
  have hz : (4 : Nat) < sizeLine := by rw [sizeLine_eq]; omega
  simp only [oputO, h, drawD]
  rw [if_pos (by simp [hz])]
  rfl
end
theorem set_draw {os : Objs} {n : Nat} {o o' : PObj} (h : os[n]? = some o) : (os.set n o')[n]? = some o' := List.getElem?_set_self (List.getElem?_eq_some_iff.mp h).1
def SpNext (g : List PV → Objs → R PV) : Prop := ∀ (n U : Nat) (m : Int) (os : Objs), DrawAt os n U → U < 1000000 → 0 < m → m < 1073741824 → ∃ (r : Nat) (os' : Objs), g [.o n, .d (.int m)] os = .ok (.d (.int (r : Nat))) os' ∧ (r : Int) < m ∧ DrawAt os' n (U + 1) ∧ os'.length = os.length
theorem mod_nat {x m : Int} (h : 0 < m) : ∃ r : Nat, x % m = (r : Int) ∧ (r : Int) < m := by
  refine ⟨(x % m).toNat, ?_, ?_⟩
  · have := Int.emod_nonneg x (show m ≠ 0 by omega); omega
  · have := Int.emod_nonneg x (show m ≠ 0 by omega)
    have := Int.emod_lt_of_pos x h
    omega
theorem mulOk_l {i j : Int} (h1 : -(2 ^ 64) < i) (h2 : i < 2 ^ 64) : mulOk i j = true := by simp [mulOk]; omega
theorem mulOk_r {i j : Int} (h1 : -(2 ^ 64) < j) (h2 : j < 2 ^ 64) : mulOk i j = true := by simp [mulOk]; omega
@[simp] theorem mulOk_31 (j : Int) : mulOk 31 j = true := mulOk_l (by omega) (by omega)
@[simp] theorem mulOk_2 (j : Int) : mulOk 2 j = true := mulOk_l (by omega) (by omega)
@[simp] theorem mulOk_7919 (j : Int) : mulOk 7919 j = true := mulOk_l (by omega) (by omega)
@[simp] theorem mulOk_48271 (j : Int) : mulOk j 48271 = true := mulOk_r (by omega) (by omega)
def nxLoop : S := .seq (.set (.one 4) (.op2 .mod (.op2 .mul (.op2 .add (.op2 .add (.var 4) (.op2 .mul (.cst (.int 31)) (.var 5))) (.cst (.int 7))) (.cst (.int 48271))) (.cst (.int 2147483647)))) (.seq (.set (.one 4) (.op2 .mod (.op2 .mul (.var 4) (.op2 .add (.cst (.int 69621)) (.op2 .mul (.cst (.int 2)) (.op2 .mod (.var 5) (.cst (.int 1000)))))) (.cst (.int 2147483629)))) .skip)
theorem nx_turn (call : CallT) (s0 s1 s2 s3 s5 : Sl) (x k : Int) (os : Objs) : ∃ y : Int, ex call nxLoop [s0, s1, s2, s3, .v (.d (.int x)), .v (.d (.int k))] os = .nx [s0, s1, s2, s3, .v (.d (.int y)), .v (.d (.int k))] os := by
  have h1 := Int.emod_nonneg k (show (1000 : Int) ≠ 0 by omega)
  have h2 := Int.emod_lt_of_pos k (show (0 : Int) < 1000 by omega)
  have hm : ∀ z : Int, mulOk z (69621 + 2 * (k % 1000)) = true := fun z => mulOk_r (by omega) (by omega)
  refine ⟨(x + 31 * k + 7) * 48271 % 2147483647 * (69621 + 2 * (k % 1000)) % 2147483629, ?_⟩
  simp [nxLoop, hm]
theorem law_next_ok (call : CallT) : SpNext (runF call fd_law_next) := by
  intro n U m os ⟨cs, a, l, u, ho, hc, hu, hU⟩ hb hm hm2
  rw [runF_eq (sl := [.v (.o n), .v (.d (.int m))]) rfl rfl]
  have g1 := oget_left ho
  by_cases hl : 0 < l
  · obtain ⟨r, hr, hr2⟩ := mod_nat (x := l) hm
    refine ⟨r, os.set n (drawD cs a (l / m) u), ?_, hr2, ⟨cs, a, l / m, u, set_draw ho, hc, hu, by omega⟩, by simp⟩
    have p1 := oput_left ho (l / m)
    have hm3 : m < 1073741824 := by omega
    simp [fd_law_next, code_law_next, List.replicate, g1, hl, hm, hm3, p1, hr]
  · have g2 := oget_cells ho
    have g3 := oget_at ho
    have hlen : 0 < (cs.length : Int) := by
      cases cs with
      | nil => exact absurd rfl hc
      | cons _ _ => simp only [List.length_cons]; omega
    have hlenN : 0 < cs.length := by omega
    obtain ⟨j, hj, hj2⟩ := mod_nat (x := a) hlen
    obtain ⟨cell, hcell⟩ : ∃ c, cs[j]? = some c := ⟨_, List.getElem?_eq_getElem (by omega)⟩
    have p2 := oput_at ho (a + 1)
    have o2 : (os.set n (drawD cs (a + 1) l u))[n]? = some (drawD cs (a + 1) l u) := set_draw ho
    have g4 := oget_at o2
    have hm3 : m < 1073741824 := by omega
    by_cases hbig : (10 : Int) ^ 18 ≤ cell ∧ a + 1 ≤ (cs.length : Int)
    · obtain ⟨r, hr, hr2⟩ := mod_nat (x := cell) hm
      have p3 := oput_left o2 (cell / m)
      rw [List.set_set] at p3
      refine ⟨r, os.set n (drawD cs (a + 1) (cell / m) u), ?_, hr2, ⟨cs, a + 1, cell / m, u, set_draw ho, hc, hu, by omega⟩, by simp⟩
      have hb1 : (1000000000000000000 : Int) ≤ cell := by have := hbig.1; simpa using this
      have hb2 := hbig.2
      have hn1 : ¬ l > 0 := by omega
      simp [fd_law_next, code_law_next, List.replicate, g1, g2, g3, hl, hm, hm3, hlenN, hj, hcell, p2, g4, hb1, hb2, p3, hr]
    · have o3 : (os.set n (drawD cs (a + 1) l (u + 1)))[n]? = some (drawD cs (a + 1) l (u + 1)) := set_draw ho
      have g5 := oget_used o2
      have g6 := oget_used o3
      have g7 := oget_at o3
      have p4 := oput_used o2 (u + 1)
      rw [List.set_set] at p4
      have hmul : mulOk (7919 * (u + 1)) (u + 1) = true := mulOk_r (by omega) (by omega)
      obtain ⟨y1, h1⟩ := nx_turn call (.v (.o n)) (.v (.d (.int m))) (.v (.d (.int cell))) (.v (.d (.list (cs.map PyData.int)))) .un (cell % 1000000007 + 7919 * (u + 1) * (u + 1)) (a + 1) (os.set n (drawD cs (a + 1) l (u + 1)))
      obtain ⟨y2, h2⟩ := nx_turn call (.v (.o n)) (.v (.d (.int m))) (.v (.d (.int cell))) (.v (.d (.list (cs.map PyData.int)))) .un y1 (u + 1) (os.set n (drawD cs (a + 1) l (u + 1)))
      obtain ⟨r, hr, hr2⟩ := mod_nat (x := y2 / 7) hm
      refine ⟨r, _, ?_, hr2, ⟨cs, a + 1, l, u + 1, o3, hc, by omega, by omega⟩, by simp⟩
      have hcond : ∀ os1, ogetO os1 n "at" = some (.int (a + 1)) → ev call (.an (.op2 .ge (.var 2) (.op2 .pow (.cst (.int 10)) (.cst (.int 18)))) (.op2 .le (.oget (.var 0) "at") (.op1 .len (.var 3)))) [.v (.o n), .v (.d (.int m)), .v (.d (.int cell)), .v (.d (.list (cs.map PyData.int))), .un, .un] os1 = .ok (.d (.bool false)) os1 := fun os1 hg => by
        by_cases hb1 : (1000000000000000000 : Int) ≤ cell
        · have hb2 : ¬ a + 1 ≤ (cs.length : Int) := fun z => hbig ⟨by simpa using hb1, z⟩
          simp [hb1, hb2, hg]
        · simp [hb1]
      have e2 : fd_law_next.body = .seq (.ife (.op2 .gt (.oget (.var 0) "left") (.cst (.int 0))) (.seq (.nx2 2 (.var 0) "left" (.oget (.var 0) "left") (.op2 .fdiv (.oget (.var 0) "left") (.var 1))) (.seq (.ret (.op2 .mod (.var 2) (.var 1))) (.skip))) (.skip)) (.seq (.set (.one 3) (.oget (.var 0) "cells")) (.seq (.set (.one 2) (.op2 .idx (.var 3) (.op2 .mod (.oget (.var 0) "at") (.op1 .len (.var 3))))) (.seq (.oput (.var 0) "at" (.op2 .add (.oget (.var 0) "at") (.cst (.int 1)))) (.seq (.ife (.an (.op2 .ge (.var 2) (.op2 .pow (.cst (.int 10)) (.cst (.int 18)))) (.op2 .le (.oget (.var 0) "at") (.op1 .len (.var 3)))) (.seq (.oput (.var 0) "left" (.op2 .fdiv (.var 2) (.var 1))) (.seq (.ret (.op2 .mod (.var 2) (.var 1))) (.skip))) (.skip)) (.seq (.oput (.var 0) "used" (.op2 .add (.oget (.var 0) "used") (.cst (.int 1)))) (.seq (.set (.one 4) (.op2 .add (.op2 .mod (.var 2) (.cst (.int 1000000007))) (.op2 .mul (.op2 .mul (.cst (.int 7919)) (.oget (.var 0) "used")) (.oget (.var 0) "used")))) (.seq (.fr (.one 5) (.seq (.tup [(.oget (.var 0) "at"), (.oget (.var 0) "used")])) nxLoop) (.seq (.ret (.op2 .mod (.op2 .fdiv (.var 4) (.cst (.int 7))) (.var 1))) (.skip))))))))) := rfl
      rw [e2]
      simp [fd_law_next, List.replicate, g1, g2, g3, hl, hm, hm3, hlenN, hj, hcell, p2, g4, g5, g6, g7, p4, hmul, h1, h2, hr, hcond, -ev_an]
end FP
end
section
set_option linter.all false
set_option maxRecDepth 100000
set_option maxHeartbeats 1000000
namespace FP
open FC
open PySem
def leE (a b : Ed) : Bool := decide (a.1 < b.1 ∨ (a.1 = b.1 ∧ a.2 ≤ b.2))
structure Drw (es : List Ed) : Prop where
  len : es.length ≤ 16
  edge : ∀ e ∈ es, 0 ≤ e.1 ∧ e.1 ≤ e.2 ∧ e.2 ≤ 16
  asc : es.Pairwise (fun a b => leE a b = true)
  hang : ∀ e ∈ es, Reach es 0 e.1
theorem Drw.sh {es : List Ed} (h : ∀ e ∈ es, 0 ≤ e.1 ∧ e.1 ≤ e.2 ∧ e.2 ≤ 16) (hl : es.length ≤ 16) : Sh 2 4051 (esD es) := by
  refine (Sh.seq (xs := es.map eD) (k := 16) (n := 1) (m := 251) (fun x hx => ?_) (by simpa using hl)).2
  obtain ⟨e, he, rfl⟩ := List.mem_map.mp hx
  have := h e he
  exact Sh.eD (by omega) (by omega)
end FP
end
section
set_option linter.all false
set_option maxRecDepth 100000
set_option maxHeartbeats 1000000
namespace FP
open FC
open PySem
def kvT (k : Int) : PyData × PyData := (.int k, .bool true)
def setD (ks : List Int) : PyData := .dict (ks.map kvT)
@[simp] theorem isKey_int (i : Int) : isKey (.int i) = true := rfl
theorem keyIn_set (k : Int) (ks : List Int) : keyIn (.int k) (ks.map kvT) = decide (k ∈ ks) := by
  induction ks with
  | nil => rfl
  | cons x ks ih =>
    simp only [keyIn, List.map_cons, List.any_cons] at ih ⊢
    rw [ih]
    by_cases h : x = k
    · simp [kvT, keyEq, h]
    · have h' : ¬ k = x := fun z => h z.symm
      simp [kvT, keyEq, h, h']
@[simp] theorem mem_set (k : Int) (ks : List Int) : memD (.int k) (setD ks) = some (decide (k ∈ ks)) := by
  simp [memD, setD, keyIn_set]
theorem inD_ints (x : Int) (ks : List Int) : inD (.int x) (ks.map PyData.int) = some (decide (x ∈ ks)) := by
  unfold inD
  have h1 : (ks.map PyData.int).all SeqAt.shaped = true := by simp
  rw [h1]
  simp only [shaped_int, Bool.and_self, if_true]
  congr 1
  induction ks with
  | nil => rfl
  | cons y ks ih =>
    simp only [List.map_cons, List.any_cons, eqv_int] at ih ⊢
    rw [ih (by simp)]
    by_cases h : y = x
    · simp [h]
    · have h' : ¬ x = y := fun z => h z.symm
      simp [h, h']
@[simp] theorem mem_two (x a b : Int) : memD (.int x) (.tuple [.int a, .int b]) = some (decide (x = a ∨ x = b)) := by
  have := inD_ints x [a, b]
  simpa [memD] using this
@[simp] theorem mem_ints (x : Int) (ks : List Int) : memD (.int x) (.list (ks.map PyData.int)) = some (decide (x ∈ ks)) := by
  simp [memD, inD_ints]
@[simp] theorem eqOk_nil (ws : List Int) : eqOk (.list (ws.map PyData.int)) (.list []) = true := by
  simp only [eqOk, shaped_ints, Bool.true_and]; rfl
@[simp] theorem eqv_nil (xs : List PyData) : PyData.eqv (.list xs) (.list []) = xs.isEmpty := by
  cases xs <;> simp [PyData.eqv, PyData.eqvAll]
def SpHpL (g : List PV → Objs → R PV) : Prop := ∀ (xd : PyData) (es : List Ed) (r : Int) (os : Objs), seqD xd = some (es.map eD) → es.length ≤ 900 → ∃ ks : List Int, g [.d xd, .d (.int r)] os = .ok (.d (setD ks)) os ∧ ks.Nodup ∧ (∀ p, p ∈ ks ↔ Reach es r p) ∧ ks.length ≤ 1 + es.length
def SpHp (g : List PV → Objs → R PV) : Prop := ∀ (es : List Ed) (r : Int) (os : Objs), es.length ≤ 900 → ∃ ks : List Int, g [.d (esD es), .d (.int r)] os = .ok (.d (setD ks)) os ∧ ks.Nodup ∧ (∀ p, p ∈ ks ↔ Reach es r p) ∧ ks.length ≤ 1 + es.length
theorem SpHpL.tup {g : List PV → Objs → R PV} (h : SpHpL g) : SpHp g := fun es r os hes => h (esD es) es r os rfl hes
end FP
end
section
set_option linter.all false
set_option maxRecDepth 100000
set_option maxHeartbeats 2000000
namespace FP
open FC
open PySem
def SpPick (g : List PV → Objs → R PV) : Prop := ∀ (n U : Nat) (d : PyData) (xs : List PyData) (os : Objs), seqD d = some xs → xs ≠ [] → xs.length < 1000000 → DrawAt os n U → U < 1000000 → ∃ (x : PyData) (os' : Objs), x ∈ xs ∧ g [.o n, .d d] os = .ok (.d x) os' ∧ DrawAt os' n (U + 1) ∧ os'.length = os.length
theorem law_begin_ok (call : CallT) (ns : List Int) (os : Objs) (h : ns.length ≤ 63) : runF call fd_law_begin [.s ns] os = .ok (.o os.length) (os ++ [drawO ns]) := by
  rw [runF_eq (sl := [.v (.s ns)]) rfl rfl]
  simp [fd_law_begin, code_law_begin, h]
theorem draw_start (ns : List Int) (os : Objs) : DrawAt (os ++ [drawO ns]) os.length 0 := by
  refine ⟨ns ++ [0], 0, 0, 0, ?_, by simp, by omega, by omega⟩
  simp [drawO, drawD]
structure TwI (known : List Int) (edges : List Ed) : Prop where
  zero : 0 ∈ known
  rng : ∀ p ∈ known, 0 ≤ p ∧ p ≤ 16
  rch : ∀ p ∈ known, Reach edges 0 p
  ends : ∀ e ∈ edges, e.1 ∈ known ∧ e.2 ∈ known ∧ e.1 ≤ e.2
theorem TwI.step {known : List Int} {edges : List Ed} {a t : Int} (h : TwI known edges) (ha : a ∈ known) (ht : 0 ≤ t ∧ t ≤ 16) :
    TwI (if t ∈ known then known else known ++ [t]) (edges ++ [(if t < a then t else a, if t > a then t else a)]) := by
  have hk : ∀ p ∈ known, p ∈ (if t ∈ known then known else known ++ [t]) := fun p hp => by split <;> simp [hp]
  have htk : t ∈ (if t ∈ known then known else known ++ [t]) := by split <;> simp_all
  have hin : (if t < a then t else a, if t > a then t else a) ∈ edges ++ [(if t < a then t else a, if t > a then t else a)] := by simp
  have hra : Reach (edges ++ [(if t < a then t else a, if t > a then t else a)]) 0 a := (h.rch a ha).mono fun e he => by simp [he]
  have hrt : Reach (edges ++ [(if t < a then t else a, if t > a then t else a)]) 0 t := by
    by_cases h1 : t < a
    · rw [if_pos h1, if_neg (by omega)] at hin hra ⊢
      exact .bwd hra hin
    · by_cases h2 : t > a
      · rw [if_neg h1, if_pos h2] at hin hra ⊢
        exact .fwd hra hin
      · have : t = a := by omega
        rw [this] at hra ⊢
        exact hra
  refine ⟨hk 0 h.zero, fun p hp => ?_, fun p hp => ?_, fun e he => ?_⟩
  · split at hp
    · exact h.rng p hp
    · rcases List.mem_append.mp hp with hp | hp
      · exact h.rng p hp
      · simp at hp; rw [hp]; exact ht
  · split at hp
    · exact (h.rch p hp).mono fun e he => by simp [he]
    · rcases List.mem_append.mp hp with hp | hp
      · exact (h.rch p hp).mono fun e he => by simp [he]
      · simp at hp; rw [hp]; exact hrt
  · rcases List.mem_append.mp he with he | he
    · have := h.ends e he
      exact ⟨hk _ this.1, hk _ this.2.1, this.2.2⟩
    · simp only [List.mem_singleton] at he
      subst he
      dsimp only
      have k1 := hk a ha
      generalize (if t ∈ known then known else known ++ [t]) = kk at *
      refine ⟨?_, ?_, ?_⟩
      · split
        · exact htk
        · exact k1
      · split
        · exact htk
        · exact k1
      · split <;> split <;> omega
theorem DrawAt.mono {os : Objs} {n U V : Nat} (h : DrawAt os n U) (hv : U ≤ V) : DrawAt os n V := let ⟨c, a', l, u, z1, z2, z3, z4⟩ := h; ⟨c, a', l, u, z1, z2, z3, by omega⟩
end FP
end
section
set_option linter.all false
set_option maxRecDepth 100000
set_option maxHeartbeats 1000000
namespace FP
open FC
open PySem
def edgeB (a b : Int) : Bool := decide (0 ≤ a) && decide (a ≤ 16) && (decide (0 ≤ b) && decide (b ≤ 16)) && decide (a ≤ b)
end FP
end
section
set_option linter.all false
set_option maxRecDepth 100000
set_option maxHeartbeats 1000000
namespace FP
open FC
open PySem
open Classical in
noncomputable def hung (es : List Ed) : List Ed := es.filter fun e => decide (Reach es 0 e.1)
end FP
end
section
set_option linter.all false
set_option maxRecDepth 100000
set_option maxHeartbeats 2000000
namespace FP
open FC
open PySem
end FP
end
section
set_option linter.all false
set_option maxRecDepth 100000
set_option maxHeartbeats 1000000
namespace FP
open FC
open PySem
theorem nxt_then (o : Option PEnv) (f : PEnv → SR) (g : PEnv → Objs → SR) : nxt o (fun env' => (f env').then g) = (nxt o f).then g := by cases o <;> rfl
theorem forL_ex {α : Type} {t : Tgt} {body : PEnv → Objs → SR} {D : α → PyData} (P : List α → PEnv → Objs → Prop)
    (h : ∀ x r env os, P (x :: r) env os → ∃ env' os', nxt (bindT t (D x) env) (fun env1 => body env1 os) = .nx env' os' ∧ P r env' os') :
    ∀ {xs : List α} {env : PEnv} {os : Objs}, P xs env os → ∃ env' os', forL t body (xs.map D) env os = .nx env' os' ∧ P [] env' os'
  | [], env, os, hi => ⟨env, os, rfl, hi⟩
  | x :: xs, env, os, hi => by
    obtain ⟨env1, os1, h1, h2⟩ := h x xs env os hi
    obtain ⟨env2, os2, h3, h4⟩ := forL_ex P h h2
    refine ⟨env2, os2, ?_, h4⟩
    rw [List.map_cons, forL_cons, nxt_then, h1, then_nx, h3]
section
variable {call : CallT} {env : PEnv} {os os1 os2 : Objs}
theorem var_ok {i : Nat} {x : PV} (h : env[i]? = some (.v x)) : ev call (.var i) env os = .ok x os := by rw [ev_var, h]
theorem call_ok {f : Nat} {as : List Ex} {vs : List PV} {r : R PV} (ha : evs call as env os = .ok vs os1) (h : call f vs os1 = r) : ev call (.call f as) env os = r := by rw [ev_call, ha, bind_ok, h]
theorem evs_ok {a : Ex} {as : List Ex} {x : PV} {xs : List PV} (hn : notStar a = true) (ha : ev call a env os = .ok x os1) (hs : evs call as env os1 = .ok xs os2) : evs call (a :: as) env os = .ok (x :: xs) os2 := by rw [evs_c _ _ _ _ _ hn, ha, bind_ok, hs, bind_ok]
theorem evs_none : evs call [] env os = .ok [] os := evs_nil ..
theorem set_ok {i : Nat} {e : Ex} {x : PV} (he : ev call e env os = .ok x os1) (hi : i < env.length) : ex call (.set (.one i) e) env os = .nx (env.set i (.v x)) os1 := by rw [ex_set1, he, sp_ok, if_pos (decide_eq_true hi)]
theorem seq_ok {a b : S} {env1 : PEnv} {r : SR} (ha : ex call a env os = .nx env1 os1) (hb : ex call b env1 os1 = r) : ex call (.seq a b) env os = r := by rw [ex_seq, ha, then_nx, hb]
theorem ret_ok {e : Ex} {x : PV} (he : ev call e env os = .ok x os1) (r : S) : ex call (.seq (.ret e) r) env os = .rt x os1 := by rw [ex_seq, ex_ret, he]; rfl
theorem fr_ok {t : Tgt} {it : It} {b : S} {xs : List PyData} {r : SR} (hi : evI call it env os = .ok xs os1) (h : forL t (ex call b) xs env os1 = r) : ex call (.fr t it b) env os = r := by rw [ex_fr, hi, its_ok, h]
end
end FP
end
section
set_option linter.all false
set_option maxRecDepth 100000
set_option maxHeartbeats 1000000
namespace FP
open FC
open PySem
def ltE (a b : Ed) : Bool := if b.1 = a.1 then decide (a.2 < b.2) else decide (a.1 < b.1)
def edgeOf (x : PyData) : Option Ed := match x with
  | .tuple [.int a, .int b] => if edgeB a b then some (a, b) else none
  | _ => none
def lessP (e : Ed) : Option Ed → Bool
  | some p => ltE e p
  | none => false
def scanE : Option Ed → Nat → List PyData → Option Nat
  | _, _, [] => none
  | pv, k, x :: r => match edgeOf x with
    | none => some k
    | some e => if lessP e pv then some k else scanE (some e) (k + 1) r
def esOf (xs : List PyData) : List Ed := xs.filterMap edgeOf
open Classical in
noncomputable def faultOf (x : PyData) : List PyData := match x with
  | .tuple xs => if 16 < xs.length then [.none] else match scanE none 0 xs with
    | some k => [.int (k : Nat)]
    | none => if hung (esOf xs) = esOf xs then [] else [.str "ground"]
  | _ => [.none]
theorem fault_shape (x : PyData) : faultOf x = [] ∨ faultOf x = [.none] ∨ (∃ k : Nat, faultOf x = [.int (k : Nat)]) ∨ faultOf x = [.str "ground"] := by
  unfold faultOf
  split
  · split
    · exact .inr (.inl rfl)
    · split
      · exact .inr (.inr (.inl ⟨_, rfl⟩))
      · split
        · exact .inl rfl
        · exact .inr (.inr (.inr rfl))
  · exact .inr (.inl rfl)
theorem ground_ok : eqOk (.list [.str "ground"]) (.list []) = true := by decide +kernel
@[simp] theorem fault_ok (x : PyData) : eqOk (.list (faultOf x)) (.list []) = true := by
  rcases fault_shape x with h | h | ⟨k, h⟩ | h <;> rw [h]
  · rfl
  · rfl
  · rfl
  · exact ground_ok
noncomputable def badsOf (xs : List PyData) : List PyData := xs.zipIdx.filterMap fun p => if (faultOf p.1).isEmpty then none else some (.int (p.2 : Nat))
noncomputable def coFault (x : PyData) : List PyData := match x with
  | .tuple xs => if 1 ≤ xs.length ∧ xs.length ≤ 4 then (badsOf xs).take 1 else [.none]
  | _ => [.none]
end FP
end
section
set_option linter.all false
set_option maxRecDepth 100000
set_option maxHeartbeats 1000000
namespace FP
open FC
open PySem
end FP
end
section
set_option linter.all false
set_option maxRecDepth 100000
set_option maxHeartbeats 2000000
namespace FP
open FC
open PySem
mutual
/-- all its whole numbers are less than 2 ^ K -/
def intsB (K : Nat) : PyData → Bool
  | .none => true
  | .bool _ => true
  | .int i => decide (i.natAbs < 2 ^ K)
  | .str x => PyData.strOk x
  | .list xs => intsBs K xs
  | .tuple xs => intsBs K xs
  | .dict kvs => intsBk K kvs
def intsBs (K : Nat) : List PyData → Bool
  | [] => true
  | x :: xs => intsB K x && intsBs K xs
def intsBk (K : Nat) : List (PyData × PyData) → Bool
  | [] => true
  | (k, v) :: r => intsB K k && intsB K v && intsBk K r
end
theorem pow_small {i K : Nat} (hK : K ≤ 1900) (h : i < 2 ^ K) : i.log2 < 1920 := by
  rcases Nat.eq_zero_or_pos i with z | z
  · rw [z]; decide
  · have := (Nat.log2_lt (by omega)).mpr h
    omega
mutual
theorem showable_of {K : Nat} (hK : K ≤ 1900) : ∀ d : PyData, intsB K d = true → d.showable = true
  | .none, _ => rfl
  | .bool _, _ => rfl
  | .int i, h => by
    simp only [intsB, decide_eq_true_eq] at h
    simp only [PyData.showable, decide_eq_true_eq]
    exact pow_small hK h
  | .str _, _ => rfl
  | .list xs, h => by simp only [PyData.showable]; exact showables_of hK xs (by simpa [intsB] using h)
  | .tuple xs, h => by simp only [PyData.showable]; exact showables_of hK xs (by simpa [intsB] using h)
  | .dict kvs, h => by simp only [PyData.showable]; exact showablek_of hK kvs (by simpa [intsB] using h)
theorem showables_of {K : Nat} (hK : K ≤ 1900) : ∀ d : List PyData, intsBs K d = true → PyData.showableAll d = true
  | [], _ => rfl
  | x :: xs, h => by
    simp only [intsBs, Bool.and_eq_true] at h
    simp only [PyData.showableAll, Bool.and_eq_true]
    exact ⟨showable_of hK x h.1, showables_of hK xs h.2⟩
theorem showablek_of {K : Nat} (hK : K ≤ 1900) : ∀ d : List (PyData × PyData), intsBk K d = true → PyData.showableKv d = true
  | [], _ => rfl
  | (k, v) :: xs, h => by
    simp only [intsBk, Bool.and_eq_true] at h
    simp only [PyData.showableKv, Bool.and_eq_true]
    exact ⟨⟨showable_of hK k h.1.1, showable_of hK v h.1.2⟩, showablek_of hK xs h.2⟩
end
mutual
theorem intsB_mono {K L : Nat} (hK : K ≤ L) : ∀ d : PyData, intsB K d = true → intsB L d = true
  | .none, _ => rfl
  | .bool _, _ => rfl
  | .int i, h => by
    simp only [intsB, decide_eq_true_eq] at h ⊢
    exact Nat.lt_of_lt_of_le h (Nat.pow_le_pow_right (by omega) hK)
  | .str _, h => by simpa [intsB] using h
  | .list xs, h => by simp only [intsB] at h ⊢; exact intsBs_mono hK xs h
  | .tuple xs, h => by simp only [intsB] at h ⊢; exact intsBs_mono hK xs h
  | .dict kvs, h => by simp only [intsB] at h ⊢; exact intsBk_mono hK kvs h
theorem intsBs_mono {K L : Nat} (hK : K ≤ L) : ∀ d : List PyData, intsBs K d = true → intsBs L d = true
  | [], _ => rfl
  | x :: xs, h => by
    simp only [intsBs, Bool.and_eq_true] at h ⊢
    exact ⟨intsB_mono hK x h.1, intsBs_mono hK xs h.2⟩
theorem intsBk_mono {K L : Nat} (hK : K ≤ L) : ∀ d : List (PyData × PyData), intsBk K d = true → intsBk L d = true
  | [], _ => rfl
  | (k, v) :: xs, h => by
    simp only [intsBk, Bool.and_eq_true] at h ⊢
    exact ⟨⟨intsB_mono hK k h.1.1, intsB_mono hK v h.1.2⟩, intsBk_mono hK xs h.2⟩
end
theorem intsBs_all {K : Nat} : ∀ {xs : List PyData}, intsBs K xs = xs.all (intsB K)
  | [] => rfl
  | x :: xs => by simp [intsBs, intsBs_all (xs := xs)]
structure Gz (K n m : Nat) (d : PyData) : Prop where
  ok : intsB K d = true
  dp : d.depth ≤ n
  bg : big d ≤ m
theorem Gz.sh {K n m : Nat} {d : PyData} (h : Gz K n m d) (hK : K ≤ 1900) : Sh n m d := ⟨showable_of hK d h.ok, h.dp, h.bg⟩
theorem Gz.mono {K n m K' n' m' : Nat} {d : PyData} (h : Gz K n m d) (h0 : K ≤ K') (h1 : n ≤ n') (h2 : m ≤ m') : Gz K' n' m' d := ⟨intsB_mono h0 d h.ok, Nat.le_trans h.dp h1, Nat.le_trans h.bg h2⟩
structure Gs (K n m : Nat) (xs : List PyData) : Prop where
  ok : ∀ x ∈ xs, intsB K x = true
  dp : ∀ x ∈ xs, x.depth ≤ n
  bg : bigs xs ≤ m
theorem Gz.tup {K n m : Nat} {xs : List PyData} (h : Gz K n m (.tuple xs)) : Gs K (n - 1) (m - 3) xs ∧ 1 ≤ n ∧ 3 ≤ m := by
  have h1 := h.dp
  have h2 := h.bg
  simp only [PyData.depth, big] at h1 h2
  refine ⟨⟨fun x hx => ?_, fun x hx => ?_, by omega⟩, by omega, by omega⟩
  · have := h.ok
    simp only [intsB, intsBs_all, List.all_eq_true] at this
    exact this x hx
  · have := depth_mem hx
    omega
theorem Gs.tup {K n m : Nat} {xs : List PyData} (h : Gs K n m xs) : Gz K (n + 1) (m + 3) (.tuple xs) := by
  refine ⟨?_, ?_, ?_⟩
  · simp only [intsB, intsBs_all, List.all_eq_true]; exact h.ok
  · simp only [PyData.depth]; have := depth_all h.dp; omega
  · simp only [big]; have := h.bg; omega
theorem Gs.lst {K n m : Nat} {xs : List PyData} (h : Gs K n m xs) : Gz K (n + 1) (m + 3) (.list xs) := by
  refine ⟨?_, ?_, ?_⟩
  · simp only [intsB, intsBs_all, List.all_eq_true]; exact h.ok
  · simp only [PyData.depth]; have := depth_all h.dp; omega
  · simp only [big]; have := h.bg; omega
theorem Gs.app {K n m m' : Nat} {xs ys : List PyData} (h : Gs K n m xs) (h' : Gs K n m' ys) : Gs K n (m + m') (xs ++ ys) := by
  refine ⟨fun x hx => ?_, fun x hx => ?_, ?_⟩
  · rcases List.mem_append.mp hx with hx | hx
    · exact h.ok x hx
    · exact h'.ok x hx
  · rcases List.mem_append.mp hx with hx | hx
    · exact h.dp x hx
    · exact h'.dp x hx
  · rw [bigs_append]; have := h.bg; have := h'.bg; omega
theorem Gs.mono {K n m K' n' m' : Nat} {xs : List PyData} (h : Gs K n m xs) (h0 : K ≤ K') (h1 : n ≤ n') (h2 : m ≤ m') : Gs K' n' m' xs := ⟨fun x hx => intsB_mono h0 x (h.ok x hx), fun x hx => Nat.le_trans (h.dp x hx) h1, Nat.le_trans h.bg h2⟩
theorem Gs.one {K n m : Nat} {x : PyData} (h : Gz K n m x) : Gs K n (m + 2) [x] := ⟨fun y hy => by simp at hy; rw [hy]; exact h.ok, fun y hy => by simp at hy; rw [hy]; exact h.dp, by simp only [bigs]; have := h.bg; omega⟩
theorem Gs.take {K n m : Nat} {xs : List PyData} (h : Gs K n m xs) (k : Nat) : Gs K n (bigs (xs.take k)) (xs.take k) ∧ Gs K n (bigs (xs.drop k)) (xs.drop k) :=
  ⟨⟨fun x hx => h.ok x (List.mem_of_mem_take hx), fun x hx => h.dp x (List.mem_of_mem_take hx), Nat.le_refl _⟩, ⟨fun x hx => h.ok x (List.mem_of_mem_drop hx), fun x hx => h.dp x (List.mem_of_mem_drop hx), Nat.le_refl _⟩⟩
def SpOdd (g : List PV → Objs → R PV) : Prop := ∀ (n U : Nat) (os : Objs), DrawAt os n U → U < 1000000 → ∃ (x : PyData) (os' : Objs), g [.o n] os = .ok (.d x) os' ∧ Gz 120 2 400 x ∧ DrawAt os' n (U + 1) ∧ os'.length = os.length
end FP
end
section
set_option linter.all false
set_option maxRecDepth 100000
set_option maxHeartbeats 2000000
namespace FP
open FC
open PySem
section
variable {F : Nat → Option FnD} {iN iP iO iB : Nat} (hF : F iB = some (fd_k02_law_bent iN iP iO iB)) (hN : ∀ m, SpNext (callN F (m + 3) iN)) (hP : ∀ m, SpPick (callN F (m + 3) iP)) (hO : ∀ m, SpOdd (callN F (m + 3) iO))
include hF hN hP hO
end
end FP
end
section
set_option linter.all false
set_option maxRecDepth 100000
set_option maxHeartbeats 2000000
namespace FP
open FC
open PySem
theorem co_shape (x : PyData) : coFault x = [] ∨ coFault x = [.none] ∨ ∃ k : Nat, coFault x = [.int (k : Nat)] := by
  unfold coFault
  split
  · rename_i xs
    split
    · cases hb : badsOf xs with
      | nil => exact .inl rfl
      | cons y ys =>
        have : y ∈ badsOf xs := by rw [hb]; simp
        unfold badsOf at this
        obtain ⟨p, _, hp⟩ := List.mem_filterMap.mp this
        split at hp
        · cases hp
        · cases hp
          exact .inr (.inr ⟨_, rfl⟩)
    · exact .inr (.inl rfl)
  · exact .inr (.inl rfl)
@[simp] theorem co_ok (x : PyData) : eqOk (.list (coFault x)) (.list []) = true := by
  rcases co_shape x with h | h | ⟨k, h⟩ <;> rw [h] <;> rfl
theorem Sh.str {z : Str} {m : Nat} (h : (reprText z).length ≤ m) : Sh 0 m (.str z) := ⟨rfl, Nat.le_refl _, by simpa [big] using h⟩
theorem Sh.one {n m : Nat} {a : PyData} (h1 : Sh n m a) : Sh (n + 1) (m + 5) (.list [a]) := by
  have := (Sh.seq (xs := [a]) (k := 1) (fun x hx => by simp at hx; rw [hx]; exact h1) (by simp)).1
  exact this.mono (Nat.le_refl _) (by omega)
end FP
end
section
set_option linter.all false
set_option maxRecDepth 100000
set_option maxHeartbeats 1000000
namespace FP
open FC
open PySem
def putK (ks : List Int) (k : Int) : List Int := if k ∈ ks then ks else ks ++ [k]
end FP
end
section
set_option linter.all false
set_option maxRecDepth 100000
set_option maxHeartbeats 1000000
namespace FP
open FC
open PySem
end FP
end
section
set_option linter.all false
set_option maxRecDepth 100000
set_option maxHeartbeats 1000000
namespace FP
open FC
open PySem
end FP
end
section
set_option linter.all false
set_option maxRecDepth 100000
namespace FP
open FC
open PySem
end FP
end
section
set_option linter.all false
set_option maxRecDepth 100000
set_option maxHeartbeats 1000000
namespace FP
open FC
open PySem
end FP
end
section
set_option linter.all false
set_option maxRecDepth 100000
set_option maxHeartbeats 1000000
namespace FP
open FC
open PySem
theorem ne_same {call : CallT} {a b : Ex} {env : PEnv} {os : Objs} {x : PyData} {n m : Nat} (ha : ev call a env os = .ok (.d x) os) (hb : ev call b env os = .ok (.d x) os) (hs : Sh n m x) (h1 : n ≤ 60) (h2 : m ≤ 16000000) : ev call (.op2 .ne (.op1 .repr a) (.op1 .repr b)) env os = .ok (.d (.bool false)) os := by
  have hr := hs.repr h1 h2
  simp only [ev_op2, ev_op1, ha, hb, dat_ok, hr, opt_some, bind_ok, d2_ne, strS_str, Bool.or_true, if_true, eqv_str, decide_true, Bool.not_true]
theorem ife_no {call : CallT} {c : Ex} {a : S} {env : PEnv} {os : Objs} (h : ev call c env os = .ok (.d (.bool false)) os) : ex call (.ife c a .skip) env os = .nx env os := by
  rw [ex_ife, h, cnd_ok, if_neg (by simp)]
  rfl
@[simp] theorem d2_mulL2 (x y : PyData) : d2 .mul (.list [x, y]) (.int 2) = some (.list [x, y, x, y]) := by
  first | rfl | (simp [d2]; done) | (simp [d2, List.replicate]; done) | decide
@[simp] theorem d2_mulL1 (x : PyData) : d2 .mul (.list [x]) (.int 2) = some (.list [x, x]) := by
  first | rfl | (simp [d2]; done) | (simp [d2, List.replicate]; done) | decide
section
variable {iP iL iB iF jB jF jM : Nat}
end
end FP
end
section
set_option Elab.async false
set_option linter.all false
set_option maxRecDepth 100000
set_option maxHeartbeats 4000000
namespace Rk01
open PySem FC FP
theorem F0 : row.F 0 = some r0.d := rfl
theorem F1 : row.F 1 = some r1.d := rfl
theorem F2 : row.F 2 = some r2.d := rfl
theorem F3 : row.F 3 = some r3.d := rfl
theorem F4 : row.F 4 = some r4.d := rfl
theorem F5 : row.F 5 = some r5.d := rfl
section
variable (n : Nat)
theorem s1 : SpNext (callN row.F (n + 1) 1) := by rw [callN_at F1]; exact law_next_ok _
theorem s2 : SpPick (callN row.F (n + 2) 2) := by
  rw [callN_at F2]
  intro m U d xs os hd hne hl hD hU
  show ∃ (x : PyData) (os' : Objs), x ∈ xs ∧ runF (callN row.F (n + 1)) (fd_k01_law_pick 1) [.o m, .d d] os = .ok (.d x) os' ∧ _
  rw [runF_eq (sl := [.v (.o m), .v (.d d)]) rfl rfl]
  have hpos : (0 : Int) < (xs.length : Int) := by
    cases xs with
    | nil => exact absurd rfl hne
    | cons _ _ => simp only [List.length_cons]; omega
  obtain ⟨r, os', h1, h2, h3, h4⟩ := s1 n m U xs.length os hD hU hpos (by omega)
  have hr : r < xs.length := by omega
  refine ⟨xs[r], os', List.getElem_mem hr, ?_, h3, h4⟩
  have hg : xs[r]? = some xs[r] := List.getElem?_eq_getElem hr
  cases d <;> simp only [seqD] at hd <;> try contradiction
  · cases hd
    simp [fd_k01_law_pick, code_k01_law_pick, h1, hg]
  · cases hd
    simp [fd_k01_law_pick, code_k01_law_pick, h1, hg]
end
def things : List PyData := [.none, .int 5, .bool true, .str "a", .tuple [.int 1, .int 2], .list [], .dict [], .tuple [.str "x", .list [.none]], .int (-1), .int 100000000000000000000000000000]
def rest1 : S := .seq (.ife (.op2 .ne (.op1 .repr (.call 3 [(.var 3)])) (.op1 .repr (.op2 .mul (.lst [(.var 3)]) (.cst (.int 24))))) (.seq (.ret (.cst (.bool false))) (.skip)) (.skip)) (.seq (.set (.one 4) (.lstx [(.mkx 1 0 [(.var 3)]), (.mkx 2 0 [(.var 3)]), (.mkx 3 0 [(.var 3)])])) (.seq (.set (.one 4) (.catx (.var 4) (.lstx [(.mkx 4 0 [(.var 3)]), (.mkx 5 0 [(.var 3)]), (.mkx 6 0 [(.var 3)])]))) (.seq (.set (.one 4) (.catx (.var 4) (.lstx [(.mkx 7 0 [(.var 3)]), (.mkx 8 0 [(.var 3)]), (.mkx 9 0 [(.var 3), (.var 3)])]))) (.seq (.set (.one 4) (.catx (.var 4) (.lstx [(.mkx 10 0 [(.var 3)]), (.mkx 11 0 [(.var 3)])]))) (.seq (.frx 5 6 (.var 4) (.seq (.set (.one 7) (.lst [(.isy 0 (.var 6)), (.isy 1 (.var 6))])) (.seq (.set (.one 7) (.op2 .add (.var 7) (.lst [(.isy 2 (.var 6)), (.isy 3 (.var 6))]))) (.seq (.ife (.orr (.op2 .ne (.call 4 [(.var 6)]) (.lst [(.var 5)])) (.op2 .ne (.var 7) (.lst [(.op2 .lt (.var 5) (.cst (.int 9))), (.op2 .lt (.var 5) (.cst (.int 9))), (.op2 .eq (.var 5) (.cst (.int 9))), (.op2 .eq (.var 5) (.cst (.int 10)))]))) (.seq (.ret (.cst (.bool false))) (.skip)) (.skip)) (.skip))))) (.skip))))))
def errs (x : PyData) : List (Nat × List PyData) := [(1, [x]), (2, [x]), (3, [x]), (4, [x]), (5, [x]), (6, [x]), (7, [x]), (8, [x]), (9, [x, x]), (10, [x]), (11, [x])]
def env0 (ns : List Int) (s2 s3 s4 s5 s6 s7 : Sl) : PEnv := [.v (.s ns), .v (.o 0), s2, s3, s4, s5, s6, s7]
def cond1 : Ex := .op2 .ne (.op1 .repr (.call 3 [(.var 3)])) (.op1 .repr (.op2 .mul (.lst [(.var 3)]) (.cst (.int 24))))
def tail1 : S := .seq (.set (.one 4) (.lstx [(.mkx 1 0 [(.var 3)]), (.mkx 2 0 [(.var 3)]), (.mkx 3 0 [(.var 3)])])) (.seq (.set (.one 4) (.catx (.var 4) (.lstx [(.mkx 4 0 [(.var 3)]), (.mkx 5 0 [(.var 3)]), (.mkx 6 0 [(.var 3)])]))) (.seq (.set (.one 4) (.catx (.var 4) (.lstx [(.mkx 7 0 [(.var 3)]), (.mkx 8 0 [(.var 3)]), (.mkx 9 0 [(.var 3), (.var 3)])]))) (.seq (.set (.one 4) (.catx (.var 4) (.lstx [(.mkx 10 0 [(.var 3)]), (.mkx 11 0 [(.var 3)])]))) (.seq (.frx 5 6 (.var 4) (.seq (.set (.one 7) (.lst [(.isy 0 (.var 6)), (.isy 1 (.var 6))])) (.seq (.set (.one 7) (.op2 .add (.var 7) (.lst [(.isy 2 (.var 6)), (.isy 3 (.var 6))]))) (.seq (.ife (.orr (.op2 .ne (.call 4 [(.var 6)]) (.lst [(.var 5)])) (.op2 .ne (.var 7) (.lst [(.op2 .lt (.var 5) (.cst (.int 9))), (.op2 .lt (.var 5) (.cst (.int 9))), (.op2 .eq (.var 5) (.cst (.int 9))), (.op2 .eq (.var 5) (.cst (.int 10)))]))) (.seq (.ret (.cst (.bool false))) (.skip)) (.skip)) (.skip))))) (.skip)))))
def l24 (x : PyData) : PyData := .list [x, x, x, x, x, x, x, x, x, x, x, x, x, x, x, x, x, x, x, x, x, x, x, x]
theorem things_sh : ∀ x ∈ things, Sh 2 1000 x := by
  intro x hx
  simp only [things, List.mem_cons, List.not_mem_nil, or_false] at hx
  rcases hx with rfl | rfl | rfl | rfl | rfl | rfl | rfl | rfl | rfl | rfl
  · exact Sh.none.mono (by omega) (by omega)
  · exact (Sh.int (by decide)).mono (by omega) (by omega)
  · exact (Sh.bool true).mono (by omega) (by omega)
  · exact ⟨by decide +kernel, by decide +kernel, by decide +kernel⟩
  · exact ⟨by decide +kernel, by decide +kernel, by decide +kernel⟩
  · exact ⟨by decide +kernel, by decide +kernel, by decide +kernel⟩
  · exact ⟨by decide +kernel, by decide +kernel, by decide +kernel⟩
  · exact ⟨by decide +kernel, by decide +kernel, by decide +kernel⟩
  · exact (Sh.int (by decide)).mono (by omega) (by omega)
  · exact (Sh.int (by decide)).mono (by omega) (by omega)
theorem l24_sh {x : PyData} (h : Sh 2 1000 x) : Sh 3 (24 * 1002 + 3) (l24 x) := (Sh.seq (xs := [x, x, x, x, x, x, x, x, x, x, x, x, x, x, x, x, x, x, x, x, x, x, x, x]) (k := 24) (fun y hy => by
  simp at hy
  subst hy
  exact h) (by simp)).1
theorem fields_ok (n : Nat) (x : PyData) (os : Objs) : callN row.F (n + 10) 3 [.d x] os = .ok (.d (l24 x)) os := by kernel_rfl
theorem mul_ok (n : Nat) (x : PyData) (ns : List Int) (s2 s4 s5 s6 s7 : Sl) (os : Objs) : ev (callN row.F (n + 10)) (.op2 .mul (.lst [(.var 3)]) (.cst (.int 24))) (env0 ns s2 (.v (.d x)) s4 s5 s6 s7) os = .ok (.d (l24 x)) os := by kernel_rfl
theorem tail_ok (n : Nat) (x : PyData) (ns : List Int) (s2 s4 s5 s6 s7 : Sl) (os : Objs) : ex (callN row.F (n + 10)) tail1 (env0 ns s2 (.v (.d x)) s4 s5 s6 s7) os = .nx (env0 ns s2 (.v (.d x)) (.v (.xs (errs x))) (.v (.d (.int 10))) (.v (.x 11 [x])) (.v (.d (.list [.bool false, .bool false, .bool false, .bool true])))) os := by kernel_rfl
theorem good (n : Nat) (x : PyData) (hx : x ∈ things) (ns : List Int) (s2 s4 s5 s6 s7 : Sl) (os : Objs) : ex (callN row.F (n + 10)) rest1 (env0 ns s2 (.v (.d x)) s4 s5 s6 s7) os = .nx (env0 ns s2 (.v (.d x)) (.v (.xs (errs x))) (.v (.d (.int 10))) (.v (.x 11 [x])) (.v (.d (.list [.bool false, .bool false, .bool false, .bool true])))) os := by
  have e1 : ev (callN row.F (n + 10)) cond1 (env0 ns s2 (.v (.d x)) s4 s5 s6 s7) os = .ok (.d (.bool false)) os := ne_same (n := 3) (m := 24 * 1002 + 3) (call_ok (evs_ok rfl (var_ok rfl) evs_none) (fields_ok n x os)) (mul_ok ..) (l24_sh (things_sh x hx)) (by omega) (by omega)
  have e2 : rest1 = .seq (.ife cond1 (.seq (.ret (.cst (.bool false))) (.skip)) (.skip)) tail1 := rfl
  rw [e2, seq_ok (ife_no e1) (tail_ok ..)]
theorem thingsE (n : Nat) (env : PEnv) (os : Objs) : ev (callN row.F (n + 10)) (.lst [(.cst .none), (.cst (.int 5)), (.cst (.bool true)), (.cst (.str "a")), (.tup [(.cst (.int 1)), (.cst (.int 2))]), (.lst []), .dic0, (.tup [(.cst (.str "x")), (.lst [(.cst .none)])]), (.op1 .neg (.cst (.int 1))), (.op2 .pow (.cst (.int 10)) (.cst (.int 29)))]) env os = .ok (.d (.list things)) os := by kernel_rfl
def turn1 : S := .seq (.set (.one 3) (.call 2 [(.var 1), (.lst [(.cst .none), (.cst (.int 5)), (.cst (.bool true)), (.cst (.str "a")), (.tup [(.cst (.int 1)), (.cst (.int 2))]), (.lst []), .dic0, (.tup [(.cst (.str "x")), (.lst [(.cst .none)])]), (.op1 .neg (.cst (.int 1))), (.op2 .pow (.cst (.int 10)) (.cst (.int 29)))])])) (rest1)
theorem turn_ok {n U : Nat} {ns : List Int} {s2 s3 s4 s5 s6 s7 : Sl} {os : Objs} (hD : DrawAt os 0 U) (hU : U < 1000) : ∃ k3 k4 k5 k6 k7 os1, ex (callN row.F (n + 10)) turn1 (env0 ns s2 s3 s4 s5 s6 s7) os = .nx (env0 ns s2 k3 k4 k5 k6 k7) os1 ∧ DrawAt os1 0 (U + 1) := by
  obtain ⟨x, os1, hx, h1, h2, h3⟩ := Rk01.s2 (n + 8) 0 U (.list things) things os rfl (by simp [things]) (by simp [things]) hD (by omega)
  refine ⟨_, _, _, _, _, os1, seq_ok (env1 := env0 ns s2 (.v (.d x)) s4 s5 s6 s7) (set_ok (call_ok (evs_ok rfl (var_ok rfl) (evs_ok rfl (thingsE n _ _) evs_none)) h1) (by simp [env0])) (good n x hx ns s2 s4 s5 s6 s7 os1), h2⟩
theorem law_run {n : Nat} (ns : List Int) (hBeg : callN row.F (n + 10) 0 [.s ns] [] = .ok (.o 0) [drawO ns]) :
    ∃ os, runF (callN row.F (n + 10)) r5.d [.s ns] [] = .ok (.d (.bool true)) os := by
  rw [runF_eq (sl := [.v (.s ns)]) rfl rfl]
  have hD0 : DrawAt [drawO ns] 0 0 := draw_start ns []
  have lp := forL_ex (α := Nat) (t := .one 2) (D := fun k : Nat => PyData.int (k : Int)) (body := ex (callN row.F (n + 10)) turn1) (fun r env os' => ∃ U s2 s3 s4 s5 s6 s7, DrawAt os' 0 U ∧ U + r.length < 100 ∧ env = env0 ns s2 s3 s4 s5 s6 s7)
    (fun k r env os' h => by
      obtain ⟨U, s2, s3, s4, s5, s6, s7, hD, hU, rfl⟩ := h
      simp only [List.length_cons] at hU
      obtain ⟨k3, k4, k5, k6, k7, os1, q1, q2⟩ := turn_ok (n := n) (ns := ns) (s2 := .v (.d (.int (k : Int)))) (s3 := s3) (s4 := s4) (s5 := s5) (s6 := s6) (s7 := s7) hD (by omega)
      refine ⟨_, os1, ?_, U + 1, .v (.d (.int (k : Int))), k3, k4, k5, k6, k7, q2, by omega, rfl⟩
      rw [show bindT (.one 2) (.int (k : Int)) (env0 ns s2 s3 s4 s5 s6 s7) = some (env0 ns (.v (.d (.int (k : Int)))) s3 s4 s5 s6 s7) by simp [env0], nxt_some]
      exact q1) (xs := List.range 3) (env := env0 ns .un .un .un .un .un .un) (os := [drawO ns]) ⟨0, _, _, _, _, _, _, hD0, by simp, rfl⟩
  obtain ⟨env, os', hl, U, s2, s3, s4, s5, s6, s7, hD, hU, rfl⟩ := lp
  refine ⟨os', ?_⟩
  have x2 : r5.d.body = .seq (.set (.one 1) (.call 0 [(.var 0)])) (.seq (.fr (.one 2) (.rng1 (.cst (.int 3))) turn1) (.seq (.ret .isf) (.skip))) := rfl
  have x3 : [Sl.v (.s ns)] ++ List.replicate (r5.d.nl - r5.d.np) Sl.un = [.v (.s ns), .un, .un, .un, .un, .un, .un, .un] := rfl
  have p1 : ex (callN row.F (n + 10)) (.set (.one 1) (.call 0 [(.var 0)])) [.v (.s ns), .un, .un, .un, .un, .un, .un, .un] [] = .nx (env0 ns .un .un .un .un .un .un) [drawO ns] := set_ok (call_ok (evs_ok rfl (var_ok rfl) evs_none) hBeg) (by simp)
  have p3 : ∀ env, evI (callN row.F (n + 10)) (.rng1 (.cst (.int 3))) env [drawO ns] = .ok ((List.range 3).map fun k : Nat => PyData.int (k : Int)) [drawO ns] := fun env => rfl
  rw [x2, x3, seq_ok p1 (seq_ok (fr_ok (p3 _) hl) (ret_ok rfl _))]
  rfl
theorem law_ok (n : Nat) (ns : List Int) (h : ns.length ≤ 63) : ∃ os, callN row.F (n + 11) 5 [.s ns] [] = .ok (.d (.bool true)) os := by
  rw [callN_at F5]
  exact law_run ns (by rw [callN_at F0]; exact law_begin_ok _ ns [] h)
end Rk01
end
set_option Elab.async false
set_option linter.all false
set_option maxRecDepth 100000
set_option maxHeartbeats 0
open PySem PySem.W PySem.Calls PyProof.Rows
theorem PySem.Challenge.cw_fallcuts_k01_errors_made_holds : PySem.Challenge.rw_fallcuts_k01_errors_made.Holds := by
  w_on; o_law
  refine HandSHeadRun.head_any (r := Rk01.RO) (q := view Rk01.RO.prog [19]) (H := Rk01.hk) (ob := Rk01.ob) (M := 9000) (loose := Rk01.names) (d := HandSHeadRun.topDef Rk01.RO.prog 19) (kwd := []) Rk01.ob_eq
    (by kernel_rfl) (fun s => by kernel_rfl) Rk01.run (by kernel_rfl) (by kernel_rfl) (by kernel_rfl) (by rfl) (by first | assumption | decide +kernel) (by decide +kernel) ⟨rfl, rfl, rfl, rfl, rfl, by decide +kernel⟩ ?hw ?hc
  case hw => w_witness2
  case hc => exact FC.walkF (l := PySem.Challenge.rw_fallcuts_k01_errors_made) (R := Rk01.row) (m := 11) (lw := 5) rfl (by kernel_rfl) (by kernel_rfl) Rk01.stat (by kernel_rfl) rfl ⟨rfl, by decide, by decide⟩ (fun ns h => Rk01.law_ok 0 ns h)
