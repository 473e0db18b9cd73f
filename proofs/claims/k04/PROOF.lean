import PyProof.Rows.All
import HandS.ForMost
import HandS.ForExc
import HandS.Flow
import HandS.Deep
import HandS.IsInst
import HandS.TupAny
import HandS.TupMul
import HandS.ExcOwn
import HandS.ExcSuper
import HandS.CallSlots
import HandS.More
import KE.GoesEnum
import HandS.Zip
import HandS.SetFor
import HandS.Strs
import Wide.All
import OpenK.AllK
import Wide.FinOn
import PySem.Challenge.RW_tiedterms_k04_main_put_in_one_behind_the
set_option Elab.async false
set_option linter.all false
set_option maxRecDepth 100000
namespace Co
open PySem PySem.Spec PyProof.Rows L2

abbrev D := PyData
inductive O where
  | d (x : D)
  | l (xs : List O)
mutual
def O.frz : O → D
  | .d x => x
  | .l xs => .list (O.frzs xs)
def O.frzs : List O → List D
  | [] => []
  | x :: xs => O.frz x :: O.frzs xs
end
/-- what a slot holds: data that never changes; a list of one's own; one of the caller's, handed in to be changed -/
inductive W where
  | fz (d : D)
  | own (o : O)
  | io (o : O)
inductive Z where
  | w (x : W)
  | bw (o : O)
def W.dat : W → D
  | .fz d => d
  | .own o => o.frz
  | .io o => o.frz
def W.o : W → O
  | .fz d => .d d
  | .own o => o
  | .io o => o
def W.re (o : O) : W → W
  | .fz d => .fz d
  | .own _ => .own o
  | .io _ => .io o
def W.isIo : W → Bool
  | .io _ => true
  | _ => false
def Z.dat : Z → D
  | .w x => x.dat
  | .bw o => o.frz
abbrev Env := List (Option W)
structure Xn where
  cls : Str
  args : List D
inductive R (α : Type) where
  | ok (a : α) (ρ : Env)
  | ex (x : Xn) (ρ : Env)
  | bad
def R.bind {α β : Type} : R α → (α → Env → R β) → R β
  | .ok a ρ, f => f a ρ
  | .ex x ρ, _ => .ex x ρ
  | .bad, _ => .bad
/-- how a call ends -/
inductive RC where
  | ret (v : W) (outs : List O)
  | ex (x : Xn)
  | bad
abbrev CF := Str → List W → RC

inductive BinO | add | sub | mul | fdiv | mod | pow
inductive CmpO | eq | ne | lt | le | gt | ge | isin | notin | is | isnot
inductive B1 | len | abs | int | str | sum | all | any | max | min | tuple | list
inductive B2 | max | min
inductive M1 | join | split
inductive Ty | int | bool | str | tuple | list

/-- a place that is read: a slot, an item of a place -/
inductive Tg where
  | n (i : Nat)
  | t (is : List Nat)

mutual
inductive E where
  | v (i : Nat)
  | rd (i : Nat)
  | io (i : Nat)
  | g (x : Str)
  | k (c : D)
  | bin (o : BinO) (a b : E)
  | cmp (o : CmpO) (a b : E)
  | chain (o1 o2 : CmpO) (a b c : E)
  | andE (a b : E)
  | orE (a b : E)
  | nt (a : E)
  | ng (a : E)
  | ife (t : T) (a b : E)
  | tup (es : Es)
  | lst (es : Es)
  | ix (a b : E)
  | sl (a : E) (lo hi : E)
  | call (f : Str) (es : Es)
  | call0 (f : Str)
  | own (e : E)
  | sset (a : E)
  | callk (f : Str) (ks : List Str) (perm : List Nat) (kes : Es)
  | b1 (f : B1) (a : E)
  | b2 (f : B2) (a b : E)
  | isi (a : E) (tys : List Ty)
  | gin (x : Str) (neg : Bool) (a : E)
  | gix (x : Str) (a : E)
  | m1 (m : M1) (a b : E)
  | lc (own : List (Str × Nat)) (tg : Tg) (it : I) (c : T) (e : E)
inductive Es where
  | nil
  | cons (e : E) (es : Es)
inductive T where
  | yes
  | val (e : E)
  | nt (t : T)
  | and (a b : T)
  | or (a b : T)
  | cmp (o : CmpO) (a b : E)
  | chain (o1 o2 : CmpO) (a b c : E)
  | gin (x : Str) (neg : Bool) (a : E)
inductive I where
  | seq (e : E)
  | rng1 (a : E)
  | rng2 (a b : E)
  | rng3 (a b c : E)
  | enum (a : E)
  | zip (a b : E)
end

/-! ### what it means -/
inductive Arg where
  | a (x : W)
  | o (x : W)
  | io (i : Nat)
def rdZ (i : Nat) (ρ : Env) : R Z := match ρ[i]? with
  | some (some (.fz d)) => .ok (.w (.fz d)) ρ
  | some (some (.own o)) => .ok (.bw o) ρ
  | some (some (.io o)) => .ok (.bw o) ρ
  | _ => .bad
def vZ (i : Nat) (ρ : Env) : R Z := match ρ[i]? with
  | some (some (.fz d)) => .ok (.w (.fz d)) ρ
  | some (some (.own o)) => .ok (.w (.fz o.frz)) (ρ.set i (some (.fz o.frz)))
  | _ => .bad
def ofO : Option W → Env → R Z
  | some x, ρ => .ok (.w x) ρ
  | none, _ => .bad
def ofD : Option D → Env → R Z
  | some x, ρ => .ok (.w (.fz x)) ρ
  | none, _ => .bad
def big (i : Int) : Bool := !(decide (-(2 ^ 64) < i) && decide (i < 2 ^ 64))
def okLen (n : Nat) : Bool := decide (n ≤ sizeLine)
/-- a scalar -/
def flatD : D → Bool
  | .none => true
  | .bool _ => true
  | .int _ => true
  | .str _ => true
  | _ => false
def addD : D → D → Option W
  | .int i, .int j => some (.fz (.int (i + j)))
  | .str i, .str j => if okLen (i.length + j.length) then some (.fz (.str (i ++ j))) else none
  | .tuple xs, .tuple ys => if okLen (xs.length + ys.length) then some (.fz (.tuple (xs ++ ys))) else none
  | .list xs, .list ys => if okLen (xs.length + ys.length) then some (.own (.l ((xs ++ ys).map .d))) else none
  | _, _ => none
def int2 (f : Int → Int → Option D) : D → D → Option W
  | .int i, .int j => (f i j).map .fz
  | _, _ => none
def mulI (i j : Int) : Option D := if big i && big j then none else some (.int (i * j))
def binD : BinO → D → D → Option W
  | .add => addD
  | .sub => int2 fun i j => some (.int (i - j))
  | .mul => int2 mulI
  | .fdiv => int2 fun i j => if 0 < j ∧ j < 1073741824 then some (.int (i / j)) else none
  | .mod => int2 fun i j => if 0 < j then some (.int (i % j)) else none
  | .pow => int2 fun i j => if 0 ≤ j ∧ j ≤ 1000000 ∧ i.natAbs < 2 ^ 64 then some (.int (i ^ j.toNat)) else none
def inList (d : D) (ds : List D) : Bool := ds.any fun z => PyData.eqv z d
def intC (f : Int → Int → Bool) : D → D → Option Bool
  | .int i, .int j => some (f i j)
  | _, _ => none
def inD (neg : Bool) : D → D → Option Bool
  | .str i, .str j => some (neg != !(Builtin.Str.occurrences j i 0 j.length 1).isEmpty)
  | d, .list ds => if SeqAt.shaped d && SeqAt.shaped (.list ds) then some (neg != inList d ds) else none
  | d, .tuple ds => if flatD d && ds.all flatD then some (neg != inList d ds) else none
  | _, _ => none
def isN : D → Bool
  | .none => true
  | _ => false
def isD (neg : Bool) (d e : D) : Option Bool := if isN e then some (neg != isN d) else none
def eqOk (d e : D) : Bool := d.canLay0 && e.canLay0 && decide (min d.depth e.depth ≤ 64)
def cmpD : CmpO → D → D → Option Bool
  | .eq, d, e => if eqOk d e then some (PyData.eqv d e) else none
  | .ne, d, e => if eqOk d e then some (!PyData.eqv d e) else none
  | .lt, d, e => intC (fun i j => decide (i < j)) d e
  | .le, d, e => intC (fun i j => decide (i ≤ j)) d e
  | .gt, d, e => intC (fun i j => decide (j < i)) d e
  | .ge, d, e => intC (fun i j => decide (j ≤ i)) d e
  | .isin, d, e => inD false d e
  | .notin, d, e => inD true d e
  | .is, d, e => isD false d e
  | .isnot, d, e => isD true d e
def truD : D → Option Bool
  | .none => some false
  | .bool b => some b
  | .int i => some (i != 0)
  | .str s => if okLen s.length then some ((s.length : Int) != 0) else none
  | .list xs => some (!xs.isEmpty)
  | .tuple xs => some (!xs.isEmpty)
  | .dict _ => none
def cutA {α : Type} (xs : List α) (lo hi : Option Int) : List α := (xs.drop (HT.sIx xs.length 0 lo)).take (HT.sIx xs.length xs.length hi - HT.sIx xs.length 0 lo)
def ixD : D → D → Option D
  | .list xs, .int i => atI xs i
  | .tuple xs, .int i => atI xs i
  | .str z, .int i => if okLen z.length then (atI z.cps.toList i).map fun c => .str ⟨#[c]⟩ else none
  | _, _ => none
def bnd : D → Option (Option Int)
  | .none => some none
  | .int i => some (some i)
  | _ => none
def slD : D → Option Int → Option Int → Option W
  | .dict [(.none, .list xs)], lo, hi => some (.own (.l ((cutA xs lo hi).map .d)))
  | .list xs, lo, hi => some (.own (.l ((cutA xs lo hi).map .d)))
  | .tuple xs, lo, hi => some (.fz (.tuple (cutA xs lo hi)))
  | .str z, lo, hi => if okLen z.length then some (.fz (.str (cutS z lo hi))) else none
  | _, _, _ => none
def intsD : List D → Option (List Int)
  | [] => some []
  | .int i :: r => (intsD r).map (i :: ·)
  | _ => none
def bls : List D → Option (List Bool)
  | [] => some []
  | .bool i :: r => (bls r).map (i :: ·)
  | _ => none
def strsD : List D → Option (List Str)
  | [] => some []
  | .str i :: r => (strsD r).map (i :: ·)
  | _ => none
def maxI : List Int → Option Int
  | [] => none
  | x :: xs => some (xs.foldl max x)
def minI : List Int → Option Int
  | [] => none
  | x :: xs => some (xs.foldl min x)
def seqD : D → Option (List D)
  | .list xs => some xs
  | .tuple xs => some xs
  | _ => none
def lstD : D → Option (List D)
  | .list xs => some xs
  | _ => none
def b1D : B1 → D → Option W
  | .len, .list xs => some (.fz (.int xs.length))
  | .len, .tuple xs => some (.fz (.int xs.length))
  | .len, .str z => if okLen z.length then some (.fz (.int z.length)) else none
  | .abs, .int i => some (.fz (.int (if i < 0 then -i else i)))
  | .int, .int i => some (.fz (.int i))
  | .int, .bool k => some (.fz (.int (if k then 1 else 0)))
  | .int, .str a => if a.length ≤ 640 then (PySem.intText? a).map fun n => .fz (.int n) else none
  | .str, .int i => if i.natAbs.log2 < 1920 then some (.fz (.str (toString i))) else none
  | .sum, .list xs => (intsD xs).map fun ns => .fz (.int ns.sum)
  | .all, .list xs => (bls xs).map fun ns => .fz (.bool (ns.all id))
  | .any, .list xs => (bls xs).map fun ns => .fz (.bool (ns.any id))
  | .max, .list xs => (intsD xs).bind fun ns => (maxI ns).map fun m => .fz (.int m)
  | .min, .list xs => (intsD xs).bind fun ns => (minI ns).map fun m => .fz (.int m)
  | .tuple, .list xs => some (.fz (.tuple xs))
  | .tuple, .tuple xs => some (.fz (.tuple xs))
  | .list, .list xs => some (.own (.l (xs.map .d)))
  | .list, .tuple xs => some (.own (.l (xs.map .d)))
  | _, _ => none
def b2D : B2 → D → D → Option D
  | .max, .int i, .int j => some (.int (if j > i then j else i))
  | .min, .int i, .int j => some (.int (if j < i then j else i))
  | _, _, _ => none
def tyNm : D → Option String
  | .none => some "NoneType"
  | .bool _ => some "bool"
  | .int _ => some "int"
  | .str _ => some "str"
  | .list _ => some "list"
  | .tuple _ => some "tuple"
  | .dict _ => none
def Ty.nm : Ty → String
  | .int => "int"
  | .bool => "bool"
  | .str => "str"
  | .tuple => "tuple"
  | .list => "list"
def tyD : Ty → D → Bool
  | .int, .int _ => true
  | .int, .bool _ => true
  | .bool, .bool _ => true
  | .str, .str _ => true
  | .tuple, .tuple _ => true
  | .list, .list _ => true
  | _, _ => false
def insU (x : Int) : List Int → List Int
  | [] => [x]
  | y :: ys => if x < y then x :: y :: ys else if x = y then y :: ys else y :: insU x ys
def ssetI : List Int → List Int
  | [] => []
  | x :: xs => insU x (ssetI xs)
/-- sorted(set(a list of ints)) -/
def ssetD : D → Option W
  | .list xs => (intsD xs).bind fun ns => if ns.length ≤ 2000 && decide ((ssetI ns).length < 64) then some (.own (.l (((ssetI ns).map PyData.int).map .d))) else none
  | _ => none
def isiF (tys : List Ty) (d : D) (ρ : Env) : R Z := match tyNm d with
  | some _ => .ok (.w (.fz (.bool (tys.any fun t => tyD t d)))) ρ
  | none => .bad
def joinD (a : Str) (ds : List D) : Option W := (strsD ds).bind fun ys => if (ys.map (·.length)).sum + ys.length * a.length ≤ 16777216 then some (.fz (.str (Txt.join a ys))) else none
def m1D : M1 → D → D → Option W
  | .split, .str a, .str b => if !(b.length == 0) && okLen (a.length + 2) then some (.own (.l ((Txt.split a b).map fun z => .d (.str z)))) else none
  | .join, .str a, .list ds => joinD a ds
  | .join, .str a, .tuple ds => joinD a ds
  | _, _, _ => none

def argsW : List Arg → Env → Option (List W × Env)
  | [], ρ => some ([], ρ)
  | .a x :: r, ρ => (argsW r ρ).map fun p => (.fz x.dat :: p.1, p.2)
  | .o x :: r, ρ => (argsW r ρ).map fun p => (x :: p.1, p.2)
  | .io i :: r, ρ => match ρ[i]? with
    | some (some (.own o)) => (argsW r (ρ.set i none)).map fun p => (.own o :: p.1, p.2)
    | some (some (.io o)) => (argsW r (ρ.set i none)).map fun p => (.io o :: p.1, p.2)
    | _ => none
/-- behind a call: what was handed in to be changed, by its slot -/
def putOuts : List Arg → List W → List O → Env → Env
  | .io i :: r, x :: ws, o :: os, ρ => putOuts r ws os (ρ.set i (some (x.re o)))
  | .a _ :: r, _ :: ws, os, ρ => putOuts r ws os ρ
  | .o _ :: r, .fz _ :: ws, os, ρ => putOuts r ws os ρ
  | .o _ :: r, _ :: ws, _ :: os, ρ => putOuts r ws os ρ
  | _, _, _, ρ => ρ
def onlyW : List Arg → Option (List W)
  | [] => some []
  | .a x :: r => (onlyW r).map (x :: ·)
  | _ => none
def W.isOwn : W → Bool
  | .own _ => true
  | _ => false
/-- what is handed in to be changed is all one's own, or all the caller's -/
def oneKind (ws : List W) : Bool := !(ws.any W.isOwn && ws.any W.isIo)
def doCall (cf : CF) (f : Str) (as : List Arg) (ρ : Env) : R Z := match argsW as ρ with
  | some (ws, ρ1) => if !oneKind ws then .bad else match cf f ws with
    | .ret x os => if x.isIo then .bad else .ok (.w x) (putOuts as ws os ρ1)
    | .ex x => .ex x ρ1
    | .bad => .bad
  | none => .bad
def setTg : Tg → D → Env → Option Env
  | .n i, d, ρ => some (ρ.set i (some (.fz d)))
  | .t is, .tuple ds, ρ => if is.length = ds.length then some ((is.zip ds).foldl (fun ρ p => ρ.set p.1 (some (.fz p.2))) ρ) else none
  | _, _, _ => none
def setTgR (t : Tg) (d : D) (ρ : Env) : R Unit := match setTg t d ρ with
  | some ρ' => .ok () ρ'
  | none => .bad
def wipeE (ρ : Env) : List Nat → Env
  | [] => ρ
  | v :: vs => (wipeE ρ vs).set v none
/-- a block lets no exception out -/
def R.calm {α : Type} : R α → R α
  | .ex _ _ => .bad
  | r => r
def lcLoop (body : D → Env → R (Option O)) (vs : List Nat) : List D → List O → Env → R (List O)
  | [], acc, ρ => .ok acc ρ
  | d :: ds, acc, ρ => (body d ρ).bind fun o ρ1 => match o with
    | some o => if acc.length < sizeLine then lcLoop body vs ds (acc ++ [o]) (wipeE ρ1 vs) else .bad
    | none => lcLoop body vs ds acc (wipeE ρ1 vs)
def nonBw : Z → Env → R W
  | .w x, ρ => .ok x ρ
  | .bw _, _ => .bad
def pairD : List D → List D → List D
  | x :: xs, y :: ys => .tuple [x, y] :: pairD xs ys
  | _, _ => []
def numD (n : Nat) : List D → List D
  | [] => []
  | x :: xs => .tuple [.int n, x] :: numD (n + 1) xs
def rngD (lo : Int) (c : Int) (n : Nat) : List D := (List.range n).map fun i => .int (lo + (i : Nat) * c)
def strD (z : Str) : List D := z.cps.toList.map fun c => .str ⟨#[c]⟩
def seqI : D → Option (List D)
  | .list xs => some xs
  | .tuple xs => some xs
  | .str z => some (strD z)
  | _ => none
def freeze : W → W := fun x => .fz x.dat
def liftO {α : Type} : Option α → Env → R α
  | some a, ρ => .ok a ρ
  | none, _ => .bad
def small62 (i : Int) : Bool := decide (-(2 ^ 62) ≤ i) && decide (i < 2 ^ 62)


def isRd : E → Option Nat
  | .rd i => some i
  | _ => none
/-- two operands, from the left; a slot that is read at first is looked at last -/
def two {α : Type} (r : Option Nat) (ma mb : Env → R Z) (f : Z → Z → Env → R α) (ρ : Env) : R α := match r with
  | some i => (rdZ i ρ).bind fun _ ρ0 => (mb ρ0).bind fun zb ρ1 => (rdZ i ρ1).bind fun za ρ2 => f za zb ρ2
  | none => (ma ρ).bind fun za ρ1 => (nonBw za ρ1).bind fun xa ρ2 => (mb ρ2).bind fun zb ρ3 => f (.w xa) zb ρ3
/-- .. then two bounds of a slice -/
def three {α : Type} (r : Option Nat) (ma : Env → R Z) (mb mc : Env → R (Option Int)) (f : Z → Option Int → Option Int → Env → R α) (ρ : Env) : R α := match r with
  | some i => (rdZ i ρ).bind fun _ ρ0 => (mb ρ0).bind fun lo ρ1 => (mc ρ1).bind fun hi ρ2 => (rdZ i ρ2).bind fun za ρ3 => f za lo hi ρ3
  | none => (ma ρ).bind fun za ρ1 => (nonBw za ρ1).bind fun xa ρ2 => (mb ρ2).bind fun lo ρ3 => (mc ρ3).bind fun hi ρ4 => f (.w xa) lo hi ρ4
def E.isNoneK : E → Bool
  | .k .none => true
  | _ => false
def bndM (c : Bool) (m : Env → R Z) (ρ : Env) : R (Option Int) := if c then .ok none ρ else (m ρ).bind fun z ρ1 => match z.dat with
  | .int i => .ok (some i) ρ1
  | _ => .bad
/-- the items of a list that is read, all of them data -/
def plainO : List O → Option (List D)
  | [] => some []
  | .d x :: r => (plainO r).map (x :: ·)
  | _ => none
def O.el : O → Option D
  | .d x => some x
  | .l os => (plainO os).map .list
def Z.el : Z → Option D
  | .w (.fz d) => some d
  | .w (.own o) => o.el
  | .w (.io o) => o.el
  | .bw o => o.el
def slF (a : Z) (lo hi : Option Int) (ρ : Env) : R Z := match a.el with
  | some a => ofO (slD a lo hi) ρ
  | _ => .bad
def m1F (m : M1) (s : Str) (b : Z) (ρ : Env) : R Z := ofO (m1D m (.str s) b.dat) ρ
def binF (o : BinO) (a b : Z) (ρ : Env) : R Z := match a.el, b.el with
  | some x, some y => ofO (binD o x y) ρ
  | _, _ => .bad
def cmpF (o : CmpO) (a b : Z) (ρ : Env) : R Z := ofD ((cmpD o a.dat b.dat).map .bool) ρ
def cmpT (o : CmpO) (a b : Z) (ρ : Env) : R Bool := liftO (cmpD o a.dat b.dat) ρ
def ixF (a b : Z) (ρ : Env) : R Z := match a with
  | .bw (.l os) => match b.dat with
    | .int i => match atI os i with
      | some (.d x) => .ok (.w (.fz x)) ρ
      | some o => .ok (.bw o) ρ
      | none => .bad
    | _ => .bad
  | a => match a.el with
    | some x => ofD (ixD x b.dat) ρ
    | none => .bad
def b1F (f : B1) (a : Z) (ρ : Env) : R Z := match f with
  | .tuple => match a.el with
    | some x => ofO (b1D f x) ρ
    | none => .bad
  | .list => match a.el with
    | some x => ofO (b1D f x) ρ
    | none => .bad
  | f => ofO (b1D f a.dat) ρ
def okPy (n : Nat) : Bool := decide (n ≤ sizeLine)

/-- the program's facts: functions, constants, written dicts -/
structure G where
  con : Str → Option D
  dic : Str → Option (List (Str × D))

def ginF (g : G) (x : Str) (neg : Bool) (d : D) (ρ : Env) : R Z := match g.dic x, d with
  | some kvs, .str s => .ok (.w (.fz (.bool (neg != (kvs.lookup s).isSome)))) ρ
  | _, _ => .bad
def ginT (g : G) (x : Str) (neg : Bool) (d : D) (ρ : Env) : R Bool := match g.dic x, d with
  | some kvs, .str s => .ok (neg != (kvs.lookup s).isSome) ρ
  | _, _ => .bad
def gixF (g : G) (x : Str) (d : D) (ρ : Env) : R Z := match g.dic x, d with
  | some kvs, .str s => ofD (kvs.lookup s) ρ
  | _, _ => .bad
def permL {α : Type} (perm : List Nat) (as : List α) : List α := perm.filterMap fun i => as[i]?
/-- a call by names: all that is handed in is frozen -/
def callK (cf : CF) (f : Str) (perm : List Nat) (ds : List D) (ρ : Env) : R Z := match cf f ((permL perm ds).map .fz) with
  | .ret x _ => if x.isIo then .bad else .ok (.w x) ρ
  | .ex x => .ex x ρ
  | .bad => .bad

section
variable (cf : CF) (g : G)
mutual
def E.ev : E → Env → R Z
  | .v i, ρ => vZ i ρ
  | .rd i, ρ => rdZ i ρ
  | .io _, _ => .bad
  | .g x, ρ => ofD (g.con x) ρ
  | .k c, ρ => .ok (.w (.fz c)) ρ
  | .bin o a b, ρ => two (isRd a) a.ev b.ev (binF o) ρ
  | .cmp o a b, ρ => two (isRd a) a.ev b.ev (cmpF o) ρ
  | .chain o1 o2 a b c, ρ => (a.ev ρ).bind fun za ρ1 => (nonBw za ρ1).bind fun xa ρ2 => (b.ev ρ2).bind fun zb ρ3 => (nonBw zb ρ3).bind fun xb ρ4 =>
      match cmpD o1 xa.dat xb.dat with
      | some true => (c.ev ρ4).bind fun zc ρ5 => ofD ((cmpD o2 xb.dat zc.dat).map .bool) ρ5
      | some false => .ok (.w (.fz (.bool false))) ρ4
      | none => .bad
  | .andE a b, ρ => (a.ev ρ).bind fun za ρ1 => (nonBw za ρ1).bind fun xa ρ2 => (liftO (truD xa.dat) ρ2).bind fun c ρ3 => if c then b.ev ρ3 else .ok (.w xa) ρ3
  | .orE a b, ρ => (a.ev ρ).bind fun za ρ1 => (nonBw za ρ1).bind fun xa ρ2 => (liftO (truD xa.dat) ρ2).bind fun c ρ3 => if c then .ok (.w xa) ρ3 else b.ev ρ3
  | .nt a, ρ => (a.ev ρ).bind fun za ρ1 => ofD ((truD za.dat).map fun c => .bool (!c)) ρ1
  | .ng a, ρ => (a.ev ρ).bind fun za ρ1 => match za.dat with
      | .int i => .ok (.w (.fz (.int (-i)))) ρ1
      | _ => .bad
  | .ife t a b, ρ => (t.tst ρ).bind fun c ρ1 => if c then a.ev ρ1 else b.ev ρ1
  | .tup es, ρ => (es.ev ρ).bind fun as ρ1 => (liftO (onlyW as) ρ1).bind fun ws ρ2 => if okPy ws.length then .ok (.w (.fz (.tuple (ws.map W.dat)))) ρ2 else .bad
  | .lst es, ρ => (es.ev ρ).bind fun as ρ1 => (liftO (onlyW as) ρ1).bind fun ws ρ2 => if okPy ws.length then .ok (.w (.own (.l (ws.map W.o)))) ρ2 else .bad
  | .ix a b, ρ => two (isRd a) a.ev b.ev ixF ρ
  | .sl a lo hi, ρ => three (isRd a) a.ev (bndM lo.isNoneK lo.ev) (bndM hi.isNoneK hi.ev) slF ρ
  | .call f es, ρ => (es.ev ρ).bind fun as ρ1 => doCall cf f as ρ1
  | .call0 f, ρ => R.calm (doCall cf f [] ρ)
  | .own e, ρ => e.ev ρ
  | .sset a, ρ => (a.ev ρ).bind fun za ρ1 => ofO (ssetD za.dat) ρ1
  | .callk f ks perm kes, ρ => (kes.ev ρ).bind fun as ρ1 => (liftO (onlyW as) ρ1).bind fun ws ρ2 => if ws.length = ks.length then R.calm (callK cf f perm (ws.map W.dat) ρ2) else .bad
  | .b1 f a, ρ => (a.ev ρ).bind fun za ρ1 => b1F f za ρ1
  | .b2 f a b, ρ => two none a.ev b.ev (fun a b ρ => ofD (b2D f a.dat b.dat) ρ) ρ
  | .isi a tys, ρ => (a.ev ρ).bind fun za ρ1 => isiF tys za.dat ρ1
  | .gin x neg a, ρ => (a.ev ρ).bind fun za ρ1 => ginF g x neg za.dat ρ1
  | .gix x a, ρ => (a.ev ρ).bind fun za ρ1 => gixF g x za.dat ρ1
  | .m1 m a b, ρ => (a.ev ρ).bind fun za ρ1 => match za.dat with
      | .str s => (b.ev ρ1).bind fun zb ρ2 => m1F m s zb ρ2
      | _ => .bad
  | .lc own tg it c e, ρ => (it.ev ρ).bind fun ds ρ1 =>
      ((lcLoop (fun d ρ => (setTgR tg d ρ).bind fun _ ρ1 => (c.tst ρ1).bind fun b ρ2 =>
        if b then (e.ev ρ2).bind fun z ρ3 => (nonBw z ρ3).bind fun x ρ4 => .ok (some x.o) ρ4 else .ok none ρ2) (own.map (·.2)) ds [] (wipeE ρ1 (own.map (·.2)))).calm).bind fun os ρ2 => .ok (.w (.own (.l os))) ρ2
def Es.ev : Es → Env → R (List Arg)
  | .nil, ρ => .ok [] ρ
  | .cons e es, ρ => match e with
    | .io i => match ρ[i]? with
      | some (some _) => (es.ev ρ).bind fun as ρ1 => .ok (.io i :: as) ρ1
      | _ => .bad
    | .own e => (e.ev ρ).bind fun z ρ1 => (nonBw z ρ1).bind fun x ρ2 => (es.ev ρ2).bind fun as ρ3 => .ok (.o x :: as) ρ3
    | e => (e.ev ρ).bind fun z ρ1 => (nonBw z ρ1).bind fun x ρ2 => (es.ev ρ2).bind fun as ρ3 => .ok (.a x :: as) ρ3
def T.tst : T → Env → R Bool
  | .yes, ρ => .ok true ρ
  | .val e, ρ => (e.ev ρ).bind fun z ρ1 => liftO (truD z.dat) ρ1
  | .nt t, ρ => (t.tst ρ).bind fun b ρ1 => .ok (!b) ρ1
  | .and a b, ρ => (a.tst ρ).bind fun c ρ1 => if c then b.tst ρ1 else .ok false ρ1
  | .or a b, ρ => (a.tst ρ).bind fun c ρ1 => if c then .ok true ρ1 else b.tst ρ1
  | .cmp o a b, ρ => two (isRd a) a.ev b.ev (cmpT o) ρ
  | .chain o1 o2 a b c, ρ => (a.ev ρ).bind fun za ρ1 => (nonBw za ρ1).bind fun xa ρ2 => (b.ev ρ2).bind fun zb ρ3 => (nonBw zb ρ3).bind fun xb ρ4 =>
      match cmpD o1 xa.dat xb.dat with
      | some true => (c.ev ρ4).bind fun zc ρ5 => liftO (cmpD o2 xb.dat zc.dat) ρ5
      | some false => .ok false ρ4
      | none => .bad
  | .gin x neg a, ρ => (a.ev ρ).bind fun za ρ1 => ginT g x neg za.dat ρ1
def I.ev : I → Env → R (List D)
  | .seq e, ρ => (e.ev ρ).bind fun z ρ1 => (nonBw z ρ1).bind fun x ρ2 => liftO (seqI x.dat) ρ2
  | .rng1 a, ρ => (a.ev ρ).bind fun z ρ1 => match z.dat with
      | .int j => if small62 j then .ok (rngD 0 1 j.toNat) ρ1 else .bad
      | _ => .bad
  | .rng2 a b, ρ => two none a.ev b.ev (fun a b ρ => match a.dat, b.dat with
      | .int i, .int j => if small62 i && small62 j then .ok (rngD i 1 (j - i).toNat) ρ else .bad
      | _, _ => .bad) ρ
  | .rng3 _ _ _, _ => .bad
  | .enum a, ρ => (a.ev ρ).bind fun z ρ1 => (nonBw z ρ1).bind fun x ρ2 => (liftO (seqD x.dat) ρ2).bind fun ds ρ3 => .ok (numD 0 ds) ρ3
  | .zip a b, ρ => two none a.ev b.ev (fun a b ρ => match a, b with
      | .w x, .w y => match x.dat, y.dat with
        | .list xs, .list ys => .ok (pairD xs ys) ρ
        | .tuple xs, .tuple ys => .ok (pairD xs ys) ρ
        | _, _ => .bad
      | _, _ => .bad) ρ
end
end

/-! ### statements -/
mutual
inductive S where
  | asg (t : Tg) (e : E)
  | par (i j : Nat) (a b : E)
  | set (i : Nat) (k e : E)
  | app (i : Nat) (e : E)
  | app2 (i : Nat) (k : E) (j : Nat)
  | ext (i : Nat) (e : E)
  | xp (e : E)
  | ife (t : T) (a b : Ss)
  | for (t : Tg) (it : I) (b : Ss)
  | whl (t : T) (b : Ss)
  | ret (e : E)
  | raise (c : Str) (es : Es)
  | tri (b : Ss) (hs : Hs)
  | brk
  | cont
  | pass
  | nev
inductive Ss where
  | nil
  | cons (s : S) (r : Ss)
inductive Hs where
  | nil
  | cons (c : Str) (nm : Option Nat) (b : HB) (r : Hs)
inductive HB where
  | ret (e : HE)
  | asg (i : Nat) (e : HE)
inductive HE where
  | k (c : D)
  | line
  | isi
  | v (i : Nat)
  | lst (es : HEs)
  | tup (es : HEs)
inductive HEs where
  | nil
  | cons (e : HE) (r : HEs)
end
inductive Fl where
  | nx (ρ : Env)
  | rt (x : W) (ρ : Env)
  | bk (ρ : Env)
  | ct (ρ : Env)
  | ex (x : Xn) (ρ : Env)
  | bad
def Fl.of {α : Type} : R α → (α → Env → Fl) → Fl
  | .ok a ρ, f => f a ρ
  | .ex x ρ, _ => .ex x ρ
  | .bad, _ => .bad
def Fl.then : Fl → (Env → Fl) → Fl
  | .nx ρ, f => f ρ
  | r, _ => r
def forLoop (body : D → Env → Fl) : List D → Env → Fl
  | [], ρ => .nx ρ
  | d :: ds, ρ => match body d ρ with
    | .nx ρ1 => forLoop body ds ρ1
    | .ct ρ1 => forLoop body ds ρ1
    | .bk ρ1 => .nx ρ1
    | r => r
def whlLoop (t : Env → R Bool) (body : Env → Fl) : Nat → Env → Fl
  | 0, _ => .bad
  | n + 1, ρ => Fl.of (t ρ) fun c ρ1 => if c then match body ρ1 with
    | .nx ρ2 => whlLoop t body n ρ2
    | .ct ρ2 => whlLoop t body n ρ2
    | .bk ρ2 => .nx ρ2
    | r => r
    else .nx ρ1
/-- the list that a slot owns -/
def lstOf : W → Option (List O)
  | .own (.l os) => some os
  | .io (.l os) => some os
  | _ => none
/-- whether a slot owns a list -/
def isL (i : Nat) (ρ : Env) : Bool := match ρ[i]? with
  | some (some x) => (lstOf x).isSome
  | _ => false
/-- the list of a slot changed -/
def chg (i : Nat) (ρ : Env) (f : List O → Option (List O)) : Fl := match ρ[i]? with
  | some (some x) => match lstOf x with
    | some os => match f os with
      | some os' => .nx (ρ.set i (some (x.re (.l os'))))
      | none => .bad
    | none => .bad
  | _ => .bad
def setF (k : D) (x : W) (os : List O) : Option (List O) := match k with
  | .int n => (ixN os.length n).map fun j => os.set j x.o
  | _ => none
def appF (x : W) (os : List O) : Option (List O) := if os.length < sizeLine then some (os ++ [x.o]) else none
def app2F (k : D) (d : D) (os : List O) : Option (List O) := match k with
  | .int n => (ixN os.length n).bind fun m => match os[m]? with
    | some (.l ps) => if ps.length < sizeLine then some (os.set m (.l (ps ++ [.d d]))) else none
    | _ => none
  | _ => none
def extF (d : D) (os : List O) : Option (List O) := match d with
  | .list ds => if os.length + ds.length ≤ sizeLine then some (os ++ ds.map .d) else none
  | _ => none
mutual
def HE.ev : HE → List D → Env → Option D
  | .k c, _, _ => some c
  | .line, as, _ => as[0]?
  | .isi, _, _ => some (.bool true)
  | .v i, _, ρ => match ρ[i]? with
    | some (some (.fz d)) => some d
    | _ => none
  | .lst es, as, ρ => (es.ev as ρ).map .list
  | .tup es, as, ρ => (es.ev as ρ).map .tuple
def HEs.ev : HEs → List D → Env → Option (List D)
  | .nil, _, _ => some []
  | .cons e r, as, ρ => match e.ev as ρ with
    | some d => (r.ev as ρ).map (d :: ·)
    | none => none
end
def HB.ex : HB → List D → Env → Fl
  | .ret e, as, ρ => match e.ev as ρ with
    | some d => .rt (.fz d) ρ
    | none => .bad
  | .asg i e, as, ρ => match e.ev as ρ with
    | some d => .nx (ρ.set i (some (.fz d)))
    | none => .bad
def wipeN : Option Nat → Env → Env
  | some i, ρ => ρ.set i none
  | none, ρ => ρ
def Fl.mapE (f : Env → Env) : Fl → Fl
  | .nx ρ => .nx (f ρ)
  | .rt x ρ => .rt x (f ρ)
  | .bk ρ => .bk (f ρ)
  | .ct ρ => .ct (f ρ)
  | r => r
def Hs.ex : Hs → Xn → Env → Fl
  | .nil, x, ρ => .ex x ρ
  | .cons c nm b r, x, ρ => if x.cls = c then (b.ex x.args (wipeN nm ρ)).mapE (wipeN nm) else r.ex x ρ
section
variable (cf : CF) (g : G) (fuel : Nat)
mutual
def S.ex : S → Env → Fl
  | .asg t e, ρ => Fl.of (e.ev cf g ρ) fun z ρ1 => Fl.of (nonBw z ρ1) fun x ρ2 => match t with
    | .n i => .nx (ρ2.set i (some x))
    | t => match setTg t x.dat ρ2 with
      | some ρ3 => .nx ρ3
      | none => .bad
  | .par i j a b, ρ => Fl.of (a.ev cf g ρ) fun za ρ1 => Fl.of (nonBw za ρ1) fun xa ρ2 => Fl.of (b.ev cf g ρ2) fun zb ρ3 => Fl.of (nonBw zb ρ3) fun xb ρ4 => .nx ((ρ4.set i (some xa)).set j (some xb))
  | .set i k e, ρ => Fl.of (e.ev cf g ρ) fun z ρ1 => Fl.of (nonBw z ρ1) fun x ρ2 => if isL i ρ2 then Fl.of (k.ev cf g ρ2) fun zk ρ3 => chg i ρ3 (setF zk.dat x) else .bad
  | .app i e, ρ => if isL i ρ then Fl.of (e.ev cf g ρ) fun z ρ1 => Fl.of (nonBw z ρ1) fun x ρ2 => chg i ρ2 (appF x) else .bad
  | .app2 i k j, ρ => if isL i ρ then Fl.of (k.ev cf g ρ) fun zk ρ1 => match ρ1[j]? with
    | some (some (.fz d)) => chg i ρ1 (app2F zk.dat d)
    | _ => .bad else .bad
  | .ext i e, ρ => if isL i ρ then Fl.of (e.ev cf g ρ) fun z ρ1 => Fl.of (nonBw z ρ1) fun x ρ2 => chg i ρ2 (extF x.dat) else .bad
  | .xp e, ρ => Fl.of (e.ev cf g ρ) fun _ ρ1 => .nx ρ1
  | .ife t a b, ρ => Fl.of (t.tst cf g ρ) fun c ρ1 => if c then a.ex ρ1 else b.ex ρ1
  | .for t it b, ρ => Fl.of (it.ev cf g ρ) fun ds ρ1 => forLoop (fun d ρ => match setTg t d ρ with
      | some ρ' => b.ex ρ'
      | none => .bad) ds ρ1
  | .whl t b, ρ => whlLoop (t.tst cf g) b.ex fuel ρ
  | .ret e, ρ => Fl.of (e.ev cf g ρ) fun z ρ1 => Fl.of (nonBw z ρ1) fun x ρ2 => .rt x ρ2
  | .raise c es, ρ => Fl.of (es.ev cf g ρ) fun as ρ1 => match onlyW as with
    | some ws => .ex ⟨c, ws.map W.dat⟩ ρ1
    | none => .bad
  | .tri b hs, ρ => match b.ex ρ with
    | .ex x ρ1 => hs.ex x ρ1
    | r => r
  | .brk, ρ => .bk ρ
  | .cont, ρ => .ct ρ
  | .pass, ρ => .nx ρ
  | .nev, _ => .bad
def Ss.ex : Ss → Env → Fl
  | .nil, ρ => .nx ρ
  | .cons s r, ρ => (s.ex ρ).then r.ex
end
end

/-! ### functions -/
structure Fn where
  name : Str
  /-- parameters; all names by slot -/
  ps : List Str
  N : List Str
  /-- which parameters are handed in to be changed -/
  io : List Nat
  body : Ss
def outsOf (ρ : Env) : List Nat → Option (List O)
  | [] => some []
  | i :: r => match ρ[i]? with
    | some (some (.io o)) => (outsOf ρ r).map (o :: ·)
    | _ => none
def finish (io : List Nat) : Fl → RC
  | .nx ρ => match outsOf ρ io with
    | some os => .ret (.fz .none) os
    | none => .bad
  | .rt x ρ => match outsOf ρ io with
    | some os => if x.isIo then .bad else .ret x os
    | none => .bad
  | .ex x _ => .ex x
  | _ => .bad
/-- whether the arguments fit: owned ones exactly where they are to be changed -/
def fits (io : List Nat) : Nat → List W → Bool
  | _, [] => true
  | i, .fz _ :: r => !io.contains i && fits io (i + 1) r
  | i, _ :: r => io.contains i && fits io (i + 1) r
def toIo : W → W
  | .own o => .io o
  | x => x
def startE (n : Nat) (ws : List W) : Env := ws.map (some ∘ toIo) ++ List.replicate (n - ws.length) none
def callN (tab : Str → Option Fn) (g : G) (fuel : Nat) : Nat → CF
  | 0, _, _ => .bad
  | n + 1, f, ws => match tab f with
    | some d => if ws.length = d.ps.length ∧ fits d.io 0 ws = true then finish d.io (d.body.ex (callN tab g fuel n) g fuel (startE d.N.length ws)) else .bad
    | none => .bad
end Co

set_option Elab.async false
set_option linter.all false
set_option maxRecDepth 100000
set_option maxHeartbeats 4000000
namespace Co
open PySem PySem.Spec PyProof.Rows L2
/-! ### data in a heap -/
theorem same_sqT {K : PySem.W.Frag} {H H' : Hp} {a : Addr} {xs : List V} (e : Same H H') (h : SqT K H a xs) : SqT K H' a xs := by
  rcases h with (h | ⟨o, h⟩) | h
  · exact .inl (.inl (e _ _ h))
  · exact .inl (.inr ⟨o, e _ _ h⟩)
  · exact .inr h
mutual
inductive Rp (K : PySem.W.Frag) (F : Hp) : V → D → Prop
  | non : Rp K F .non .none
  | bl (b : Bool) : Rp K F (.bl b) (.bool b)
  | int (i : Int) : Rp K F (.int i) (.int i)
  | str (x : Str) : Rp K F (.str x) (.str x)
  | lst {a : Addr} {xs : List V} {ds : List D} : F a = some (.lst xs) → Rps K F xs ds → Rp K F (.ref a) (.list ds)
  | tup {a : Addr} {xs : List V} {ds : List D} : SqT K F a xs → Rps K F xs ds → Rp K F (.ref a) (.tuple ds)
  /-- the script -/
  | scr {a : Addr} (ns : List Int) : SqL K F a (ns.map V.int) → Rp K F (.ref a) (.dict [(.none, .list (ns.map .int))])
inductive Rps (K : PySem.W.Frag) (F : Hp) : List V → List D → Prop
  | nil : Rps K F [] []
  | cons {v : V} {vs : List V} {d : D} {ds : List D} : Rp K F v d → Rps K F vs ds → Rps K F (v :: vs) (d :: ds)
end
section
variable {K : PySem.W.Frag} {F F' H H' : Hp}
mutual
theorem Rp.mono (e : Same F F') : ∀ {d : D} {v : V}, Rp K F v d → Rp K F' v d
  | .none, _, h => by cases h; exact .non
  | .bool b, _, h => by cases h; exact .bl b
  | .int i, _, h => by cases h; exact .int i
  | .str x, _, h => by cases h; exact .str x
  | .list ds, _, h => by cases h with | lst s r => exact .lst (e _ _ s) (Rps.mono e r)
  | .tuple ds, _, h => by cases h with | tup s r => exact .tup (same_sqT e s) (Rps.mono e r)
  | .dict _, _, h => by cases h with | scr ns s => exact .scr ns (e.seq s)
theorem Rps.mono (e : Same F F') : ∀ {ds : List D} {vs : List V}, Rps K F vs ds → Rps K F' vs ds
  | [], _, h => by cases h; exact .nil
  | d :: ds, _, h => by cases h with | cons h1 h2 => exact .cons (Rp.mono e h1) (Rps.mono e h2)
end
mutual
theorem Rp.dp : ∀ {d : D} {v : V}, Rp K F v d → d.canLay0 = true → Dp K F v d
  | .none, _, h, _ => by cases h; exact .non
  | .bool b, _, h, _ => by cases h; exact .bl b
  | .int i, _, h, _ => by cases h; exact .int i
  | .str x, _, h, _ => by cases h; exact .str x
  | .list ds, _, h, c => by cases h with | lst s r => exact .lst (.inl (.inl s)) (Rps.dp r (by simpa [PyData.canLay0] using c))
  | .tuple ds, _, h, c => by cases h with | tup s r => exact .tup s (Rps.dp r (by simpa [PyData.canLay0] using c))
  | .dict _, _, h, c => by simp [PyData.canLay0] at c
theorem Rps.dp : ∀ {ds : List D} {vs : List V}, Rps K F vs ds → PyData.canLayAll0 ds = true → DpAll K F vs ds
  | [], _, h, _ => by cases h; exact .nil
  | d :: ds, _, h, c => by
    have c' : d.canLay0 = true ∧ PyData.canLayAll0 ds = true := by simpa [PyData.canLayAll0] using c
    cases h with | cons h1 h2 => exact .cons (Rp.dp h1 c'.1) (Rps.dp h2 c'.2)
end
theorem Rps.length {vs : List V} {ds : List D} (h : Rps K F vs ds) : vs.length = ds.length := by
  induction ds generalizing vs with
  | nil => cases h; rfl
  | cons d ds ih => cases h with | cons h1 h2 => simp [ih h2]
theorem Rps.append : ∀ {ds es : List D} {vs us : List V}, Rps K F vs ds → Rps K F us es → Rps K F (vs ++ us) (ds ++ es)
  | [], _, _, _, h, h' => by cases h; exact h'
  | d :: ds, _, _, _, h, h' => by cases h with | cons h1 h2 => exact .cons h1 (Rps.append h2 h')
theorem Rps.take : ∀ {ds : List D} {vs : List V} (n : Nat), Rps K F vs ds → Rps K F (vs.take n) (ds.take n)
  | _, _, 0, _ => .nil
  | [], _, _ + 1, h => by cases h; exact .nil
  | d :: ds, _, n + 1, h => by cases h with | cons h1 h2 => exact .cons h1 (Rps.take n h2)
theorem Rps.drop : ∀ {ds : List D} {vs : List V} (n : Nat), Rps K F vs ds → Rps K F (vs.drop n) (ds.drop n)
  | _, _, 0, h => h
  | [], _, _ + 1, h => by cases h; exact .nil
  | d :: ds, _, n + 1, h => by cases h with | cons h1 h2 => exact Rps.drop n h2
theorem Rps.get : ∀ {ds : List D} {vs : List V} {i : Nat} {d : D}, Rps K F vs ds → ds[i]? = some d → ∃ v, vs[i]? = some v ∧ Rp K F v d
  | [], _, _, _, _, e => by simp at e
  | d :: ds, _, 0, _, h, e => by cases h with | cons h1 h2 => simp at e; subst e; exact ⟨_, rfl, h1⟩
  | d :: ds, _, i + 1, _, h, e => by cases h with | cons h1 h2 => simpa using Rps.get (i := i) h2 (by simpa using e)
theorem Rps.getV : ∀ {ds : List D} {vs : List V} {i : Nat} {v : V}, Rps K F vs ds → vs[i]? = some v → ∃ d, ds[i]? = some d ∧ Rp K F v d
  | [], _, _, _, h, e => by cases h; simp at e
  | d :: ds, _, 0, _, h, e => by cases h with | cons h1 h2 => simp at e; subst e; exact ⟨_, rfl, h1⟩
  | d :: ds, _, i + 1, _, h, e => by cases h with | cons h1 h2 => simpa using Rps.getV (i := i) h2 (by simpa using e)

/-! ### lists of one's own -/
mutual
inductive OR (K : PySem.W.Frag) (F H : Hp) : V → O → List Addr → Prop
  | d {v : V} {x : D} : Rp K F v x → OR K F H v (.d x) []
  | l {p : Addr} {vs : List V} {os : List O} {A : List Addr} : H p = some (.lst vs) → ORs K F H vs os A → OR K F H (.ref p) (.l os) (p :: A)
inductive ORs (K : PySem.W.Frag) (F H : Hp) : List V → List O → List Addr → Prop
  | nil : ORs K F H [] [] []
  | cons {v : V} {vs : List V} {o : O} {os : List O} {A B : List Addr} : OR K F H v o A → ORs K F H vs os B → ORs K F H (v :: vs) (o :: os) (A ++ B)
end
mutual
theorem OR.congr (e : Same F F') : ∀ {o : O} {v : V} {A : List Addr}, OR K F H v o A → (∀ a ∈ A, H' a = H a) → OR K F' H' v o A
  | .d _, _, _, h, _ => by cases h with | d r => exact .d (r.mono e)
  | .l os, _, _, h, q => by
    cases h with
    | l hp r => exact .l (by rw [q _ List.mem_cons_self]; exact hp) (ORs.congr e r fun a ha => q a (List.mem_cons_of_mem _ ha))
theorem ORs.congr (e : Same F F') : ∀ {os : List O} {vs : List V} {A : List Addr}, ORs K F H vs os A → (∀ a ∈ A, H' a = H a) → ORs K F' H' vs os A
  | [], _, _, h, _ => by cases h; exact .nil
  | o :: os, _, _, h, q => by
    cases h with
    | cons h1 h2 => exact .cons (OR.congr e h1 fun a ha => q a (List.mem_append_left _ ha)) (ORs.congr e h2 fun a ha => q a (List.mem_append_right _ ha))
end
mutual
theorem OR.there : ∀ {o : O} {v : V} {A : List Addr}, OR K F H v o A → ∀ a ∈ A, ∃ xs, H a = some (.lst xs)
  | .d _, _, _, h, a, ha => by cases h with | d r => cases ha
  | .l os, _, _, h, a, ha => by
    cases h with
    | l hp r =>
      rcases List.mem_cons.mp ha with e | ha
      · exact ⟨_, by rw [e]; exact hp⟩
      · exact ORs.there r a ha
theorem ORs.there : ∀ {os : List O} {vs : List V} {A : List Addr}, ORs K F H vs os A → ∀ a ∈ A, ∃ xs, H a = some (.lst xs)
  | [], _, _, h, a, ha => by cases h; cases ha
  | o :: os, _, _, h, a, ha => by
    cases h with
    | cons h1 h2 =>
      rcases List.mem_append.mp ha with ha | ha
      · exact OR.there h1 a ha
      · exact ORs.there h2 a ha
end
/-! frozen: what G says of the addresses of a list is what stands there -/
mutual
theorem OR.froz {G : Hp} (e : Same F G) : ∀ {o : O} {v : V} {A : List Addr}, OR K F H v o A → (∀ a ∈ A, G a = H a) → Rp K G v o.frz
  | .d _, _, _, h, _ => by cases h with | d r => exact r.mono e
  | .l os, _, _, h, q => by
    cases h with
    | l hp r => exact .lst (by rw [q _ List.mem_cons_self]; exact hp) (ORs.froz e r fun a ha => q a (List.mem_cons_of_mem _ ha))
theorem ORs.froz {G : Hp} (e : Same F G) : ∀ {os : List O} {vs : List V} {A : List Addr}, ORs K F H vs os A → (∀ a ∈ A, G a = H a) → Rps K G vs (O.frzs os)
  | [], _, _, h, _ => by cases h; exact .nil
  | o :: os, _, _, h, q => by
    cases h with
    | cons h1 h2 => exact .cons (OR.froz e h1 fun a ha => q a (List.mem_append_left _ ha)) (ORs.froz e h2 fun a ha => q a (List.mem_append_right _ ha))
end
theorem OR.rd (e : Same F H) {o : O} {v : V} {A : List Addr} (h : OR K F H v o A) : Rp K H v o.frz := h.froz e fun _ _ => rfl
theorem ORs.rd (e : Same F H) {os : List O} {vs : List V} {A : List Addr} (h : ORs K F H vs os A) : Rps K H vs (O.frzs os) := h.froz e fun _ _ => rfl
theorem ORs.length : ∀ {os : List O} {vs : List V} {A : List Addr}, ORs K F H vs os A → vs.length = os.length
  | [], _, _, h => by cases h; rfl
  | o :: os, _, _, h => by cases h with | cons h1 h2 => simp [ORs.length h2]
theorem ORs.append : ∀ {os ps : List O} {vs us : List V} {A B : List Addr}, ORs K F H vs os A → ORs K F H us ps B → ORs K F H (vs ++ us) (os ++ ps) (A ++ B)
  | [], _, _, _, _, _, h, h' => by cases h; exact h'
  | o :: os, _, _, _, _, _, h, h' => by
    cases h with
    | cons h1 h2 => rw [List.append_assoc]; exact .cons h1 (ORs.append h2 h')
theorem Rps.ors : ∀ {ds : List D} {vs : List V}, Rps K F vs ds → ORs K F H vs (ds.map .d) []
  | [], _, h => by cases h; exact .nil
  | d :: ds, _, h => by cases h with | cons h1 h2 => exact ORs.cons (A := []) (B := []) (.d h1) (Rps.ors h2)
/-- the i-th one apart -/
theorem ORs.split : ∀ {os : List O} {vs : List V} {A : List Addr} {i : Nat} {o : O}, ORs K F H vs os A → os[i]? = some o →
    ∃ v A1 A2 A3, vs[i]? = some v ∧ OR K F H v o A2 ∧ A = A1 ++ (A2 ++ A3) ∧
      ∀ (F' H' : Hp) (v' : V) (o' : O) (A2' : List Addr), Same F F' → (∀ a ∈ A1 ++ A3, H' a = H a) → OR K F' H' v' o' A2' → ORs K F' H' (vs.set i v') (os.set i o') (A1 ++ (A2' ++ A3))
  | [], _, _, _, _, _, e => by simp at e
  | o :: os, _, _, 0, x, h, e => by
    cases h with
    | @cons v vs _ _ A B h1 h2 =>
      simp at e
      subst e
      exact ⟨v, [], A, B, rfl, h1, rfl, fun F' H' v' o' A2' sf q h' => by rw [List.nil_append]; exact .cons h' (h2.congr sf q)⟩
  | o :: os, _, _, i + 1, x, h, e => by
    cases h with
    | @cons v vs _ _ A B h1 h2 =>
      obtain ⟨w, A1, A2, A3, e1, e2, e3, f⟩ := ORs.split (i := i) h2 (by simpa using e)
      refine ⟨w, A ++ A1, A2, A3, by simpa using e1, e2, by rw [e3, List.append_assoc], fun F' H' v' o' A2' sf q h' => ?_⟩
      rw [List.append_assoc]
      exact ORs.cons (h1.congr sf fun a ha => q a (by simp [ha])) (f F' H' v' o' A2' sf (fun a ha => q a (by
        rcases List.mem_append.mp ha with z | z
        · exact List.mem_append_left _ (List.mem_append_right _ z)
        · exact List.mem_append_right _ z)) h')
end

/-! ### a bag of values that are held -/
/-- the entry: heaps H₀, F₀; what may be changed of it; slots that stay -/
structure Ba where
  H0 : Hp
  F0 : Hp
  P : List Addr
  io : List (Nat × V)
section
variable {K : PySem.W.Frag} {F F' H H' : Hp} {B : Ba}
/-- footprints: own ones are new, handed in ones may be old -/
inductive Bag (K : PySem.W.Frag) (B : Ba) (F H : Hp) : List (V × W) → List Addr → Prop
  | nil : Bag K B F H [] []
  | fz {v : V} {d : D} {L : List (V × W)} {A : List Addr} : Rp K F v d → Bag K B F H L A → Bag K B F H ((v, .fz d) :: L) A
  | own {v : V} {o : O} {L : List (V × W)} {A1 A : List Addr} : OR K F H v o A1 → (∀ a ∈ A1, B.H0 a = none) → Bag K B F H L A → Bag K B F H ((v, .own o) :: L) (A1 ++ A)
  | io {v : V} {o : O} {L : List (V × W)} {A1 A : List Addr} : OR K F H v o A1 → (∀ a ∈ A1, B.H0 a = none ∨ a ∈ B.P) → Bag K B F H L A → Bag K B F H ((v, .io o) :: L) (A1 ++ A)
theorem Bag.perm {L L' : List (V × W)} (p : L.Perm L') : ∀ {A : List Addr}, Bag K B F H L A → ∃ A', A.Perm A' ∧ Bag K B F H L' A' := by
  induction p with
  | nil => exact fun h => ⟨_, .refl _, h⟩
  | cons x p ih =>
    intro A h
    cases h with
    | fz r t => obtain ⟨A', q, t'⟩ := ih t; exact ⟨A', q, .fz r t'⟩
    | own r n t => obtain ⟨A', q, t'⟩ := ih t; exact ⟨_, List.Perm.append_left _ q, .own r n t'⟩
    | io r n t => obtain ⟨A', q, t'⟩ := ih t; exact ⟨_, List.Perm.append_left _ q, .io r n t'⟩
  | swap x y l =>
    intro A h
    have sw : ∀ (A1 A2 A3 : List Addr), (A1 ++ (A2 ++ A3)).Perm (A2 ++ (A1 ++ A3)) := fun A1 A2 A3 => by
      rw [← List.append_assoc, ← List.append_assoc]
      exact List.Perm.append_right _ List.perm_append_comm
    cases h with
    | fz r t =>
      cases t with
      | fz r' t' => exact ⟨_, .refl _, .fz r' (.fz r t')⟩
      | own r' n' t' => exact ⟨_, .refl _, .own r' n' (.fz r t')⟩
      | io r' n' t' => exact ⟨_, .refl _, .io r' n' (.fz r t')⟩
    | own r n t =>
      cases t with
      | fz r' t' => exact ⟨_, .refl _, .fz r' (.own r n t')⟩
      | own r' n' t' => exact ⟨_, sw _ _ _, .own r' n' (.own r n t')⟩
      | io r' n' t' => exact ⟨_, sw _ _ _, .io r' n' (.own r n t')⟩
    | io r n t =>
      cases t with
      | fz r' t' => exact ⟨_, .refl _, .fz r' (.io r n t')⟩
      | own r' n' t' => exact ⟨_, sw _ _ _, .own r' n' (.io r n t')⟩
      | io r' n' t' => exact ⟨_, sw _ _ _, .io r' n' (.io r n t')⟩
  | trans p q ih1 ih2 =>
    intro A h
    obtain ⟨A1, q1, h1⟩ := ih1 h
    obtain ⟨A2, q2, h2⟩ := ih2 h1
    exact ⟨A2, q1.trans q2, h2⟩
theorem Bag.congr (e : Same F F') : ∀ {L : List (V × W)} {A : List Addr}, Bag K B F H L A → (∀ a ∈ A, H' a = H a) → Bag K B F' H' L A := by
  intro L A h
  induction h with
  | nil => exact fun _ => .nil
  | fz r t ih => exact fun q => .fz (r.mono e) (ih q)
  | own r n t ih => exact fun q => .own (r.congr e fun a ha => q a (List.mem_append_left _ ha)) n (ih fun a ha => q a (List.mem_append_right _ ha))
  | io r n t ih => exact fun q => .io (r.congr e fun a ha => q a (List.mem_append_left _ ha)) n (ih fun a ha => q a (List.mem_append_right _ ha))
theorem Bag.there {L : List (V × W)} {A : List Addr} (h : Bag K B F H L A) : ∀ a ∈ A, ∃ xs, H a = some (.lst xs) := by
  induction h with
  | nil => intro a ha; cases ha
  | fz r t ih => exact ih
  | own r n t ih => exact fun a ha => (List.mem_append.mp ha).elim (r.there a) (ih a)
  | io r n t ih => exact fun a ha => (List.mem_append.mp ha).elim (r.there a) (ih a)
theorem Bag.append {L L' : List (V × W)} {A A' : List Addr} (h : Bag K B F H L A) (h' : Bag K B F H L' A') : Bag K B F H (L ++ L') (A ++ A') := by
  induction h with
  | nil => exact h'
  | fz r t ih => exact .fz r ih
  | own r n t ih => rw [List.append_assoc]; exact .own r n ih
  | io r n t ih => rw [List.append_assoc]; exact .io r n ih
theorem Bag.cut : ∀ {L L' : List (V × W)} {A : List Addr}, Bag K B F H (L ++ L') A → ∃ A1 A2, A = A1 ++ A2 ∧ Bag K B F H L A1 ∧ Bag K B F H L' A2
  | [], _, _, h => ⟨[], _, rfl, .nil, h⟩
  | x :: L, L', _, h => by
    cases h with
    | fz r t => obtain ⟨A1, A2, e, h1, h2⟩ := Bag.cut t; exact ⟨A1, A2, e, .fz r h1, h2⟩
    | own r n t => obtain ⟨A1, A2, e, h1, h2⟩ := Bag.cut t; exact ⟨_ ++ A1, A2, by rw [e, List.append_assoc], .own r n h1, h2⟩
    | io r n t => obtain ⟨A1, A2, e, h1, h2⟩ := Bag.cut t; exact ⟨_ ++ A1, A2, by rw [e, List.append_assoc], .io r n h1, h2⟩
theorem Bag.old {L : List (V × W)} {A : List Addr} (h : Bag K B F H L A) : ∀ a ∈ A, B.H0 a = none ∨ a ∈ B.P := by
  induction h with
  | nil => intro a ha; cases ha
  | fz r t ih => exact ih
  | own r n t ih => exact fun a ha => (List.mem_append.mp ha).elim (fun z => .inl (n a z)) (ih a)
  | io r n t ih => exact fun a ha => (List.mem_append.mp ha).elim (n a) (ih a)

/-- the state as it is held: F what is frozen -/
structure Rx (K : PySem.W.Frag) (B : Ba) (F H : Hp) (L : List (V × W)) : Prop where
  bag : ∃ A, Bag K B F H L A ∧ A.Nodup ∧ ∀ a ∈ A, F a = none
  sub : Same F H
  keep : ∀ a o, B.H0 a = some o → a ∉ B.P → H a = some o
  dom : ∀ a, B.H0 a ≠ none → H a ≠ none
  old : ∀ a, B.H0 a ≠ none → F a = B.F0 a
section
variable {L L' : List (V × W)} {v : V} {x : W} {d : D} {o : O}
theorem Rx.perm (h : Rx K B F H L) (p : L.Perm L') : Rx K B F H L' := by
  obtain ⟨⟨A, b, n, f⟩, s, k, dm, ol⟩ := h
  obtain ⟨A', q, b'⟩ := b.perm p
  exact ⟨⟨A', b', q.nodup_iff.mp n, fun a ha => f a (q.mem_iff.mpr ha)⟩, s, k, dm, ol⟩
theorem Rx.drop (h : Rx K B F H ((v, x) :: L)) : Rx K B F H L := by
  obtain ⟨⟨A, b, n, f⟩, s, k, dm, ol⟩ := h
  refine ⟨?_, s, k, dm, ol⟩
  cases b with
  | fz r t => exact ⟨_, t, n, f⟩
  | own r m t => exact ⟨_, t, (List.nodup_append.mp n).2.1, fun a ha => f a (List.mem_append_right _ ha)⟩
  | io r m t => exact ⟨_, t, (List.nodup_append.mp n).2.1, fun a ha => f a (List.mem_append_right _ ha)⟩
theorem Rx.drops : ∀ {L : List (V × W)}, Rx K B F H (L ++ L') → Rx K B F H L'
  | [], h => h
  | (_, _) :: L, h => Rx.drops (L := L) h.drop
theorem Rx.addfz (h : Rx K B F H L) (r : Rp K F v d) : Rx K B F H ((v, .fz d) :: L) := by
  obtain ⟨⟨A, b, n, f⟩, s, k, dm, ol⟩ := h
  exact ⟨⟨A, .fz r b, n, f⟩, s, k, dm, ol⟩
theorem Rx.hd_fz (h : Rx K B F H ((v, .fz d) :: L)) : Rp K F v d := by
  obtain ⟨A, b, n, f⟩ := h.bag
  cases b with
  | fz r t => exact r
/-- what is held can be read -/
theorem Rx.hd_rd (h : Rx K B F H ((v, x) :: L)) : Rp K H v x.dat := by
  obtain ⟨A, b, n, f⟩ := h.bag
  cases b with
  | fz r t => exact r.mono h.sub
  | own r m t => exact r.rd h.sub
  | io r m t => exact r.rd h.sub
theorem Rx.hd_or (h : Rx K B F H ((v, x) :: L)) : ∃ A, OR K F H v x.o A := by
  obtain ⟨A, b, n, f⟩ := h.bag
  cases b with
  | fz r t => exact ⟨_, .d r⟩
  | own r m t => exact ⟨_, r⟩
  | io r m t => exact ⟨_, r⟩
/-- an own list is frozen -/
theorem Rx.frz (h : Rx K B F H ((v, x) :: L)) (hx : x.isIo = false) : ∃ F', Same F F' ∧ Rx K B F' H ((v, .fz x.dat) :: L) := by
  obtain ⟨⟨A, b, n, f⟩, s, k, dm, ol⟩ := h
  cases b with
  | fz r t => exact ⟨F, Same.refl F, ⟨⟨A, .fz r t, n, f⟩, s, k, dm, ol⟩⟩
  | io r m t => simp [W.isIo] at hx
  | @own _ o _ A1 A2 r m t =>
    have nd := List.nodup_append.mp n
    have sF : Same F (fun a => if a ∈ A1 then H a else F a) := fun a u e => by
      show (if a ∈ A1 then H a else F a) = some u
      rw [if_neg fun z => by rw [f a (List.mem_append_left _ z)] at e; cases e]
      exact e
    refine ⟨_, sF, ⟨⟨A2, .fz (r.froz sF fun a ha => if_pos ha) (t.congr sF fun _ _ => rfl), nd.2.1, fun a ha => ?_⟩, fun a u e => ?_, k, dm, fun a ha => ?_⟩⟩
    · show (if a ∈ A1 then H a else F a) = none
      rw [if_neg fun z => nd.2.2 a z a ha rfl]
      exact f a (List.mem_append_right _ ha)
    · have e' : (if a ∈ A1 then H a else F a) = some u := e
      by_cases z : a ∈ A1
      · rw [if_pos z] at e'; exact e'
      · rw [if_neg z] at e'; exact s a u e'
    · show (if a ∈ A1 then H a else F a) = _
      rw [if_neg fun z => ha (m a z)]
      exact ol a ha
theorem Rx.h0 (h : Rx K B F H L) {p : Addr} (hp : H p = none) : B.H0 p = none := by
  cases e : B.H0 p with
  | none => rfl
  | some u => exact absurd hp (h.dom p (by rw [e]; exact fun z => nomatch z))
theorem Rx.f0 (h : Rx K B F H L) {p : Addr} (hp : H p = none) : F p = none := by
  cases e : F p with
  | none => rfl
  | some u => rw [h.sub p u e] at hp; cases hp
theorem same_updN {H : Hp} {p : Addr} {o : HO} (h : H p = none) : Same H (upd H p o) := fun b u e => by
  rw [upd_ne (ne_of_none e h)]
  exact e
/-- a new object is laid, untouched -/
theorem Rx.grow (h : Rx K B F H L) {p : Addr} {u : HO} (hp : H p = none) : Rx K B F (upd H p u) L := by
  have h0 := h.h0 hp
  have f0 := h.f0 hp
  obtain ⟨⟨A, b, n, f⟩, s, k, dm, ol⟩ := h
  have ne : ∀ a ∈ A, a ≠ p := fun a ha e => by
    obtain ⟨xs, q⟩ := b.there a ha
    rw [e, hp] at q; cases q
  refine ⟨⟨A, b.congr (Same.refl F) fun a ha => upd_ne (ne a ha), n, f⟩, fun a o e => ?_, fun a o e z => ?_, fun a z => ?_, ol⟩
  · rw [upd_ne (ne_of_none (s a o e) hp)]; exact s a o e
  · rw [upd_ne (ne_of_none e h0)]; exact k a o e z
  · by_cases e : a = p
    · rw [e, upd_same]; exact fun z => nomatch z
    · rw [upd_ne e]; exact dm a z
/-- .. and frozen -/
theorem Rx.growF (h : Rx K B F H L) {p : Addr} {u : HO} (hp : H p = none) : Same F (upd F p u) ∧ Rx K B (upd F p u) (upd H p u) L := by
  have h0 := h.h0 hp
  have f0 := h.f0 hp
  have sF : Same F (upd F p u) := same_updN f0
  obtain ⟨⟨A, b, n, f⟩, s, k, dm, ol⟩ := h
  have ne : ∀ a ∈ A, a ≠ p := fun a ha e => by
    obtain ⟨xs, q⟩ := b.there a ha
    rw [e, hp] at q; cases q
  refine ⟨sF, ⟨⟨A, b.congr sF fun a ha => upd_ne (ne a ha), n, fun a ha => ?_⟩, fun a o e => ?_, fun a o e z => ?_, fun a z => ?_, fun a z => ?_⟩⟩
  · rw [upd_ne (ne a ha)]; exact f a ha
  · by_cases e' : a = p
    · rw [e', upd_same] at e; rw [e', upd_same]; exact e
    · rw [upd_ne e'] at e; rw [upd_ne e']; exact s a o e
  · rw [upd_ne (ne_of_none e h0)]; exact k a o e z
  · by_cases e : a = p
    · rw [e, upd_same]; exact fun z => nomatch z
    · rw [upd_ne e]; exact dm a z
  · rw [upd_ne fun e => z (by rw [e]; exact h0)]
    exact ol a z
/-- a new tuple of data -/
theorem Rx.newTup (h : Rx K B F H L) {p : Addr} {vs : List V} {ds : List D} (hp : H p = none) (r : Rps K F vs ds) : Rx K B (upd F p (.tup vs)) (upd H p (.tup vs)) ((.ref p, .fz (.tuple ds)) :: L) := by
  obtain ⟨sF, h'⟩ := h.growF (u := .tup vs) hp
  exact h'.addfz (.tup (.inl (.inl upd_same)) (r.mono sF))
/-- held values as a row: those of M, in order -/
theorem Bag.ors {M : List (V × W)} {A : List Addr} (h : Bag K B F H M A) : ORs K F H (M.map (·.1)) (M.map (·.2.o)) A := by
  induction h with
  | nil => exact .nil
  | fz r t ih => exact ORs.cons (A := []) (.d r) ih
  | own r n t ih => exact .cons r ih
  | io r n t ih => exact .cons r ih
theorem Bag.new {M : List (V × W)} {A : List Addr} (h : Bag K B F H M A) (hm : ∀ p ∈ M, p.2.isIo = false) : ∀ a ∈ A, B.H0 a = none := by
  induction h with
  | nil => intro a ha; cases ha
  | fz r t ih => exact ih fun p hp => hm p (List.mem_cons_of_mem _ hp)
  | own r n t ih => exact fun a ha => (List.mem_append.mp ha).elim (n a) (ih (fun p hp => hm p (List.mem_cons_of_mem _ hp)) a)
  | @io v o L A1 A r n t ih =>
    have q := hm (v, .io o) List.mem_cons_self
    simp [W.isIo] at q
/-- a new list of values that were held -/
theorem Rx.newLst {M : List (V × W)} (h : Rx K B F H (M ++ L)) (hm : ∀ p ∈ M, p.2.isIo = false) {p : Addr} (hp : H p = none) :
    Rx K B F (upd H p (.lst (M.map (·.1)))) ((.ref p, .own (.l (M.map (·.2.o)))) :: L) := by
  have h' := h.grow (u := .lst (M.map (·.1))) hp
  have h0 := h.h0 hp
  have f0 := h.f0 hp
  have old : ∀ A, Bag K B F H (M ++ L) A → p ∉ A := fun A b ha => by
    obtain ⟨xs, q⟩ := b.there p ha
    rw [hp] at q; cases q
  obtain ⟨⟨A, b, n, f⟩, s, k, dm, ol⟩ := h'
  obtain ⟨A0, b0, n0, fq⟩ := h.bag
  obtain ⟨A1, A2, e, b1, b2⟩ := b0.cut
  have np := old A0 b0
  subst e
  have ne : ∀ a ∈ A1 ++ A2, a ≠ p := fun a ha e => np (e ▸ ha)
  refine ⟨⟨(p :: A1) ++ A2, .own (.l upd_same (b1.ors.congr (Same.refl F) fun a ha => upd_ne (ne a (List.mem_append_left _ ha)))) (fun a ha => ?_) (b2.congr (Same.refl F) fun a ha => upd_ne (ne a (List.mem_append_right _ ha))), ?_, fun a ha => ?_⟩, s, k, dm, ol⟩
  · rcases List.mem_cons.mp ha with z | z
    · rw [z]; exact h0
    · exact b1.new hm a z
  · show (p :: (A1 ++ A2)).Nodup
    exact List.nodup_cons.mpr ⟨np, n0⟩
  · rcases List.mem_cons.mp (show a ∈ p :: (A1 ++ A2) from ha) with z | z
    · rw [z]; exact f0
    · exact fq a z
end
end
end Co

set_option Elab.async false
set_option linter.all false
set_option maxRecDepth 100000
set_option maxHeartbeats 4000000
namespace Co
open PySem PySem.Spec PyProof.Rows L2
abbrev St := L2.St
/-! ### slots -/
def live : St → Env → List (V × W)
  | some v :: σ, some x :: ρ => (v, x) :: live σ ρ
  | none :: σ, _ :: ρ => live σ ρ
  | some _ :: σ, none :: ρ => live σ ρ
  | [], _ => []
  | _ :: _, [] => []
theorem live_none : ∀ {i : Nat} {σ : St} {ρ : Env} {v : V} {x : W}, σ[i]? = some (some v) → ρ[i]? = some (some x) → (live σ ρ).Perm ((v, x) :: live σ (ρ.set i none))
  | _, [], _, _, _, h, _ => by simp at h
  | _, _ :: _, [], _, _, _, h => by simp at h
  | 0, a :: σ, b :: ρ, v, x, h, h' => by
    simp at h h'
    subst h h'
    exact .refl _
  | i + 1, a :: σ, b :: ρ, v, x, h, h' => by
    have ih := live_none (i := i) (σ := σ) (ρ := ρ) (v := v) (x := x) (by simpa using h) (by simpa using h')
    cases a with
    | none => exact ih
    | some a =>
      cases b with
      | none => exact ih
      | some b => exact (ih.cons (a, b)).trans (.swap _ _ _)
theorem live_drop : ∀ {i : Nat} {σ : St} {ρ : Env}, ρ[i]? = some none → live σ (ρ.set i none) = live σ ρ
  | _, [], _, _ => rfl
  | _, _ :: _, [], h => by simp at h
  | 0, a :: σ, b :: ρ, h => by simp at h; subst h; rfl
  | i + 1, a :: σ, b :: ρ, h => by
    have ih := live_drop (i := i) (σ := σ) (ρ := ρ) (by simpa using h)
    cases a with
    | none => exact ih
    | some a =>
      cases b with
      | none => exact ih
      | some b =>
        show (a, b) :: live σ (ρ.set i none) = (a, b) :: live σ ρ
        rw [ih]
theorem live_set : ∀ {i : Nat} {σ : St} {ρ : Env} {v : V} {x : W}, i < σ.length → i < ρ.length → (live (σ.set i (some v)) (ρ.set i (some x))).Perm ((v, x) :: live σ (ρ.set i none))
  | _, [], _, _, _, h, _ => by simp at h
  | _, _ :: _, [], _, _, _, h => by simp at h
  | 0, a :: σ, b :: ρ, v, x, h, h' => by
    cases a with
    | none => exact .refl _
    | some a => exact .refl _
  | i + 1, a :: σ, b :: ρ, v, x, h, h' => by
    have ih := live_set (i := i) (σ := σ) (ρ := ρ) (v := v) (x := x) (by simpa using h) (by simpa using h')
    cases a with
    | none => exact ih
    | some a =>
      cases b with
      | none => exact ih
      | some b => exact (ih.cons (a, b)).trans (.swap _ _ _)
theorem live_keep : ∀ {i : Nat} {σ : St} {ρ : Env} {v : V} {x : W}, σ[i]? = some (some v) → i < ρ.length → (live σ (ρ.set i (some x))).Perm ((v, x) :: live σ (ρ.set i none))
  | _, [], _, _, _, h, _ => by simp at h
  | _, _ :: _, [], _, _, _, h => by simp at h
  | 0, a :: σ, b :: ρ, v, x, h, h' => by
    simp at h
    subst h
    exact .refl _
  | i + 1, a :: σ, b :: ρ, v, x, h, h' => by
    have ih := live_keep (i := i) (σ := σ) (ρ := ρ) (v := v) (x := x) (by simpa using h) (by simpa using h')
    cases a with
    | none => exact ih
    | some a =>
      cases b with
      | none => exact ih
      | some b => exact (ih.cons (a, b)).trans (.swap _ _ _)
theorem live_setN : ∀ {i : Nat} {σ : St} {ρ : Env} {a : Option V}, live (σ.set i a) (ρ.set i none) = live σ (ρ.set i none)
  | _, [], _, _ => rfl
  | 0, _ :: _, [], _ => by simp [live]
  | _ + 1, _ :: _, [], _ => by simp [live]
  | 0, a :: σ, b :: ρ, c => by
    cases a <;> cases c <;> rfl
  | i + 1, a :: σ, b :: ρ, c => by
    have ih := live_setN (i := i) (σ := σ) (ρ := ρ) (a := c)
    cases a with
    | none => exact ih
    | some a =>
      cases b with
      | none => exact ih
      | some b => exact congrArg _ ih
/-- every known slot has its value -/
def Dfd (σ : St) (ρ : Env) : Prop := ∀ (i : Nat) (x : W), ρ[i]? = some (some x) → ∃ v, σ[i]? = some (some v)
theorem Dfd.setN {σ : St} {ρ : Env} (h : Dfd σ ρ) (i : Nat) : Dfd σ (ρ.set i none) := fun j x e => by
  by_cases q : i = j
  · subst q
    by_cases z : i < ρ.length
    · rw [List.getElem?_set_self z] at e; cases e
    · rw [List.getElem?_eq_none (by simpa using z)] at e; cases e
  · rw [List.getElem?_set_ne q] at e
    exact h j x e
theorem Dfd.set {σ : St} {ρ : Env} (h : Dfd σ ρ) {i : Nat} (l : i < σ.length) (v : V) (x : W) : Dfd (σ.set i (some v)) (ρ.set i (some x)) := fun j y e => by
  by_cases q : i = j
  · subst q; exact ⟨v, List.getElem?_set_self l⟩
  · rw [List.getElem?_set_ne q] at e
    obtain ⟨u, hu⟩ := h j y e
    exact ⟨u, by rw [List.getElem?_set_ne q]; exact hu⟩
theorem Dfd.setNN {σ : St} {ρ : Env} (h : Dfd σ ρ) (i : Nat) (a : Option V) : Dfd (σ.set i a) (ρ.set i none) := fun j x e => by
  by_cases q : i = j
  · subst q
    by_cases z : i < ρ.length
    · rw [List.getElem?_set_self z] at e; cases e
    · rw [List.getElem?_eq_none (by simpa using z)] at e; cases e
  · rw [List.getElem?_set_ne q] at e ⊢
    exact h j x e
theorem Dfd.keep {σ : St} {ρ : Env} (h : Dfd σ ρ) {i : Nat} {v : V} (l : σ[i]? = some (some v)) (x : W) : Dfd σ (ρ.set i (some x)) := fun j y e => by
  by_cases q : i = j
  · subst q; exact ⟨v, l⟩
  · rw [List.getElem?_set_ne q] at e
    exact h j y e

/-- the state of a body: T values that are held besides -/
structure Rel (K : PySem.W.Frag) (B : Ba) (F H : Hp) (T : List (V × W)) (σ : St) (ρ : Env) : Prop where
  len : ρ.length = σ.length
  dfd : Dfd σ ρ
  rx : Rx K B F H (T ++ live σ ρ)
  io : ∀ p ∈ B.io, σ[p.1]? = some (some p.2)
section
variable {K : PySem.W.Frag} {F F' H H' : Hp} {B : Ba} {T T' : List (V × W)} {σ : St} {ρ : Env} {v : V} {x : W} {d : D} {o : O} {i : Nat}
theorem Rel.perm (h : Rel K B F H T σ ρ) (p : T.Perm T') : Rel K B F H T' σ ρ := ⟨h.len, h.dfd, h.rx.perm (p.append_right _), h.io⟩
theorem Rel.drop (h : Rel K B F H ((v, x) :: T) σ ρ) : Rel K B F H T σ ρ := ⟨h.len, h.dfd, h.rx.drop, h.io⟩
theorem Rel.drops : ∀ {M : List (V × W)}, Rel K B F H (M ++ T) σ ρ → Rel K B F H T σ ρ
  | [], h => h
  | (_, _) :: M, h => Rel.drops (M := M) h.drop
theorem Rel.addfz (h : Rel K B F H T σ ρ) (r : Rp K F v d) : Rel K B F H ((v, .fz d) :: T) σ ρ := ⟨h.len, h.dfd, h.rx.addfz r, h.io⟩
theorem Rel.hd_fz (h : Rel K B F H ((v, .fz d) :: T) σ ρ) : Rp K F v d := h.rx.hd_fz
theorem Rel.hd_rd (h : Rel K B F H ((v, x) :: T) σ ρ) : Rp K H v x.dat := h.rx.hd_rd
theorem Rel.sub (h : Rel K B F H T σ ρ) : Same F H := h.rx.sub
/-- the head frozen -/
theorem Rel.frz (h : Rel K B F H ((v, x) :: T) σ ρ) (hx : x.isIo = false) : ∃ F', Same F F' ∧ Rel K B F' H ((v, .fz x.dat) :: T) σ ρ := by
  obtain ⟨F', s, r⟩ := Rx.frz h.rx hx
  exact ⟨F', s, h.len, h.dfd, r, h.io⟩
theorem Rel.newTup (h : Rel K B F H T σ ρ) {p : Addr} {vs : List V} {ds : List D} (hp : H p = none) (r : Rps K F vs ds) : Rel K B (upd F p (.tup vs)) (upd H p (.tup vs)) ((.ref p, .fz (.tuple ds)) :: T) σ ρ :=
  ⟨h.len, h.dfd, h.rx.newTup hp r, h.io⟩
theorem Rel.newLst {M : List (V × W)} (h : Rel K B F H (M ++ T) σ ρ) (hm : ∀ p ∈ M, p.2.isIo = false) {p : Addr} (hp : H p = none) :
    Rel K B F (upd H p (.lst (M.map (·.1)))) ((.ref p, .own (.l (M.map (·.2.o)))) :: T) σ ρ :=
  ⟨h.len, h.dfd, Rx.newLst (L := T ++ live σ ρ) (by rw [← List.append_assoc]; exact h.rx) hm hp, h.io⟩
theorem Rel.lt (h : Rel K B F H T σ ρ) (e : ρ[i]? = some (some x)) : i < ρ.length := (List.getElem?_eq_some_iff.mp e).1
/-- a slot taken out -/
theorem Rel.out (h : Rel K B F H T σ ρ) (e : ρ[i]? = some (some x)) : ∃ v, σ[i]? = some (some v) ∧ Rel K B F H ((v, x) :: T) σ (ρ.set i none) := by
  obtain ⟨v, hv⟩ := h.dfd i x e
  refine ⟨v, hv, by simpa using h.len, h.dfd.setN i, h.rx.perm ?_, h.io⟩
  exact ((live_none hv e).append_left T).trans List.perm_middle
/-- .. put in again -/
theorem Rel.back (h : Rel K B F H ((v, x) :: T) σ (ρ.set i none)) (hv : σ[i]? = some (some v)) : Rel K B F H T σ (ρ.set i (some x)) := by
  have hl : ρ.length = σ.length := by simpa using h.len
  have li : i < ρ.length := by rw [hl]; exact (List.getElem?_eq_some_iff.mp hv).1
  have df : Dfd σ (ρ.set i (some x)) := fun j y e => by
    by_cases q : i = j
    · subst q; exact ⟨v, hv⟩
    · rw [List.getElem?_set_ne q] at e
      exact h.dfd j y (by rw [List.getElem?_set_ne q]; exact e)
  exact ⟨by simpa using h.len, df, h.rx.perm (List.perm_middle.symm.trans ((live_keep hv li).symm.append_left T)), h.io⟩
/-- a value stored in a slot -/
theorem Rel.store (h : Rel K B F H ((v, x) :: T) σ ρ) (hi : i < σ.length) (hio : ∀ p ∈ B.io, p.1 ≠ i) : Rel K B F H T (σ.set i (some v)) (ρ.set i (some x)) := by
  have li : i < ρ.length := by rw [h.len]; exact hi
  have h1 : Rx K B F H ((v, x) :: (T ++ live σ (ρ.set i none))) := by
    cases e : ρ[i]? with
    | none => exact absurd li (by simpa using e)
    | some y =>
      cases y with
      | none => rw [live_drop e]; exact h.rx
      | some y =>
        obtain ⟨u, hu⟩ := h.dfd i y e
        refine (h.rx.perm ((((live_none hu e).append_left ((v, x) :: T)).trans List.perm_middle))).drop
  refine ⟨by simpa using h.len, h.dfd.set hi v x, h1.perm (List.perm_middle.symm.trans ((live_set hi li).symm.append_left T)), fun p hp => ?_⟩
  rw [List.getElem?_set_ne (Ne.symm (hio p hp))]
  exact h.io p hp
/-- a slot forgotten -/
theorem Rel.forget (h : Rel K B F H T σ ρ) (hio : ∀ p ∈ B.io, p.1 ≠ i) (a : Option V) : Rel K B F H T (σ.set i a) (ρ.set i none) := by
  refine ⟨by simpa using h.len, h.dfd.setNN i a, ?_, fun p hp => ?_⟩
  · rw [live_setN]
    cases e : ρ[i]? with
    | none =>
      have : ρ.set i none = ρ := List.set_eq_of_length_le (by simpa using e)
      rw [this]; exact h.rx
    | some y =>
      cases y with
      | none => rw [live_drop e]; exact h.rx
      | some y =>
        obtain ⟨u, hu⟩ := h.dfd i y e
        exact (h.rx.perm (((live_none hu e).append_left T).trans List.perm_middle)).drop
  · rw [List.getElem?_set_ne (Ne.symm (hio p hp))]
    exact h.io p hp
theorem Rel.forget' (h : Rel K B F H T σ ρ) : Rel K B F H T σ (ρ.set i none) := by
  refine ⟨by simpa using h.len, h.dfd.setN i, ?_, h.io⟩
  cases e : ρ[i]? with
  | none =>
    have : ρ.set i none = ρ := List.set_eq_of_length_le (by simpa using e)
    rw [this]; exact h.rx
  | some y =>
    cases y with
    | none => rw [live_drop e]; exact h.rx
    | some y =>
      obtain ⟨u, hu⟩ := h.dfd i y e
      exact (h.rx.perm (((live_none hu e).append_left T).trans List.perm_middle)).drop
/-- a slot's data, held besides -/
theorem Rel.dup (h : Rel K B F H T σ ρ) (e : ρ[i]? = some (some (.fz d))) : ∃ v, σ[i]? = some (some v) ∧ Rp K F v d ∧ Rel K B F H ((v, .fz d) :: T) σ ρ := by
  obtain ⟨v, hv, r⟩ := h.out e
  exact ⟨v, hv, r.hd_fz, h.addfz r.hd_fz⟩
theorem Rel.look (h : Rel K B F H T σ ρ) (e : ρ[i]? = some (some x)) : ∃ v, σ[i]? = some (some v) ∧ Rp K H v x.dat ∧ ∃ A, OR K F H v x.o A := by
  obtain ⟨v, hv, r⟩ := h.out e
  exact ⟨v, hv, r.hd_rd, r.rx.hd_or⟩
/-- an own slot frozen -/
theorem Rel.frzSlot (h : Rel K B F H T σ ρ) (e : ρ[i]? = some (some (.own o))) : ∃ v F', σ[i]? = some (some v) ∧ Same F F' ∧ Rp K F' v o.frz ∧ Rel K B F' H T σ (ρ.set i (some (.fz o.frz))) := by
  obtain ⟨v, hv, r⟩ := h.out e
  obtain ⟨F', s, r'⟩ := r.frz rfl
  exact ⟨v, F', hv, s, r'.hd_fz, r'.back hv⟩
/-- the list at the head changed; the values of M may go into it -/
theorem Rx.chg {M L : List (V × W)} (h : Rx K B F H ((v, x) :: (M ++ L))) (hx : x.dat ≠ x.dat ∨ ∃ os, lstOf x = some os) (hm : ∀ q ∈ M, q.2.isIo = false) {o' : O}
    (f : ∀ A A1, OR K F H v x.o A → Bag K B F H M A1 → (A ++ A1).Nodup → ∃ A2, OR K F H' v o' A2 ∧ A2.Nodup ∧ (∀ a ∈ A2, a ∈ A ∨ a ∈ A1) ∧ (∀ a, a ∉ A → H' a = H a) ∧ ∀ a ∈ A, H' a ≠ none) : Rx K B F H' ((v, x.re o') :: L) := by
  have hx : ∃ os, lstOf x = some os := hx.elim (fun z => absurd rfl z) id
  obtain ⟨⟨A0, b, n, fr⟩, s, k, dm, ol⟩ := h
  have core : ∀ A A1 A3 : List Addr, OR K F H v x.o A → Bag K B F H M A1 → Bag K B F H L A3 → (A ++ (A1 ++ A3)).Nodup → (∀ a ∈ A ++ (A1 ++ A3), F a = none) → (∀ a ∈ A, B.H0 a = none ∨ a ∈ B.P) →
      ∃ A2, OR K F H' v o' A2 ∧ Bag K B F H' L A3 ∧ (A2 ++ A3).Nodup ∧ (∀ a ∈ A2 ++ A3, F a = none) ∧ (∀ a ∈ A2, a ∈ A ∨ B.H0 a = none) ∧ Same F H' ∧ (∀ a o, B.H0 a = some o → a ∉ B.P → H' a = some o) ∧ (∀ a, B.H0 a ≠ none → H' a ≠ none) := by
    intro A A1 A3 r b1 b3 n fr pa
    have n1 := List.nodup_append.mp n
    have n2 := List.nodup_append.mp n1.2.1
    obtain ⟨A2, r2, n3, sb, same, there⟩ := f A A1 r b1 (List.nodup_append.mpr ⟨n1.1, n2.1, fun a ha c hc => n1.2.2 a ha c (List.mem_append_left _ hc)⟩)
    have d3 : ∀ a ∈ A3, a ∉ A := fun a ha z => n1.2.2 a z a (List.mem_append_right _ ha) rfl
    refine ⟨A2, r2, b3.congr (Same.refl F) fun a ha => same a (d3 a ha), List.nodup_append.mpr ⟨n3, n2.2.1, fun a ha c hc e => ?_⟩, fun a ha => ?_, fun a ha => ?_, fun a o e => ?_, fun a o e z => ?_, fun a z => ?_⟩
    · subst e
      rcases sb a ha with z | z
      · exact d3 a hc z
      · exact n2.2.2 a z a hc rfl
    · rcases List.mem_append.mp ha with z | z
      · rcases sb a z with z | z
        · exact fr a (List.mem_append_left _ z)
        · exact fr a (List.mem_append_right _ (List.mem_append_left _ z))
      · exact fr a (List.mem_append_right _ (List.mem_append_right _ z))
    · rcases sb a ha with z | z
      · exact .inl z
      · exact .inr (b1.new hm a z)
    · rw [same a fun z => by rw [fr a (List.mem_append_left _ z)] at e; cases e]
      exact s a o e
    · rw [same a fun q => by
        rcases pa a q with w | w
        · rw [w] at e; cases e
        · exact z w]
      exact k a o e z
    · by_cases q : a ∈ A
      · exact there a q
      · rw [same a q]; exact dm a z
  cases b with
  | fz r t => simp [lstOf] at hx
  | @own _ o _ A Ar r m t =>
    obtain ⟨A1, A3, e, b1, b3⟩ := t.cut
    subst e
    obtain ⟨A2, r2, b3', n', f', o2, s', k', d'⟩ := core A A1 A3 r b1 b3 n fr fun a ha => .inl (m a ha)
    exact ⟨⟨A2 ++ A3, .own r2 (fun a ha => (o2 a ha).elim (m a) id) b3', n', f'⟩, s', k', d', ol⟩
  | @io _ o _ A Ar r m t =>
    obtain ⟨A1, A3, e, b1, b3⟩ := t.cut
    subst e
    obtain ⟨A2, r2, b3', n', f', o2, s', k', d'⟩ := core A A1 A3 r b1 b3 n fr m
    exact ⟨⟨A2 ++ A3, .io r2 (fun a ha => (o2 a ha).elim (m a) .inl) b3', n', f'⟩, s', k', d', ol⟩
theorem lstOf_o {os : List O} (h : lstOf x = some os) : x.o = .l os := by
  cases x with
  | fz d => simp [lstOf] at h
  | own o => cases o with
    | d y => simp [lstOf] at h
    | l ys => simp [lstOf] at h; rw [h]; rfl
  | io o => cases o with
    | d y => simp [lstOf] at h
    | l ys => simp [lstOf] at h; rw [h]; rfl
/-- what a slot's own list is -/
theorem Rel.ownAt {os : List O} (h : Rel K B F H T σ ρ) (e : ρ[i]? = some (some x)) (hx : lstOf x = some os) :
    ∃ p vs A, σ[i]? = some (some (.ref p)) ∧ H p = some (.lst vs) ∧ ORs K F H vs os A ∧ vs.length = os.length := by
  obtain ⟨v, hv, _, A, r⟩ := h.look e
  rw [lstOf_o hx] at r
  cases r with
  | @l p vs _ A hp r => exact ⟨p, vs, A, hv, hp, r, r.length⟩
/-- a slot's list changed -/
theorem Rel.chg {M : List (V × W)} {os : List O} {o' : O} (h : Rel K B F H (M ++ T) σ ρ) (e : ρ[i]? = some (some x)) (hx : lstOf x = some os) (hm : ∀ q ∈ M, q.2.isIo = false)
    (hv : σ[i]? = some (some v))
    (f : ∀ A A1, OR K F H v (.l os) A → Bag K B F H M A1 → (A ++ A1).Nodup → ∃ A2, OR K F H' v o' A2 ∧ A2.Nodup ∧ (∀ a ∈ A2, a ∈ A ∨ a ∈ A1) ∧ (∀ a, a ∉ A → H' a = H a) ∧ ∀ a ∈ A, H' a ≠ none) :
    Rel K B F H' T σ (ρ.set i (some (x.re o'))) := by
  obtain ⟨u, hu, r⟩ := h.out e
  rw [hv] at hu
  cases hu
  have r1 := Rx.chg (M := M) (L := T ++ live σ (ρ.set i none)) (H' := H') (o' := o') (by rw [← List.append_assoc]; exact r.rx) (.inr ⟨os, hx⟩) hm (by rw [lstOf_o hx]; exact f)
  exact Rel.back (x := x.re o') ⟨r.len, r.dfd, r1, r.io⟩ hv
/-- append -/
theorem Rel.app {p : Addr} {vs : List V} {os : List O} {y : W} {u : V} (h : Rel K B F H ((u, y) :: T) σ ρ) (hy : y.isIo = false) (e : ρ[i]? = some (some x)) (hx : lstOf x = some os) (hv : σ[i]? = some (some (.ref p))) (hp : H p = some (.lst vs)) :
    Rel K B F (upd H p (.lst (vs ++ [u]))) T σ (ρ.set i (some (x.re (.l (os ++ [y.o]))))) := by
  refine Rel.chg (M := [(u, y)]) h e hx (fun q hq => by rw [List.mem_singleton.mp hq]; exact hy) hv fun A A1 r b n => ?_
  cases r with
  | @l _ ws _ A0 hw r =>
    rw [hp] at hw
    cases hw
    have nn := List.nodup_append.mp n
    have np := List.nodup_cons.mp nn.1
    have b' := b.ors
    have n1 : ∀ a ∈ A0 ++ A1, a ≠ p := fun a ha z => by
      subst z
      rcases List.mem_append.mp ha with z | z
      · exact np.1 z
      · exact nn.2.2 a List.mem_cons_self a z rfl
    refine ⟨p :: (A0 ++ A1), .l upd_same ((r.append b').congr (Same.refl F) fun a ha => upd_ne (n1 a ha)), n, fun a ha => ?_, fun a ha => upd_ne fun z => ha (by rw [z]; exact List.mem_cons_self), fun a ha => ?_⟩
    · exact List.mem_append.mp ha
    · by_cases z : a = p
      · rw [z, upd_same]; exact fun q => nomatch q
      · rw [upd_ne z]
        obtain ⟨ys, q⟩ := (OR.l (K := K) (F := F) hp r).there a ha
        rw [q]; exact fun q => nomatch q
/-- extend by data -/
theorem Rel.ext {p : Addr} {vs us : List V} {os : List O} {ds : List D} (h : Rel K B F H T σ ρ) (e : ρ[i]? = some (some x)) (hx : lstOf x = some os) (hv : σ[i]? = some (some (.ref p))) (hp : H p = some (.lst vs)) (hu : Rps K F us ds) :
    Rel K B F (upd H p (.lst (vs ++ us))) T σ (ρ.set i (some (x.re (.l (os ++ ds.map .d))))) := by
  refine Rel.chg (M := []) h e hx (fun q hq => nomatch hq) hv fun A A1 r b n => ?_
  cases r with
  | @l _ ws _ A0 hw r =>
    rw [hp] at hw
    cases hw
    have nn := List.nodup_append.mp n
    have np := List.nodup_cons.mp nn.1
    have n1 : ∀ a ∈ A0 ++ [], a ≠ p := fun a ha z => by
      subst z
      exact np.1 (by simpa using ha)
    refine ⟨p :: (A0 ++ []), .l upd_same ((r.append hu.ors).congr (Same.refl F) fun a ha => upd_ne (n1 a ha)), by rw [List.append_nil]; exact nn.1, fun a ha => .inl (by rw [List.append_nil] at ha; exact ha), fun a ha => upd_ne fun z => ha (by rw [z]; exact List.mem_cons_self), fun a ha => ?_⟩
    by_cases z : a = p
    · rw [z, upd_same]; exact fun q => nomatch q
    · rw [upd_ne z]
      obtain ⟨ys, q⟩ := (OR.l (K := K) (F := F) hp r).there a ha
      rw [q]; exact fun q => nomatch q
/-- an item stored -/
theorem Rel.setI {p : Addr} {vs : List V} {os : List O} {y : W} {u : V} {j : Nat} (h : Rel K B F H ((u, y) :: T) σ ρ) (hy : y.isIo = false) (e : ρ[i]? = some (some x)) (hx : lstOf x = some os) (hv : σ[i]? = some (some (.ref p))) (hp : H p = some (.lst vs)) (hj : j < os.length) :
    Rel K B F (upd H p (.lst (vs.set j u))) T σ (ρ.set i (some (x.re (.l (os.set j y.o))))) := by
  refine Rel.chg (M := [(u, y)]) h e hx (fun q hq => by rw [List.mem_singleton.mp hq]; exact hy) hv fun A A1 r b n => ?_
  cases r with
  | @l _ ws _ A0 hw r =>
    rw [hp] at hw
    cases hw
    have nn := List.nodup_append.mp n
    have np := List.nodup_cons.mp nn.1
    obtain ⟨w, B1, B2, B3, e1, e2, e3, f⟩ := r.split (List.getElem?_eq_getElem hj)
    subst e3
    have b' : ∃ A1', OR K F H u y.o A1' ∧ A1' = A1 := by
      have q := b.ors
      cases q with
      | @cons _ _ _ _ C1 C2 q1 q2 => cases q2; exact ⟨C1, q1, by simp⟩
    obtain ⟨A1', b', e4⟩ := b'
    subst e4
    have m0 : ∀ a ∈ B1 ++ B3, a ∈ B1 ++ (B2 ++ B3) := fun a ha => by
      rcases List.mem_append.mp ha with z | z
      · exact List.mem_append_left _ z
      · exact List.mem_append_right _ (List.mem_append_right _ z)
    have dj : ∀ a ∈ A1', a ∉ p :: (B1 ++ (B2 ++ B3)) := fun a ha z => nn.2.2 a z a ha rfl
    refine ⟨p :: (B1 ++ (A1' ++ B3)), .l upd_same (f F _ u y.o A1' (Same.refl F) (fun a ha => upd_ne fun z => np.1 (by rw [← z]; exact m0 a ha)) (b'.congr (Same.refl F) fun a ha => upd_ne fun z => dj a ha (by rw [z]; exact List.mem_cons_self))), ?_, fun a ha => ?_, fun a ha => upd_ne fun z => ha (by rw [z]; exact List.mem_cons_self), fun a ha => ?_⟩
    · have n3 := List.nodup_append.mp np.2
      have n4 := List.nodup_append.mp n3.2.1
      refine List.nodup_cons.mpr ⟨fun z => ?_, List.nodup_append.mpr ⟨n3.1, List.nodup_append.mpr ⟨nn.2.1, n4.2.1, fun a ha c hc q => ?_⟩, fun a ha c hc q => ?_⟩⟩
      · rcases List.mem_append.mp z with z | z
        · exact np.1 (List.mem_append_left _ z)
        · rcases List.mem_append.mp z with z | z
          · exact dj p z List.mem_cons_self
          · exact np.1 (List.mem_append_right _ (List.mem_append_right _ z))
      · subst q
        exact dj a ha (List.mem_cons_of_mem _ (List.mem_append_right _ (List.mem_append_right _ hc)))
      · subst q
        rcases List.mem_append.mp hc with z | z
        · exact dj a z (List.mem_cons_of_mem _ (List.mem_append_left _ ha))
        · exact n3.2.2 a ha a (List.mem_append_right _ z) rfl
    · rcases List.mem_cons.mp ha with z | z
      · exact .inl (by rw [z]; exact List.mem_cons_self)
      · rcases List.mem_append.mp z with z | z
        · exact .inl (List.mem_cons_of_mem _ (List.mem_append_left _ z))
        · rcases List.mem_append.mp z with z | z
          · exact .inr z
          · exact .inl (List.mem_cons_of_mem _ (List.mem_append_right _ (List.mem_append_right _ z)))
    · by_cases z : a = p
      · rw [z, upd_same]; exact fun q => nomatch q
      · rw [upd_ne z]
        obtain ⟨ys, q⟩ := (OR.l (K := K) (F := F) hp r).there a ha
        rw [q]; exact fun q => nomatch q
/-- append to an item that is a list -/
theorem Rel.app2 {p q : Addr} {vs us : List V} {os ps : List O} {u : V} {dd : D} {j : Nat} (h : Rel K B F H T σ ρ) (hu : Rp K F u dd) (e : ρ[i]? = some (some x)) (hx : lstOf x = some os) (hv : σ[i]? = some (some (.ref p))) (hp : H p = some (.lst vs)) (hj : os[j]? = some (.l ps))
    (hq : vs[j]? = some (.ref q)) (hw : H q = some (.lst us)) :
    Rel K B F (upd H q (.lst (us ++ [u]))) T σ (ρ.set i (some (x.re (.l (os.set j (.l (ps ++ [.d dd]))))))) := by
  refine Rel.chg (M := []) h e hx (fun q hq => nomatch hq) hv fun A A1 r b n => ?_
  cases b
  cases r with
  | @l _ ws _ A0 hw' r =>
    rw [hp] at hw'
    cases hw'
    rw [List.append_nil] at n
    have np := List.nodup_cons.mp n
    obtain ⟨w, B1, B2, B3, e1, e2, e3, f⟩ := r.split hj
    subst e3
    rw [hq] at e1
    cases e1
    cases e2 with
    | @l _ us' _ C hq' r2 =>
      rw [hw] at hq'
      cases hq'
      have n3 := List.nodup_append.mp np.2
      have n4 := List.nodup_append.mp n3.2.1
      have n5 := List.nodup_cons.mp n4.1
      have pq : p ≠ q := fun z => np.1 (by rw [z]; exact List.mem_append_right _ (List.mem_append_left _ List.mem_cons_self))
      have hps : ORs K F (upd H q (.lst (us ++ [u]))) (us ++ [u]) (ps ++ [.d dd]) (C ++ ([] ++ [])) :=
        (r2.congr (Same.refl F) fun a ha => upd_ne fun z => n5.1 (by rw [← z]; exact ha)).append (.cons (.d hu) .nil)
      have hset : vs.set j (.ref q) = vs := by
        obtain ⟨hl, hg⟩ := List.getElem?_eq_some_iff.mp hq
        rw [← hg, List.set_getElem_self]
      have rr := f F _ (.ref q) (.l (ps ++ [.d dd])) (q :: (C ++ ([] ++ []))) (Same.refl F) (fun a ha => upd_ne fun z => ?_) (.l upd_same hps)
      · rw [hset] at rr
        refine ⟨p :: (B1 ++ (q :: (C ++ ([] ++ [])) ++ B3)), .l (by rw [upd_ne pq]; exact hp) rr, by simpa using n, fun a ha => .inl (by simpa using ha), fun a ha => upd_ne fun z => ha ?_, fun a ha => ?_⟩
        · rw [z]; exact List.mem_cons_of_mem _ (List.mem_append_right _ (List.mem_append_left _ List.mem_cons_self))
        · by_cases z : a = q
          · rw [z, upd_same]; exact fun q => nomatch q
          · rw [upd_ne z]
            obtain ⟨ys, y⟩ := (OR.l (K := K) (F := F) hp r).there a ha
            rw [y]; exact fun q => nomatch q
      · subst z
        rcases List.mem_append.mp ha with z | z
        · exact n3.2.2 _ z _ (List.mem_append_left _ List.mem_cons_self) rfl
        · exact n4.2.2 _ List.mem_cons_self _ z rfl
end
end Co

set_option Elab.async false
set_option linter.all false
set_option maxRecDepth 100000
set_option maxHeartbeats 4000000
namespace Co
open PySem PySem.Spec PyProof.Rows L2
/-! ### calls, by bags -/
section
variable {K : PySem.W.Frag} {F F' H H' : Hp} {B : Ba}
def outsV : List V → List W → List O → List (V × W)
  | _ :: vs, .fz _ :: ws, os => outsV vs ws os
  | v :: vs, _ :: ws, o :: os => (v, .io o) :: outsV vs ws os
  | _, _, _ => []
/-- .. of the kind they were -/
def outsW : List V → List W → List O → List (V × W)
  | _ :: vs, .fz _ :: ws, os => outsW vs ws os
  | v :: vs, x :: ws, o :: os => (v, x.re o) :: outsW vs ws os
  | _, _, _ => []
def Ba0 : Ba := ⟨fun _ => none, fun _ => none, [], []⟩
/-- what a callee is given -/
structure Given (K : PySem.W.Frag) (F H : Hp) (vs : List V) (ws : List W) (A : List Addr) : Prop where
  len : vs.length = ws.length
  bag : Bag K Ba0 F H (vs.zip ws) A
  nd : A.Nodup
  fr : ∀ a ∈ A, F a = none
  sub : Same F H
theorem Bag.toBa0 {L : List (V × W)} {A : List Addr} (h : Bag K B F H L A) : Bag K Ba0 F H L A := by
  induction h with
  | nil => exact .nil
  | fz r t ih => exact .fz r ih
  | own r n t ih => exact .own r (fun _ _ => rfl) ih
  | io r n t ih => exact .io r (fun _ _ => .inl rfl) ih
/-- behind a call: the callee's bag is ours again -/
theorem outs_own {vs : List V} {ws : List W} {os : List O} {A A' : List Addr} {B' : Ba} (hk : ws.any W.isIo = false) (hA : ∀ a ∈ A', B.H0 a = none) : Bag K B' F H (outsV vs ws os) A' → Bag K B F H (outsW vs ws os) A' := by
  induction ws generalizing vs os A' with
  | nil => intro h; cases vs <;> (cases h; exact .nil)
  | cons x ws ih =>
    simp only [List.any_cons, Bool.or_eq_false_iff] at hk
    intro h
    cases vs with
    | nil => cases x <;> (cases h; exact .nil)
    | cons v vs =>
      cases x with
      | fz d => exact ih hk.2 hA h
      | io o => simp [W.isIo] at hk
      | own o =>
        cases os with
        | nil => cases h; exact .nil
        | cons o' os =>
          cases h with
          | io r n t => exact .own r (fun a ha => hA a (List.mem_append_left _ ha)) (ih hk.2 (fun a ha => hA a (List.mem_append_right _ ha)) t)
theorem outs_io {vs : List V} {ws : List W} {os : List O} {A' : List Addr} {B' : Ba} (hk : ws.any W.isOwn = false) (hA : ∀ a ∈ A', B.H0 a = none ∨ a ∈ B.P) : Bag K B' F H (outsV vs ws os) A' → Bag K B F H (outsW vs ws os) A' := by
  induction ws generalizing vs os A' with
  | nil => intro h; cases vs <;> (cases h; exact .nil)
  | cons x ws ih =>
    simp only [List.any_cons, Bool.or_eq_false_iff] at hk
    intro h
    cases vs with
    | nil => cases x <;> (cases h; exact .nil)
    | cons v vs =>
      cases x with
      | fz d => exact ih hk.2 hA h
      | own o => simp [W.isOwn] at hk
      | io o =>
        cases os with
        | nil => cases h; exact .nil
        | cons o' os =>
          cases h with
          | io r n t => exact .io r (fun a ha => hA a (List.mem_append_left _ ha)) (ih hk.2 (fun a ha => hA a (List.mem_append_right _ ha)) t)
theorem zip_own {vs : List V} {ws : List W} {A : List Addr} (hk : ws.any W.isIo = false) : Bag K B F H (vs.zip ws) A → ∀ a ∈ A, B.H0 a = none := by
  intro h
  refine h.new fun p hp => ?_
  have q := (List.of_mem_zip hp).2
  have := List.any_eq_false.mp hk p.2 q
  simpa using this
theorem Rx.given {L : List (V × W)} {vs : List V} {ws : List W} (h : Rx K B F H (vs.zip ws ++ L)) (hl : vs.length = ws.length) : ∃ A, Given K F H vs ws A ∧
    ∀ (hk : oneKind ws = true) (F' H' : Hp),
      (∀ (v : V) (x : W) (os : List O), x.isIo = false → Rx K ⟨H, F, A, []⟩ F' H' ((v, x) :: outsV vs ws os) → Rx K B F' H' ((v, x) :: (outsW vs ws os ++ L))) ∧
      (Rx K ⟨H, F, A, []⟩ F' H' [] → Rx K B F' H' L) := by
  obtain ⟨⟨A0, b, n, fr⟩, s, k, dm, ol⟩ := h
  obtain ⟨A, A2, e, b1, b2⟩ := b.cut
  subst e
  have nn := List.nodup_append.mp n
  refine ⟨A, ⟨hl, b1.toBa0, nn.1, fun a ha => fr a (List.mem_append_left _ ha), s⟩, fun hk F' H' => ?_⟩
  have rest : ∀ {L' : List (V × W)}, Rx K ⟨H, F, A, []⟩ F' H' L' → Bag K B F' H' L A2 ∧ (∀ a ∈ A2, F' a = none) ∧ Same F' H' ∧ (∀ a o, B.H0 a = some o → a ∉ B.P → H' a = some o) ∧ (∀ a, B.H0 a ≠ none → H' a ≠ none) ∧ (∀ a, B.H0 a ≠ none → F' a = B.F0 a) := by
    intro L' h'
    have hF : ∀ a, H a ≠ none → F' a = F a := h'.old
    have sF : Same F F' := fun a u e => by rw [hF a (by rw [s a u e]; exact fun z => nomatch z)]; exact e
    have at2 : ∀ a ∈ A2, ∃ xs, H a = some (.lst xs) := b2.there
    refine ⟨b2.congr sF fun a ha => ?_, fun a ha => ?_, h'.sub, fun a o e z => ?_, fun a z => h'.dom a (dm a z), fun a z => ?_⟩
    · obtain ⟨xs, q⟩ := at2 a ha
      rw [q]
      exact h'.keep a _ q fun z => nn.2.2 a z a ha rfl
    · obtain ⟨xs, q⟩ := at2 a ha
      rw [hF a (by rw [q]; exact fun z => nomatch z)]
      exact fr a (List.mem_append_right _ ha)
    · refine h'.keep a o (k a o e z) fun q => ?_
      rcases b1.old a q with w | w
      · rw [w] at e; cases e
      · exact z w
    · rw [hF a (dm a z)]; exact ol a z
  refine ⟨fun v x os hx h' => ?_, fun h' => ?_⟩
  · obtain ⟨r1, r2, r3, r4, r5, r6⟩ := rest h'
    obtain ⟨A', b', n', f'⟩ := h'.bag
    have far : ∀ a ∈ A', H a = none ∨ a ∈ A := b'.old
    have dj : ∀ a ∈ A', a ∉ A2 := fun a ha z => by
      rcases far a ha with w | w
      · obtain ⟨xs, q⟩ := b2.there a z
        rw [w] at q; cases q
      · exact nn.2.2 a w a z rfl
    have hn : ∀ a, H a = none → B.H0 a = none := fun a z => by
      cases e : B.H0 a with
      | none => rfl
      | some u => exact absurd z (dm a (by rw [e]; exact fun q => nomatch q))
    have outs : ∀ {A'' : List Addr}, (∀ a ∈ A'', a ∈ A') → Bag K ⟨H, F, A, []⟩ F' H' (outsV vs ws os) A'' → Bag K B F' H' (outsW vs ws os) A'' := fun {A''} hs q => by
      unfold oneKind at hk
      cases c : ws.any W.isOwn with
      | false => exact outs_io c (fun a ha => by
          rcases far a (hs a ha) with w | w
          · exact .inl (hn a w)
          · exact b1.old a w) q
      | true =>
        have c2 : ws.any W.isIo = false := by
          rw [c] at hk; simpa using hk
        exact outs_own (A := A) c2 (fun a ha => by
          rcases far a (hs a ha) with w | w
          · exact hn a w
          · exact zip_own c2 b1 a w) q
    have fin : ∀ {A''}, Bag K B F' H' ((v, x) :: outsW vs ws os) A'' → A'' = A' → Rx K B F' H' ((v, x) :: (outsW vs ws os ++ L)) := fun {A''} q e => by
      subst e
      refine ⟨⟨_, q.append r1, List.nodup_append.mpr ⟨n', nn.2.1, fun a ha c hc e => ?_⟩, fun a ha => ?_⟩, r3, r4, r5, r6⟩
      · subst e; exact dj a ha hc
      · rcases List.mem_append.mp ha with z | z
        · exact f' a z
        · exact r2 a z
    cases b' with
    | fz r t => exact fin (.fz r (outs (fun a ha => ha) t)) rfl
    | own r m t => exact fin (.own r (fun a ha => hn a (m a ha)) (outs (fun a ha => List.mem_append_right _ ha) t)) rfl
    | io r m t => simp [W.isIo] at hx
  · obtain ⟨r1, r2, r3, r4, r5, r6⟩ := rest h'
    exact ⟨⟨A2, r1, nn.2.1, r2⟩, r3, r4, r5, r6⟩
end
end Co

set_option Elab.async false
set_option linter.all false
set_option maxRecDepth 100000
set_option maxHeartbeats 4000000
namespace Co
open PySem PySem.Spec PyProof.Rows L2
/-! ### what a piece of the text does -/
/-- an exception as it flies -/
def XR (K : PySem.W.Frag) (mg : Str → Option Value) (H : Hp) (x : Xn) (cls : Value) (d : Option Addr) : Prop :=
  ∃ C, cls = .ref C ∧ mg x.cls = some (.ref C) ∧ match x.args with
    | [] => d = none
    | [a] => ∃ dd v, d = some dd ∧ H dd = some (.xd [("line", v)]) ∧ Rp K H v a
    | _ => False
/-- a call's promise -/
def spC (K : PySem.W.Frag) (mg : Str → Option Value) (cf : CF) (f : Str) : Sp := fun vs H Q E => ∃ F ws A, Given K F H vs ws A ∧ match cf f ws with
  | .ret x os => x.isIo = false ∧ ∀ v F' H', Rx K ⟨H, F, A, []⟩ F' H' ((v, x) :: outsV vs ws os) → Q v H'
  | .ex xn => ∀ cls d F' H', Rx K ⟨H, F, A, []⟩ F' H' [] → XR K mg H' xn cls d → E cls d H'
  | .bad => False

section
variable (X : Cx) (B : Ba) (W₀ : WX)
abbrev RL (F H : Hp) (T : List (V × W)) (σ : St) (ρ : Env) : Prop := Rel X.K B F H T σ ρ
def ZR (T : List (V × W)) (σ : St) (z : Z) (ρ : Env) (v : V) (F H : Hp) : Prop := match z with
  | .w x => x.isIo = false ∧ RL X B F H ((v, x) :: T) σ ρ
  | .bw o => RL X B F H T σ ρ ∧ ∃ A, OR X.K F H v o A
def FinA {α β : Type} (T : List (V × W)) (σ : St) (rel : α → Env → β → Hp → Hp → Prop) (Q : β → Hp → Prop) : R α → Prop
  | .ok a ρ => ∀ b F H, rel a ρ b F H → Q b H
  | .ex x ρ => ∀ cls d F H, RL X B F H T σ ρ → XR X.K X.mg H x cls d → W₀ cls d σ H
  | .bad => False
def tE (m : Env → R Z) : TE := fun σ H Q => ∃ F T ρ, RL X B F H T σ ρ ∧ FinA X B W₀ T σ (ZR X B T σ) Q (m ρ)
def TRl {α : Type} (T : List (V × W)) (σ : St) (c : α) (ρ : Env) (c' : α) (F H : Hp) : Prop := c' = c ∧ RL X B F H T σ ρ
def tT (m : Env → R Bool) : TT := fun σ H Q => ∃ F T ρ, RL X B F H T σ ρ ∧ FinA X B W₀ T σ (TRl X B T σ) Q (m ρ)
/-- arguments as they were evaluated: M what is held of them -/
inductive AR (σ : St) : List Arg → List V → List (V × W) → Prop
  | nil : AR σ [] [] []
  | a {x : W} {v : V} {as : List Arg} {vs : List V} {M : List (V × W)} : x.isIo = false → AR σ as vs M → AR σ (.a x :: as) (v :: vs) ((v, x) :: M)
  | o {x : W} {v : V} {as : List Arg} {vs : List V} {M : List (V × W)} : x.isIo = false → AR σ as vs M → AR σ (.o x :: as) (v :: vs) ((v, x) :: M)
  | io {i : Nat} {v : V} {as : List Arg} {vs : List V} {M : List (V × W)} : σ[i]? = some (some v) → AR σ as vs M → AR σ (.io i :: as) (v :: vs) M
def ARl (T : List (V × W)) (σ : St) (as : List Arg) (ρ : Env) (vs : List V) (F H : Hp) : Prop := ∃ M, AR σ as vs M ∧ RL X B F H (M ++ T) σ ρ
def tAr (m : Env → R (List Arg)) : TA := fun σ H Q => ∃ F T ρ, RL X B F H T σ ρ ∧ FinA X B W₀ T σ (ARl X B T σ) Q (m ρ)
end
section
variable {X : Cx} {B : Ba} {W₀ : WX} {F H : Hp} {T M : List (V × W)} {σ : St} {ρ : Env}
theorem fin_bind {α β γ δ : Type} {rel : α → Env → β → Hp → Hp → Prop} {rel' : γ → Env → δ → Hp → Hp → Prop} {Q : β → Hp → Prop} {Q' : δ → Hp → Prop} {r : R α} {f : α → Env → R γ}
    (h : FinA X B W₀ T σ rel' Q' (r.bind f)) (hf : ∀ a ρ1 b F1 H1, rel a ρ1 b F1 H1 → FinA X B W₀ T σ rel' Q' (f a ρ1) → Q b H1) : FinA X B W₀ (M ++ T) σ rel Q r := by
  cases r with
  | ok a ρ1 => exact fun b F1 H1 hr => hf a ρ1 b F1 H1 hr h
  | ex x ρ1 => exact fun cls d F1 H1 hr hx => h cls d F1 H1 hr.drops hx
  | bad => exact h
theorem fin_bind0 {α β γ δ : Type} {rel : α → Env → β → Hp → Hp → Prop} {rel' : γ → Env → δ → Hp → Hp → Prop} {Q : β → Hp → Prop} {Q' : δ → Hp → Prop} {r : R α} {f : α → Env → R γ}
    (h : FinA X B W₀ T σ rel' Q' (r.bind f)) (hf : ∀ a ρ1 b F1 H1, rel a ρ1 b F1 H1 → FinA X B W₀ T σ rel' Q' (f a ρ1) → Q b H1) : FinA X B W₀ T σ rel Q r := fin_bind (M := []) h hf
theorem ZR.rd {z : Z} {v : V} (h : ZR X B T σ z ρ v F H) : Rp X.K H v z.dat := by
  cases z with
  | w x => exact h.2.hd_rd
  | bw o => obtain ⟨r, A, q⟩ := h; exact q.rd r.sub
theorem ZR.rl {z : Z} {v : V} (h : ZR X B T σ z ρ v F H) : RL X B F H T σ ρ := by
  cases z with
  | w x => exact h.2.drop
  | bw o => exact h.1
theorem nonBw_fin {α β : Type} {rel : α → Env → β → Hp → Hp → Prop} {Q : β → Hp → Prop} {z : Z} {v : V} {f : W → Env → R α} {T' : List (V × W)} (h : ZR X B T' σ z ρ v F H) (hf : FinA X B W₀ T σ rel Q ((nonBw z ρ).bind f)) :
    ∃ x, z = .w x ∧ x.isIo = false ∧ RL X B F H ((v, x) :: T') σ ρ ∧ FinA X B W₀ T σ rel Q (f x ρ) := by
  cases z with
  | w x => exact ⟨x, rfl, h.1, h.2, hf⟩
  | bw o => exact hf.elim
/-- a result that is data -/
theorem ret_fz {Q : VK} {d : D} {v : V} (h : FinA X B W₀ T σ (ZR X B T σ) Q (.ok (.w (.fz d)) ρ)) (r : RL X B F H T σ ρ) (rp : Rp X.K F v d) : Q v H := h v F H ⟨rfl, r.addfz rp⟩
theorem ofD_fin {Q : VK} {d : Option D} (h : FinA X B W₀ T σ (ZR X B T σ) Q (ofD d ρ)) : ∃ e, d = some e ∧ FinA X B W₀ T σ (ZR X B T σ) Q (.ok (.w (.fz e)) ρ) := by
  cases d with
  | none => exact h.elim
  | some e => exact ⟨e, rfl, h⟩
theorem ofO_fin {Q : VK} {d : Option W} (h : FinA X B W₀ T σ (ZR X B T σ) Q (ofO d ρ)) : ∃ e, d = some e ∧ FinA X B W₀ T σ (ZR X B T σ) Q (.ok (.w e) ρ) := by
  cases d with
  | none => exact h.elim
  | some e => exact ⟨e, rfl, h⟩
theorem liftO_fin {α β : Type} {rel : α → Env → β → Hp → Hp → Prop} {Q : β → Hp → Prop} {d : Option α} (h : FinA X B W₀ T σ rel Q (liftO d ρ)) : ∃ e, d = some e ∧ FinA X B W₀ T σ rel Q (.ok e ρ) := by
  cases d with
  | none => exact h.elim
  | some e => exact ⟨e, rfl, h⟩
theorem liftO_bind {α β γ : Type} {rel : γ → Env → β → Hp → Hp → Prop} {Q : β → Hp → Prop} {d : Option α} {f : α → Env → R γ} (h : FinA X B W₀ T σ rel Q ((liftO d ρ).bind f)) : ∃ e, d = some e ∧ FinA X B W₀ T σ rel Q (f e ρ) := by
  cases d with
  | none => exact h.elim
  | some e => exact ⟨e, rfl, h⟩
theorem PE.mono {e : Expr} {t t' : TE} (h : PE X e t) (q : ∀ σ H Q, t' σ H Q → t σ H Q) : PE X e t' := ⟨fun pins s σ H Q I w => h.run pins s σ H Q I (q σ H Q w)⟩
theorem PT.mono {e : Expr} {t t' : TT} (h : PT X e t) (q : ∀ σ H Q, t' σ H Q → t σ H Q) : PT X e t' := ⟨fun pins s σ H Q I w => h.run pins s σ H Q I (q σ H Q w)⟩
theorem PA.mono {e : List Expr} {t t' : TA} (h : PA X e t) (q : ∀ σ H Q, t' σ H Q → t σ H Q) : PA X e t' := ⟨fun pos pins s σ H Q I w => h.run pos pins s σ H Q I (q σ H Q w)⟩

/-! ### slots -/
theorem ok_v {i : Nat} {σ : St} {H : Hp} {Q : VK} (h : tE X B W₀ (vZ i) σ H Q) : tVar i σ H Q := by
  obtain ⟨F, T, ρ, r, f⟩ := h
  unfold vZ at f
  split at f
  · rename_i d e
    obtain ⟨v, hv, rp, r'⟩ := r.dup e
    exact ⟨v, hv, f v F H ⟨rfl, r'⟩⟩
  · rename_i o e
    obtain ⟨v, F', hv, s, rp, r'⟩ := r.frzSlot e
    exact ⟨v, hv, f v F' H ⟨rfl, r'.addfz rp⟩⟩
  · exact f.elim
theorem rd_fin {α β : Type} {rel : α → Env → β → Hp → Hp → Prop} {Q : β → Hp → Prop} {i : Nat} {f : Z → Env → R α} (r : RL X B F H T σ ρ) (h : FinA X B W₀ T σ rel Q ((rdZ i ρ).bind f)) :
    ∃ v z, σ[i]? = some (some v) ∧ ZR X B T σ z ρ v F H ∧ FinA X B W₀ T σ rel Q (f z ρ) := by
  unfold rdZ at h
  split at h
  · rename_i d e
    obtain ⟨v, hv, rp, r'⟩ := r.dup e
    exact ⟨v, .w (.fz d), hv, ⟨rfl, r'⟩, h⟩
  · rename_i o e
    obtain ⟨v, hv, _, A, q⟩ := r.look e
    exact ⟨v, .bw o, hv, ⟨r, A, q⟩, h⟩
  · rename_i o e
    obtain ⟨v, hv, _, A, q⟩ := r.look e
    exact ⟨v, .bw o, hv, ⟨r, A, q⟩, h⟩
  · exact h.elim
theorem ok_rd {i : Nat} {σ : St} {H : Hp} {Q : VK} (h : tE X B W₀ (rdZ i) σ H Q) : tVar i σ H Q := by
  obtain ⟨F, T, ρ, r, f⟩ := h
  have f' : FinA X B W₀ T σ (ZR X B T σ) Q ((rdZ i ρ).bind fun z ρ => .ok z ρ) := by
    cases e : rdZ i ρ with
    | ok a b => rw [e] at f; exact f
    | ex x b => rw [e] at f; exact f
    | bad => rw [e] at f; exact f
  obtain ⟨v, z, hv, zr, g⟩ := rd_fin r f'
  exact ⟨v, hv, g v F H zr⟩

end
/-! ### a value that is read -/
/-- what is known of a value at the end of its expression: it is read as data; its items, where they are data, are frozen -/
def EL (K : PySem.W.Frag) (F H : Hp) (v : V) (d : D) : Prop := match d with
  | .list ds => ∃ a xs, v = .ref a ∧ H a = some (.lst xs) ∧ Rps K F xs ds
  | d => Rp K F v d
structure ZV (X : Cx) (B : Ba) (T : List (V × W)) (σ : St) (z : Z) (ρ : Env) (v : V) (F H : Hp) : Prop where
  rd : Rp X.K H v z.dat
  el : ∀ d, z.el = some d → EL X.K F H v d
  bo : ∀ o, z = .bw o → ∃ A, OR X.K F H v o A
theorem Rp.toEL {K : PySem.W.Frag} {F H : Hp} {v : V} {d : D} (s : Same F H) (h : Rp K F v d) : EL K F H v d := by
  cases h with
  | lst a b => exact ⟨_, _, rfl, s _ _ a, b⟩
  | non => exact .non
  | bl b => exact .bl b
  | int i => exact .int i
  | str x => exact .str x
  | tup a b => exact .tup a b
  | scr ns a => exact .scr ns a
theorem ORs.plain {K : PySem.W.Frag} {F H : Hp} : ∀ {os : List O} {vs : List V} {A : List Addr} {ds : List D}, ORs K F H vs os A → plainO os = some ds → Rps K F vs ds
  | [], _, _, _, h, e => by
    cases h
    simp [plainO] at e
    subst e
    exact .nil
  | .d x :: os, _, _, ds, h, e => by
    cases h with
    | cons h1 h2 =>
      cases q : plainO os with
      | none => simp [plainO, q] at e
      | some ys =>
        simp [plainO, q] at e
        subst e
        cases h1 with
        | d r => exact .cons r (ORs.plain h2 q)
  | .l _ :: os, _, _, ds, h, e => by simp [plainO] at e
theorem OR.el {K : PySem.W.Frag} {F H : Hp} {o : O} {v : V} {A : List Addr} {d : D} (s : Same F H) (h : OR K F H v o A) (e : o.el = some d) : EL K F H v d := by
  cases h with
  | d r =>
    simp [O.el] at e
    subst e
    exact r.toEL s
  | @l p vs os A hp r =>
    cases q : plainO os with
    | none => simp [O.el, q] at e
    | some ys =>
      simp [O.el, q] at e
      subst e
      exact ⟨p, vs, rfl, hp, r.plain q⟩
section
variable {X : Cx} {B : Ba} {W₀ : WX} {F H : Hp} {T M : List (V × W)} {σ : St} {ρ : Env}
theorem ZR.zv {z : Z} {v : V} (h : ZR X B T σ z ρ v F H) : ∀ {T' : List (V × W)}, ZV X B T' σ z ρ v F H := fun {T'} => by
  refine ⟨h.rd, fun d e => ?_, fun o e => ?_⟩
  · cases z with
    | bw o => obtain ⟨r, A, q⟩ := h; exact q.el r.sub e
    | w x =>
      obtain ⟨hx, r⟩ := h
      cases x with
      | fz d' =>
        simp [Z.el] at e
        subst e
        exact r.hd_fz.toEL r.sub
      | own o =>
        obtain ⟨A, q⟩ := r.rx.hd_or
        exact OR.el r.sub (o := o) q e
      | io o => simp [W.isIo] at hx
  · subst e
    exact h.2
end
section
variable {X : Cx} {B : Ba} {W₀ : WX} {F H : Hp} {T M : List (V × W)} {σ : St} {ρ : Env}
/-! ### two operands -/
/-- the first operand's reading -/
def tFst (X : Cx) (B : Ba) (W₀ : WX) (ri : Option Nat) (ma : Env → R Z) : TE := match ri with
  | some i => tVar i
  | none => tE X B W₀ ma
theorem two_ok {α β : Type} {ri : Option Nat} {ma mb : Env → R Z} {f : Z → Z → Env → R α} {rel : List (V × W) → St → α → Env → β → Hp → Hp → Prop} {Q : β → Hp → Prop} {r : V → V → Hp → (β → Hp → Prop) → Prop} {σ : St} {H : Hp}
    (hr : ∀ F H T ρ va vb za zb, ZV X B T σ za ρ va F H → ZV X B T σ zb ρ vb F H → RL X B F H T σ ρ → FinA X B W₀ T σ (rel T σ) Q (f za zb ρ) → r va vb H Q)
    (h : ∃ F T ρ, RL X B F H T σ ρ ∧ FinA X B W₀ T σ (rel T σ) Q (two ri ma mb f ρ)) :
    tFst X B W₀ ri ma σ H fun x H1 => tE X B W₀ mb σ H1 fun y H2 => r x y H2 Q := by
  obtain ⟨F, T, ρ, rl, g⟩ := h
  cases ri with
  | some i =>
    have g : FinA X B W₀ T σ (rel T σ) Q ((rdZ i ρ).bind fun _ ρ0 => (mb ρ0).bind fun zb ρ1 => (rdZ i ρ1).bind fun za ρ2 => f za zb ρ2) := g
    obtain ⟨v, z, hv, _, g⟩ := rd_fin rl g
    refine ⟨v, hv, F, T, ρ, rl, fin_bind0 g fun zb ρ1 vb F1 H1 zr g1 => ?_⟩
    obtain ⟨v', za, hv', zra, g2⟩ := rd_fin zr.rl g1
    rw [hv] at hv'
    cases hv'
    exact hr F1 H1 T ρ1 v vb _ _ zra.zv zr.zv zr.rl g2
  | none =>
    have g : FinA X B W₀ T σ (rel T σ) Q ((ma ρ).bind fun za ρ1 => (nonBw za ρ1).bind fun xa ρ2 => (mb ρ2).bind fun zb ρ3 => f (.w xa) zb ρ3) := g
    refine ⟨F, T, ρ, rl, fin_bind0 g fun za ρ1 va F1 H1 zra g1 => ?_⟩
    obtain ⟨x, rfl, hx, rx, g2⟩ := nonBw_fin zra g1
    refine ⟨F1, (va, x) :: T, ρ1, rx, fin_bind (M := [(va, x)]) g2 fun zb ρ2 vb F2 H2 zrb g3 => ?_⟩
    have rb := zrb.rl
    have zb' : ZV X B T σ zb ρ2 vb F2 H2 := zrb.zv
    exact hr F2 H2 T ρ2 va vb _ _ (show ZR X B T σ (.w x) ρ2 va F2 H2 from ⟨hx, rb⟩).zv zb' rb.drop g3
end
end Co

set_option Elab.async false
set_option linter.all false
set_option maxRecDepth 100000
set_option maxHeartbeats 4000000
namespace Co
open PySem PySem.Spec PyProof.Rows L2
/-! ### operations by values -/
def rStrCat : R2 := fun x y H Q => ∃ i j, x = .str i ∧ y = .str j ∧ i.length + j.length ≤ sizeLine ∧ Q (.str (i ++ j)) H
def rBin (K : PySem.W.Frag) : BinO → R2
  | .add => fun x y H Q => rI0 (fun i j => .int (i + j)) x y H Q ∨ (rStrCat x y H Q ∨ (rCatA K x y H Q ∨ rCat x y H Q))
  | .sub => rI0 fun i j => .int (i - j)
  | .mul => rI CMul fun i j => .int (i * j)
  | .fdiv => rI CDiv fun i j => .int (i / j)
  | .mod => rI (fun _ j => 0 < j) fun i j => .int (i % j)
  | .pow => rI CPow fun i j => .int (i ^ j.toNat)
def opB : BinO → Operator
  | .add => .Add
  | .sub => .Sub
  | .mul => .Mult
  | .fdiv => .FloorDiv
  | .mod => .Mod
  | .pow => .Pow
theorem opr_bin {X : Cx} : ∀ o : BinO, OpR X (binaryOp (opB o)) (rBin X.K o)
  | .add => op_add.or (OpR.or op_add_str (op_catA.or op_cat))
  | .sub => op_sub
  | .mul => op_mul
  | .fdiv => op_fdiv
  | .mod => op_mod
  | .pow => op_pow
section
variable {X : Cx} {B : Ba} {W₀ : WX} {F H : Hp} {T M : List (V × W)} {σ : St} {ρ : Env}
theorem EL.int {K : PySem.W.Frag} {F H : Hp} {v : V} {i : Int} (h : EL K F H v (.int i)) : v = .int i := by
  have h : Rp K F v (.int i) := h
  cases h; rfl
theorem EL.str {K : PySem.W.Frag} {F H : Hp} {v : V} {i : Str} (h : EL K F H v (.str i)) : v = .str i := by
  have h : Rp K F v (.str i) := h
  cases h; rfl
theorem EL.tup {K : PySem.W.Frag} {F H : Hp} {v : V} {ds : List D} (s : Same F H) (h : EL K F H v (.tuple ds)) : ∃ a xs, v = .ref a ∧ SqT K H a xs ∧ Rps K F xs ds ∧ Rp K F v (.tuple ds) := by
  have h : Rp K F v (.tuple ds) := h
  cases h with
  | tup a b => exact ⟨_, _, rfl, same_sqT s a, b, .tup a b⟩
/-- a result that is a new list of data -/
theorem ret_new {Q : VK} {ds : List D} {vs : List V} {p : Addr} (h : FinA X B W₀ T σ (ZR X B T σ) Q (.ok (.w (.own (.l (ds.map .d)))) ρ)) (r : RL X B F H T σ ρ) (hp : H p = none) (rp : Rps X.K F vs ds) : Q (.ref p) (upd H p (.lst vs)) := by
  have e : ∃ M : List (V × W), M.map (·.1) = vs ∧ M.map (·.2.o) = ds.map .d ∧ (∀ q ∈ M, q.2.isIo = false) ∧ RL X B F H (M ++ T) σ ρ := by
    have gen : ∀ {ds : List D} {vs : List V}, Rps X.K F vs ds → ∃ M : List (V × W), M.map (·.1) = vs ∧ M.map (·.2.o) = ds.map .d ∧ (∀ q ∈ M, q.2.isIo = false) ∧ RL X B F H (M ++ T) σ ρ := by
      intro ds
      induction ds with
      | nil => intro vs h; cases h; exact ⟨[], rfl, rfl, fun q hq => absurd hq (by simp), r⟩
      | cons d ds ih =>
        intro vs h
        cases h with
        | @cons v vs _ _ h1 h2 =>
          obtain ⟨M, e1, e2, e3, e4⟩ := ih h2
          refine ⟨(v, .fz d) :: M, by simp [e1], by show O.d d :: List.map (fun x : V × W => x.2.o) M = _; rw [e2]; rfl, fun q hq => ?_, Rel.addfz e4 h1⟩
          rcases List.mem_cons.mp hq with z | z
          · rw [z]; rfl
          · exact e3 q z
    exact gen rp
  obtain ⟨M, e1, e2, e3, e4⟩ := e
  have n := Rel.newLst e4 e3 hp
  rw [e1, e2] at n
  exact h (.ref p) F _ ⟨rfl, n⟩
theorem bin_ok (o : BinO) {Q : VK} {va vb : V} {za zb : Z} (ha : ZV X B T σ za ρ va F H) (hb : ZV X B T σ zb ρ vb F H) (r : RL X B F H T σ ρ) (h : FinA X B W₀ T σ (ZR X B T σ) Q (binF o za zb ρ)) : rBin X.K o va vb H Q := by
  unfold binF at h
  split at h
  · rename_i x y ex ey
    obtain ⟨w, ew, h⟩ := ofO_fin h
    have ha := ha.el _ ex
    have hb := hb.el _ ey
    have s := r.sub
    have intr : ∀ {d : D} {v : V}, w = .fz d → (∀ F, Rp X.K F v d) → Q v H := fun e q => by subst e; exact ret_fz h r (q F)
    have i2 : ∀ {f : Int → Int → Option D}, int2 f x y = some w → ∃ i j d, x = .int i ∧ y = .int j ∧ f i j = some d ∧ w = .fz d := fun {f} e => by
      cases x <;> cases y <;> first | (simp [int2] at e; done) | skip
      rename_i i j
      cases q : f i j with
      | none => simp [int2, q] at e
      | some d => simp [int2, q] at e; exact ⟨i, j, d, rfl, rfl, q, e.symm⟩
    cases o with
    | add =>
      have ew : addD x y = some w := ew
      unfold addD at ew
      split at ew
      · cases ew
        cases ha.int
        cases hb.int
        exact .inl ⟨_, _, rfl, rfl, intr rfl fun _ => .int _⟩
      · split at ew
        · rename_i hz
          cases ew
          cases ha.str
          cases hb.str
          exact .inr (.inl ⟨_, _, rfl, rfl, of_decide_eq_true hz, intr rfl fun _ => .str _⟩)
        · cases ew
      · split at ew
        · rename_i hz
          cases ew
          obtain ⟨a, xs, rfl, sa, ra, pa⟩ := ha.tup s
          obtain ⟨b, ys, rfl, sb, rb, pb⟩ := hb.tup s
          have la := ra.length
          have lb := rb.length
          have hz : _ ≤ sizeLine := of_decide_eq_true hz
          refine .inr (.inr (.inl ⟨a, b, xs, ys, rfl, rfl, sa, sb, by omega, fun e => ?_, fun _ e => ?_, fun _ _ p hp => ?_⟩))
          · subst e
            cases ra
            exact ret_fz h r pb
          · subst e
            cases rb
            rw [List.append_nil] at h
            exact ret_fz h r pa
          · exact h _ _ _ ⟨rfl, Rel.newTup r hp (ra.append rb)⟩
        · cases ew
      · split at ew
        · rename_i hz
          cases ew
          obtain ⟨a, xs, rfl, sa, ra⟩ := ha
          obtain ⟨b, ys, rfl, sb, rb⟩ := hb
          have la := ra.length
          have lb := rb.length
          have hz : _ ≤ sizeLine := of_decide_eq_true hz
          exact .inr (.inr (.inr ⟨a, b, xs, ys, rfl, rfl, sa, sb, by omega, fun p hp => ret_new h r hp (ra.append rb)⟩))
        · cases ew
      · cases ew
    | sub =>
      obtain ⟨i, j, d, rfl, rfl, e, rfl⟩ := i2 ew
      cases e
      cases ha.int
      cases hb.int
      exact ⟨_, _, rfl, rfl, intr rfl fun _ => .int _⟩
    | mul =>
      obtain ⟨i, j, d, rfl, rfl, e, rfl⟩ := i2 ew
      unfold mulI at e
      split at e
      · cases e
      · rename_i hz
        cases e
        cases ha.int
        cases hb.int
        refine ⟨_, _, rfl, rfl, ?_, intr rfl fun _ => .int _⟩
        have hz : ¬ (big i = true ∧ big j = true) := by simpa using hz
        unfold CMul
        by_cases c : big i = true
        · have c2 : big j = false := by simpa using fun q => hz ⟨c, q⟩
          unfold big at c2
          simp at c2
          exact .inr c2
        · have c2 : big i = false := by simpa using c
          unfold big at c2
          simp at c2
          exact .inl c2
    | fdiv =>
      obtain ⟨i, j, d, rfl, rfl, e, rfl⟩ := i2 ew
      split at e
      · rename_i hz
        cases e
        cases ha.int
        cases hb.int
        exact ⟨_, _, rfl, rfl, hz, intr rfl fun _ => .int _⟩
      · cases e
    | mod =>
      obtain ⟨i, j, d, rfl, rfl, e, rfl⟩ := i2 ew
      split at e
      · rename_i hz
        cases e
        cases ha.int
        cases hb.int
        exact ⟨_, _, rfl, rfl, hz, intr rfl fun _ => .int _⟩
      · cases e
    | pow =>
      obtain ⟨i, j, d, rfl, rfl, e, rfl⟩ := i2 ew
      split at e
      · rename_i hz
        cases e
        cases ha.int
        cases hb.int
        exact ⟨_, _, rfl, rfl, hz, intr rfl fun _ => .int _⟩
      · cases e
  · exact h.elim
/-! ### comparisons -/
def opC : CmpO → CmpOp
  | .eq => .Eq
  | .ne => .NotEq
  | .lt => .Lt
  | .le => .LtE
  | .gt => .Gt
  | .ge => .GtE
  | .isin => .In
  | .notin => .NotIn
  | .is => .Is
  | .isnot => .IsNot
def rInS (neg : Bool) : R2 := fun x y H Q => ∃ i j, x = .str i ∧ y = .str j ∧ Q (.bl (neg != !(Builtin.Str.occurrences j i 0 j.length 1).isEmpty)) H
def rEqM (K : PySem.W.Frag) (neg : Bool) : R2 := fun x y H Q => ∃ d e, Dp K H x d ∧ Dp K H y e ∧ eqOk d e = true ∧ Q (.bl (neg != PyData.eqv d e)) H
theorem eqOk_inv {d e : D} (h : eqOk d e = true) : d.canLay0 = true ∧ e.canLay0 = true ∧ min d.depth e.depth ≤ 64 := by
  unfold eqOk at h
  rw [Bool.and_eq_true, Bool.and_eq_true] at h
  exact ⟨h.1.1, h.1.2, of_decide_eq_true h.2⟩
theorem op_eqM {X : Cx} (hu : X.A.units + 64 < cLine) : OpR X (compareOp .Eq) (rEqM X.K false) := by
  intro pins s σ H x y v u Q I rx ry h
  obtain ⟨d, e, hd, he, sd, q⟩ := h
  obtain ⟨as, r1⟩ := Dp.reads I d x v hd rx
  obtain ⟨bs, r2⟩ := Dp.reads I e y u he ry
  obtain ⟨h1, h2, h3⟩ := eqOk_inv sd
  exact SeqAt.compareEq_reads r1 r2 h1 h2 (by omega) ⟨.bl _, H, I, rfl, by simpa using q⟩
theorem op_neM {X : Cx} (hu : X.A.units + 64 < cLine) : OpR X (compareOp .NotEq) (rEqM X.K true) := by
  intro pins s σ H x y v u Q I rx ry h
  obtain ⟨d, e, hd, he, sd, q⟩ := h
  obtain ⟨as, r1⟩ := Dp.reads I d x v hd rx
  obtain ⟨bs, r2⟩ := Dp.reads I e y u he ry
  obtain ⟨h1, h2, h3⟩ := eqOk_inv sd
  exact SeqAt.compareNe_reads r1 r2 h1 h2 (by omega) ⟨.bl _, H, I, rfl, by simpa using q⟩
def rCmp (K : PySem.W.Frag) : CmpO → R2
  | .eq => rEqM K false
  | .ne => rEqM K true
  | .lt => rI0 fun i j => .bl (decide (i < j))
  | .le => rI0 fun i j => .bl (decide (i ≤ j))
  | .gt => rI0 fun i j => .bl (decide (j < i))
  | .ge => rI0 fun i j => .bl (decide (j ≤ i))
  | .isin => fun x y H Q => rInS false x y H Q ∨ (rInD K x y H Q ∨ rIn K false x y H Q)
  | .notin => fun x y H Q => rInS true x y H Q ∨ (rNotInD K x y H Q ∨ rIn K true x y H Q)
  | .is => fun x y H Q => y = .non ∧ Q (.bl (decide (x = .non))) H
  | .isnot => fun x y H Q => y = .non ∧ Q (.bl (!decide (x = .non))) H
theorem opr_cmp {k : Nat} (hr : Room k X.A) : ∀ o : CmpO, OpR X (compareOp (opC o)) (rCmp X.K o)
  | .eq => op_eqM (by have := hr.un; omega)
  | .ne => op_neM (by have := hr.un; omega)
  | .lt => op_lt
  | .le => op_le
  | .gt => op_gt
  | .ge => op_ge
  | .isin => by
    refine OpR.or ?_ ((op_inD (by have := hr.un; omega)).or op_in_seq)
    intro pins s σ H x y v u Q I rx ry h
    obtain ⟨i, j, e1, e2, q⟩ := h
    exact op_in_str pins s σ H x y v u Q I rx ry ⟨i, j, e1, e2, by simpa using q⟩
  | .notin => by
    refine OpR.or ?_ ((op_notInD (by have := hr.un; omega)).or op_notIn_seq)
    intro pins s σ H x y v u Q I rx ry h
    obtain ⟨i, j, e1, e2, q⟩ := h
    exact op_notin_str pins s σ H x y v u Q I rx ry ⟨i, j, e1, e2, by simpa using q⟩
  | .is => op_isN
  | .isnot => op_notN
/-- of a scalar and a row of scalars -/
def vD : D → V
  | .none => .non
  | .bool b => .bl b
  | .int i => .int i
  | .str s => .str s
  | _ => .non
theorem Rp.flat {K : PySem.W.Frag} {F : Hp} {v : V} {d : D} (h : Rp K F v d) (f : flatD d = true) : v = vD d ∧ flatV v = true := by
  cases h <;> first | exact ⟨rfl, rfl⟩ | simp [flatD] at f
theorem eqV_flat : ∀ {d e : D}, flatD d = true → flatD e = true → eqV (vD d) (vD e) = PyData.eqv d e := by
  intro d e hd he
  cases d <;> first | (simp [flatD] at hd; done) | skip
  all_goals (cases e <;> first | (simp [flatD] at he; done) | skip)
  all_goals simp [vD, eqV, PyData.eqv]
end
end Co

set_option Elab.async false
set_option linter.all false
set_option maxRecDepth 100000
set_option maxHeartbeats 4000000
namespace Co
open PySem PySem.Spec PyProof.Rows L2
section
variable {X : Cx} {B : Ba} {W₀ : WX} {F H : Hp} {T M : List (V × W)} {σ : St} {ρ : Env}
theorem shaped_lay {d : D} (h : SeqAt.shaped d = true) : d.canLay0 = true := SeqAt.canLay_of_shaped h
theorem Rps.flat {K : PySem.W.Frag} {F : Hp} : ∀ {ds : List D} {vs : List V}, Rps K F vs ds → ds.all flatD = true → vs = ds.map vD ∧ vs.all flatV = true
  | [], _, h, _ => by cases h; exact ⟨rfl, rfl⟩
  | d :: ds, _, h, f => by
    cases h with
    | cons h1 h2 =>
      rw [List.all_cons, Bool.and_eq_true] at f
      obtain ⟨e1, q1⟩ := h1.flat f.1
      obtain ⟨e2, q2⟩ := Rps.flat h2 f.2
      refine ⟨by rw [e1, e2]; rfl, ?_⟩
      rw [List.all_cons, q1, q2]
      rfl
theorem inV_flat {d : D} {ds : List D} (f : flatD d = true) (g : ds.all flatD = true) : inV (vD d) (ds.map vD) = inList d ds := by
  unfold inV inList
  rw [List.any_map]
  induction ds with
  | nil => rfl
  | cons e ds ih =>
    rw [List.all_cons, Bool.and_eq_true] at g
    rw [List.any_cons, List.any_cons, ih g.2]
    show (eqV (vD e) (vD d) || _) = _
    rw [eqV_flat g.1 f]
theorem Rp.isN {K : PySem.W.Frag} {F : Hp} {v : V} {d : D} (h : Rp K F v d) : decide (v = .non) = isN d := by
  cases h <;> rfl
theorem bne_true' (b : Bool) : (true != b) = !b := by cases b <;> rfl
theorem bne_false' (b : Bool) : (false != b) = b := by cases b <;> rfl
/-- a comparison of data -/
theorem cmp_val (o : CmpO) {va vb : V} {da db : D} {b : Bool} {Q : VK} (ha : Rp X.K H va da) (hb : Rp X.K H vb db) (e : cmpD o da db = some b) (q : Q (.bl b) H) : rCmp X.K o va vb H Q := by
  have i2 : ∀ {f : Int → Int → Bool}, intC f da db = some b → ∃ i j, va = .int i ∧ vb = .int j ∧ f i j = b := fun {f} e => by
    cases da <;> cases db <;> first | (simp [intC] at e; done) | skip
    cases ha
    cases hb
    exact ⟨_, _, rfl, rfl, by simpa [intC] using e⟩
  have inn : ∀ {neg : Bool}, inD neg da db = some b → rInS neg va vb H Q ∨ ((if neg then rNotInD X.K va vb H Q else rInD X.K va vb H Q) ∨ rIn X.K neg va vb H Q) := fun {neg} e => by
    unfold inD at e
    split at e
    · cases ha
      cases hb
      cases e
      exact .inl ⟨_, _, rfl, rfl, q⟩
    · split at e
      · rename_i hs
        rw [Bool.and_eq_true] at hs
        cases e
        refine .inr (.inl ?_)
        have h1 := ha.dp (shaped_lay hs.1)
        have h2 := hb.dp (shaped_lay hs.2)
        cases neg with
        | true => exact ⟨_, _, h1, h2, hs.1, hs.2, by rw [bne_true'] at q; exact q⟩
        | false => exact ⟨_, _, h1, h2, hs.1, hs.2, by rw [bne_false'] at q; exact q⟩
      · cases e
    · split at e
      · rename_i hs
        rw [Bool.and_eq_true] at hs
        cases e
        refine .inr (.inr ?_)
        obtain ⟨e1, q1⟩ := ha.flat hs.1
        cases hb with
        | @tup a xs _ sx rx =>
          obtain ⟨e2, q2⟩ := rx.flat hs.2
          refine ⟨a, xs, rfl, .inr sx, q1, q2, ?_⟩
          rw [e1, e2, inV_flat hs.1 hs.2]
          cases neg with
          | true => rw [bne_true'] at q; exact q
          | false => rw [bne_false'] at q; exact q
      · cases e
    · cases e
  have isd : ∀ {neg : Bool}, isD neg da db = some b → vb = .non ∧ (neg != decide (va = .non)) = b := fun {neg} e => by
    unfold isD at e
    split at e
    · rename_i z
      cases e
      refine ⟨?_, by rw [ha.isN]⟩
      cases hb <;> first | rfl | (simp [isN] at z)
    · cases e
  cases o with
  | eq =>
    have e : (if eqOk da db = true then some (PyData.eqv da db) else none) = some b := e
    split at e
    · rename_i hs
      cases e
      obtain ⟨h1, h2, h3⟩ := eqOk_inv hs
      exact ⟨_, _, ha.dp h1, hb.dp h2, hs, by simpa using q⟩
    · cases e
  | ne =>
    have e : (if eqOk da db = true then some (!PyData.eqv da db) else none) = some b := e
    split at e
    · rename_i hs
      cases e
      obtain ⟨h1, h2, h3⟩ := eqOk_inv hs
      exact ⟨_, _, ha.dp h1, hb.dp h2, hs, by simpa using q⟩
    · cases e
  | lt => obtain ⟨i, j, e1, e2, e3⟩ := i2 e; subst e3; exact ⟨i, j, e1, e2, q⟩
  | le => obtain ⟨i, j, e1, e2, e3⟩ := i2 e; subst e3; exact ⟨i, j, e1, e2, q⟩
  | gt => obtain ⟨i, j, e1, e2, e3⟩ := i2 e; subst e3; exact ⟨i, j, e1, e2, q⟩
  | ge => obtain ⟨i, j, e1, e2, e3⟩ := i2 e; subst e3; exact ⟨i, j, e1, e2, q⟩
  | isin => exact inn (neg := false) e
  | notin => exact inn (neg := true) e
  | is => obtain ⟨e1, e2⟩ := isd (neg := false) e; exact ⟨e1, by rw [bne_false'] at e2; rw [e2]; exact q⟩
  | isnot => obtain ⟨e1, e2⟩ := isd (neg := true) e; exact ⟨e1, by rw [bne_true'] at e2; rw [e2]; exact q⟩
theorem cmp_ok (o : CmpO) {Q : VK} {va vb : V} {za zb : Z} (ha : ZV X B T σ za ρ va F H) (hb : ZV X B T σ zb ρ vb F H) (r : RL X B F H T σ ρ) (h : FinA X B W₀ T σ (ZR X B T σ) Q (cmpF o za zb ρ)) : rCmp X.K o va vb H Q := by
  obtain ⟨d, e, h⟩ := ofD_fin h
  cases q : cmpD o za.dat zb.dat with
  | none => rw [q] at e; simp at e
  | some b =>
    rw [q] at e
    cases e
    exact cmp_val o ha.rd hb.rd q (ret_fz h r (.bl b))
theorem cmpT_ok (o : CmpO) {Q : Bool → Hp → Prop} {va vb : V} {za zb : Z} (ha : ZV X B T σ za ρ va F H) (hb : ZV X B T σ zb ρ vb F H) (r : RL X B F H T σ ρ) (h : FinA X B W₀ T σ (TRl X B T σ) Q (cmpT o za zb ρ)) :
    rCmp X.K o va vb H fun x H' => ∃ k, x = .bl k ∧ Q k H' := by
  obtain ⟨b, e, h⟩ := liftO_fin h
  exact cmp_val o ha.rd hb.rd e ⟨b, rfl, h b F H ⟨rfl, r⟩⟩
/-! ### items, slices -/
theorem atI_rp {K : PySem.W.Frag} {F : Hp} {vs : List V} {ds : List D} {i : Int} {d : D} (h : Rps K F vs ds) (e : atI ds i = some d) : ∃ v, atI vs i = some v ∧ Rp K F v d := by
  unfold atI at e ⊢
  rw [h.length]
  cases q : ixN ds.length i with
  | none => rw [q] at e; cases e
  | some j =>
    rw [q] at e
    exact h.get e
theorem atI_or {K : PySem.W.Frag} {F H : Hp} {vs : List V} {os : List O} {A : List Addr} {i : Int} {o : O} (h : ORs K F H vs os A) (e : atI os i = some o) : ∃ v A', atI vs i = some v ∧ OR K F H v o A' := by
  unfold atI at e ⊢
  rw [h.length]
  cases q : ixN os.length i with
  | none => rw [q] at e; cases e
  | some j =>
    rw [q] at e
    obtain ⟨v, A1, A2, A3, e1, e2, _⟩ := h.split e
    exact ⟨v, A2, e1, e2⟩
def rIxA (K : PySem.W.Frag) : R2 := fun x y H Q => rIxL K x y H Q ∨ rIxT K x y H Q ∨ rIxS x y H Q
theorem Rp.intV {K : PySem.W.Frag} {F : Hp} {v : V} {i : Int} (h : Rp K F v (.int i)) : v = .int i := by cases h; rfl
theorem ix_ok {Q : VK} {va vb : V} {za zb : Z} (ha : ZV X B T σ za ρ va F H) (hb : ZV X B T σ zb ρ vb F H) (r : RL X B F H T σ ρ) (h : FinA X B W₀ T σ (ZR X B T σ) Q (ixF za zb ρ)) : rIxA X.K va vb H Q := by
  have plain : ∀ {x : D}, za.el = some x → FinA X B W₀ T σ (ZR X B T σ) Q (ofD (ixD x zb.dat) ρ) → rIxA X.K va vb H Q := fun {x} ex hh => by
    obtain ⟨d, e, gg⟩ := ofD_fin hh
    clear hh h
    have ea := ha.el _ ex
    have hb := hb.rd
    unfold ixD at e
    split at e
    · rename_i xs i e1
      rw [e1] at hb
      cases hb.intV
      obtain ⟨a, vs, rfl, sa, ra⟩ := ea
      obtain ⟨v, e2, rv⟩ := atI_rp ra e
      exact .inl ⟨a, vs, i, v, rfl, rfl, .inl (.inl sa), e2, ret_fz gg r rv⟩
    · rename_i xs i e1
      rw [e1] at hb
      cases hb.intV
      obtain ⟨a, vs, rfl, sa, ra, _⟩ := EL.tup r.sub ea
      obtain ⟨v, e2, rv⟩ := atI_rp ra e
      exact .inr (.inl ⟨a, vs, i, v, rfl, rfl, sa, e2, ret_fz gg r rv⟩)
    · rename_i z i e1
      rw [e1] at hb
      cases hb.intV
      cases ea.str
      split at e
      · rename_i hz
        cases q : atI z.cps.toList i with
        | none => rw [q] at e; cases e
        | some c =>
          rw [q] at e
          cases e
          exact .inr (.inr ⟨z, i, c, rfl, rfl, of_decide_eq_true hz, q, ret_fz gg r (.str _)⟩)
      · cases e
    · cases e
  unfold ixF at h
  split at h
  · rename_i os
    obtain ⟨A, q⟩ := ha.bo _ rfl
    split at h
    · rename_i i e1
      have hb := hb.rd
      rw [e1] at hb
      cases hb.intV
      cases q with
      | @l p vs _ A hp rs =>
        split at h
        · rename_i x e2
          obtain ⟨v, A', e3, q3⟩ := atI_or rs e2
          cases q3 with
          | d rv => exact .inl ⟨p, vs, i, v, rfl, rfl, .inl (.inl hp), e3, ret_fz h r rv⟩
        · rename_i o _ e2
          obtain ⟨v, A', e3, q3⟩ := atI_or rs e2
          exact .inl ⟨p, vs, i, v, rfl, rfl, .inl (.inl hp), e3, h v F H ⟨r, A', q3⟩⟩
        · exact h.elim
    · exact h.elim
  · split at h
    · rename_i x ex
      exact plain ex h
    · exact h.elim
theorem ixr : IxR X (rIxA X.K) := ix_seq
theorem cut_rps {K : PySem.W.Frag} {F : Hp} {vs : List V} {ds : List D} (h : Rps K F vs ds) (lo hi : Option Int) : Rps K F (cutV vs lo hi) (cutA ds lo hi) := by
  unfold cutV cutA
  rw [h.length]
  exact (h.drop _).take _
def rSlAll (K : PySem.W.Frag) : V → Option Int → Option Int → Hp → VK → Prop := fun x lo hi H Q => rSlL K x lo hi H Q ∨ (rSlA K x lo hi H Q ∨ rSlS x lo hi H Q)
theorem slr : SlR X (rSlAll X.K) := sl_list.or (sl_tupA.or sl_str)
theorem cutA_whole {α : Type} {xs : List α} {lo hi : Option Int} (h : HT.sIx xs.length 0 lo = 0 ∧ HT.sIx xs.length xs.length hi = xs.length) : cutA xs lo hi = xs := by
  unfold cutA
  rw [h.1, h.2]
  simp
theorem rps_ints {K : PySem.W.Frag} {F : Hp} : ∀ ns : List Int, Rps K F (ns.map V.int) (ns.map .int)
  | [] => .nil
  | n :: ns => .cons (.int n) (rps_ints ns)
theorem sl_ok {Q : VK} {va : V} {za : Z} {x : D} {lo hi : Option Int} (ha : ZV X B T σ za ρ va F H) (ex : za.el = some x) (r : RL X B F H T σ ρ) (h : FinA X B W₀ T σ (ZR X B T σ) Q (ofO (slD x lo hi) ρ)) : rSlAll X.K va lo hi H Q := by
  obtain ⟨w, e, gg⟩ := ofO_fin h
  clear h
  have ea := ha.el _ ex
  unfold slD at e
  split at e
  · cases e
    have ea : Rp X.K F va (.dict _) := ea
    cases ea with
    | scr ns s =>
      refine .inl ⟨_, _, rfl, r.sub.seq s, fun p hp => ?_⟩
      exact ret_new gg r hp (cut_rps (rps_ints ns) lo hi)
  · cases e
    obtain ⟨a, vs, rfl, sa, ra⟩ := ea
    exact .inl ⟨a, vs, rfl, .inl (.inl sa), fun p hp => ret_new gg r hp (cut_rps ra lo hi)⟩
  · cases e
    obtain ⟨a, vs, rfl, sa, ra, pa⟩ := EL.tup r.sub ea
    refine .inr (.inl ⟨a, vs, rfl, sa, fun q => ?_, fun _ p hp => ?_⟩)
    · rw [ra.length] at q
      rw [cutA_whole q] at gg
      exact ret_fz gg r pa
    · exact gg _ _ _ ⟨rfl, Rel.newTup r hp (cut_rps ra lo hi)⟩
  · split at e
    · rename_i hz
      cases e
      cases ea.str
      exact .inr (.inr ⟨_, rfl, of_decide_eq_true hz, ret_fz gg r (.str _)⟩)
    · cases e
  · cases e
end
end Co

set_option Elab.async false
set_option linter.all false
set_option maxRecDepth 100000
set_option maxHeartbeats 4000000
namespace Co
open PySem PySem.Spec PyProof.Rows L2
section
variable {X : Cx} {B : Ba} {W₀ : WX} {F H : Hp} {T M : List (V × W)} {σ : St} {ρ : Env}
/-! ### built-in functions of one argument -/
def b1V : B1 → Value
  | .len => .builtin "len"
  | .abs => .builtin "abs"
  | .int => .type "int"
  | .str => .type "str"
  | .sum => .builtin "sum"
  | .all => .builtin "all"
  | .any => .builtin "any"
  | .max => .builtin "max"
  | .min => .builtin "min"
  | .tuple => .type "tuple"
  | .list => .type "list"
def b1N : B1 → Str
  | .len => "len"
  | .abs => "abs"
  | .int => "int"
  | .str => "str"
  | .sum => "sum"
  | .all => "all"
  | .any => "any"
  | .max => "max"
  | .min => "min"
  | .tuple => "tuple"
  | .list => "list"
def r1 (K : PySem.W.Frag) : B1 → List V → Hp → VK → Prop
  | .len => fun xs H Q => ∃ x n, xs = [x] ∧ LenV K x H n ∧ Q (.int n) H
  | .abs => fun xs H Q => ∃ i, xs = [.int i] ∧ Q (.int (if i < 0 then -i else i)) H
  | .int => fun xs H Q => ((∃ i, xs = [.int i] ∧ Q (.int i) H) ∨ ∃ k, xs = [.bl k] ∧ Q (.int (if k then 1 else 0)) H) ∨ ∃ a n, xs = [.str a] ∧ PySem.intText? a = some n ∧ a.length ≤ 640 ∧ Q (.int n) H
  | .str => fun xs H Q => ∃ i, xs = [.int i] ∧ i.natAbs.log2 < 1920 ∧ Q (.str (toString i)) H
  | .sum => rSum K
  | .all => rAll K
  | .any => rAny K
  | .max => rMax K
  | .min => rMin K
  | .tuple => fun xs H Q => ∃ p ys, xs = [.ref p] ∧ ((SqL K H p ys ∧ ∀ l, H l = none → Q (.ref l) (upd H l (.tup ys))) ∨ (SqT K H p ys ∧ Q (.ref p) H))
  | .list => fun xs H Q => ∃ p ys, xs = [.ref p] ∧ (SqL K H p ys ∨ SqT K H p ys) ∧ ∀ l, H l = none → Q (.ref l) (upd H l (.lst ys))
theorem cr1 (hc : X.calm = true) : ∀ f : B1, CallR X (b1V f) (r1 X.K f)
  | .len => call_len
  | .abs => call_abs
  | .int => call_int1.or call_int_str
  | .str => call_str_int
  | .sum => cr_sum hc
  | .all => cr_all hc
  | .any => cr_any hc
  | .max => cr_max hc
  | .min => cr_min hc
  | .tuple => call_tuple_of
  | .list => call_list_of
theorem boot1 : ∀ f : B1, bootBuiltins (b1N f) = some (b1V f) := by
  intro f
  cases f <;> decide +kernel
theorem intsD_rps {K : PySem.W.Frag} {F : Hp} : ∀ {ds : List D} {vs : List V} {ns : List Int}, Rps K F vs ds → intsD ds = some ns → vs = ns.map V.int
  | [], _, _, h, e => by cases h; cases e; rfl
  | d :: ds, _, ns, h, e => by
    cases h with
    | cons h1 h2 =>
      cases d <;> first | (simp [intsD] at e; done) | skip
      cases h1
      cases q : intsD ds with
      | none => simp [intsD, q] at e
      | some ms =>
        simp [intsD, q] at e
        subst e
        rw [intsD_rps h2 q]
        rfl
theorem blsD_rps {K : PySem.W.Frag} {F : Hp} : ∀ {ds : List D} {vs : List V} {ns : List Bool}, Rps K F vs ds → bls ds = some ns → vs = ns.map V.bl
  | [], _, _, h, e => by cases h; cases e; rfl
  | d :: ds, _, ns, h, e => by
    cases h with
    | cons h1 h2 =>
      cases d <;> first | (simp [bls] at e; done) | skip
      cases h1
      cases q : bls ds with
      | none => simp [bls, q] at e
      | some ms =>
        simp [bls, q] at e
        subst e
        rw [blsD_rps h2 q]
        rfl
theorem strsD_rps {K : PySem.W.Frag} {F : Hp} : ∀ {ds : List D} {vs : List V} {ns : List Str}, Rps K F vs ds → strsD ds = some ns → vs = ns.map V.str
  | [], _, _, h, e => by cases h; cases e; rfl
  | d :: ds, _, ns, h, e => by
    cases h with
    | cons h1 h2 =>
      cases d <;> first | (simp [strsD] at e; done) | skip
      cases h1
      cases q : strsD ds with
      | none => simp [strsD, q] at e
      | some ms =>
        simp [strsD, q] at e
        subst e
        rw [strsD_rps h2 q]
        rfl
theorem maxI_is : ∀ {ns : List Int} {m m' : Int}, maxI ns = some m → m' ∈ ns → (∀ y ∈ ns, y ≤ m') → m' = m := by
  have gen : ∀ (xs : List Int) (x : Int), (∀ y ∈ x :: xs, y ≤ xs.foldl max x) ∧ xs.foldl max x ∈ x :: xs := by
    intro xs
    induction xs with
    | nil => intro x; simp
    | cons z xs ih =>
      intro x
      obtain ⟨h1, h2⟩ := ih (max x z)
      refine ⟨fun y hy => ?_, ?_⟩
      · show y ≤ xs.foldl max (max x z)
        have hm := h1 (max x z) List.mem_cons_self
        rcases List.mem_cons.mp hy with e | hy
        · subst e; exact Int.le_trans (Int.le_max_left _ _) hm
        · rcases List.mem_cons.mp hy with e | hy
          · subst e; exact Int.le_trans (Int.le_max_right _ _) hm
          · exact h1 y (List.mem_cons_of_mem _ hy)
      · show xs.foldl max (max x z) ∈ _
        rcases List.mem_cons.mp h2 with e | h2
        · rw [e]
          rcases Int.le_total x z with q | q
          · rw [Int.max_eq_right q]; simp
          · rw [Int.max_eq_left q]; simp
        · exact List.mem_cons_of_mem _ (List.mem_cons_of_mem _ h2)
  intro ns m m' e hm hy
  cases ns with
  | nil => cases hm
  | cons x xs =>
    have e : xs.foldl max x = m := by simpa [maxI] using e
    obtain ⟨h1, h2⟩ := gen xs x
    rw [e] at h1 h2
    exact Int.le_antisymm (h1 m' hm) (hy m h2)
theorem minI_is : ∀ {ns : List Int} {m m' : Int}, minI ns = some m → m' ∈ ns → (∀ y ∈ ns, m' ≤ y) → m' = m := by
  have gen : ∀ (xs : List Int) (x : Int), (∀ y ∈ x :: xs, xs.foldl min x ≤ y) ∧ xs.foldl min x ∈ x :: xs := by
    intro xs
    induction xs with
    | nil => intro x; simp
    | cons z xs ih =>
      intro x
      obtain ⟨h1, h2⟩ := ih (min x z)
      refine ⟨fun y hy => ?_, ?_⟩
      · show xs.foldl min (min x z) ≤ y
        have hm := h1 (min x z) List.mem_cons_self
        rcases List.mem_cons.mp hy with e | hy
        · subst e; exact Int.le_trans hm (Int.min_le_left _ _)
        · rcases List.mem_cons.mp hy with e | hy
          · subst e; exact Int.le_trans hm (Int.min_le_right _ _)
          · exact h1 y (List.mem_cons_of_mem _ hy)
      · show xs.foldl min (min x z) ∈ _
        rcases List.mem_cons.mp h2 with e | h2
        · rw [e]
          rcases Int.le_total x z with q | q
          · rw [Int.min_eq_left q]; simp
          · rw [Int.min_eq_right q]; simp
        · exact List.mem_cons_of_mem _ (List.mem_cons_of_mem _ h2)
  intro ns m m' e hm hy
  cases ns with
  | nil => cases hm
  | cons x xs =>
    have e : xs.foldl min x = m := by simpa [minI] using e
    obtain ⟨h1, h2⟩ := gen xs x
    rw [e] at h1 h2
    exact Int.le_antisymm (hy m h2) (h1 m' hm)
theorem Rp.lstV {K : PySem.W.Frag} {F : Hp} {v : V} {ds : List D} (h : Rp K F v (.list ds)) : ∃ a xs, v = .ref a ∧ SqL K F a xs ∧ Rps K F xs ds := by
  cases h with
  | lst a b => exact ⟨_, _, rfl, .inl (.inl a), b⟩
theorem Rp.tupV {K : PySem.W.Frag} {F : Hp} {v : V} {ds : List D} (h : Rp K F v (.tuple ds)) : ∃ a xs, v = .ref a ∧ SqT K F a xs ∧ Rps K F xs ds := by
  cases h with
  | tup a b => exact ⟨_, _, rfl, a, b⟩
theorem Rp.strV {K : PySem.W.Frag} {F : Hp} {v : V} {s : Str} (h : Rp K F v (.str s)) : v = .str s := by cases h; rfl
theorem Rp.blV {K : PySem.W.Frag} {F : Hp} {v : V} {s : Bool} (h : Rp K F v (.bool s)) : v = .bl s := by cases h; rfl
theorem b1_ok (f : B1) {Q : VK} {va : V} {za : Z} (ha : ZV X B T σ za ρ va F H) (r : RL X B F H T σ ρ) (h : FinA X B W₀ T σ (ZR X B T σ) Q (b1F f za ρ)) : r1 X.K f [va] H Q := by
  have rd := ha.rd
  have viaDat : FinA X B W₀ T σ (ZR X B T σ) Q (ofO (b1D f za.dat) ρ) → f ≠ .tuple → f ≠ .list → r1 X.K f [va] H Q := fun hh n1 n2 => by
    obtain ⟨w, e, gg⟩ := ofO_fin hh
    clear hh h
    generalize hd : za.dat = d at e rd
    have out : ∀ {d' : D} {v : V}, w = .fz d' → (∀ F, Rp X.K F v d') → Q v H := fun e q => by subst e; exact ret_fz gg r (q F)
    cases f with
    | tuple => exact absurd rfl n1
    | list => exact absurd rfl n2
    | len =>
      cases d <;> first | (simp [b1D] at e; done) | skip
      · rename_i s
        have e : (if okLen s.length = true then some (W.fz (.int s.length)) else none) = some w := e
        split at e
        · rename_i hz
          cases rd.strV
          exact ⟨_, s.length, rfl, ⟨of_decide_eq_true hz, rfl⟩, out (by simpa using e.symm) fun _ => .int _⟩
        · cases e
      · obtain ⟨a, xs, rfl, sa, ra⟩ := rd.lstV
        refine ⟨_, xs.length, rfl, .inl ⟨xs, sa, rfl⟩, ?_⟩
        rw [ra.length]
        exact out (by simpa [b1D] using e.symm) fun _ => .int _
      · obtain ⟨a, xs, rfl, sa, ra⟩ := rd.tupV
        refine ⟨_, xs.length, rfl, .inr ⟨xs, sa, rfl⟩, ?_⟩
        rw [ra.length]
        exact out (by simpa [b1D] using e.symm) fun _ => .int _
    | abs =>
      cases d <;> first | (simp [b1D] at e; done) | skip
      cases rd.intV
      exact ⟨_, rfl, out (by simpa [b1D] using e.symm) fun _ => .int _⟩
    | int =>
      cases d <;> first | (simp [b1D] at e; done) | skip
      · cases rd.blV
        exact .inl (.inr ⟨_, rfl, out (by simpa [b1D] using e.symm) fun _ => .int _⟩)
      · cases rd.intV
        exact .inl (.inl ⟨_, rfl, out (by simpa [b1D] using e.symm) fun _ => .int _⟩)
      · rename_i s
        cases rd.strV
        have e : (if s.length ≤ 640 then (PySem.intText? s).map fun n => W.fz (.int n) else none) = some w := e
        split at e
        · rename_i hz
          cases q : PySem.intText? s with
          | none => rw [q] at e; cases e
          | some n =>
            rw [q] at e
            exact .inr ⟨_, n, rfl, q, hz, out (by simpa using e.symm) fun _ => .int _⟩
        · cases e
    | str =>
      cases d <;> first | (simp [b1D] at e; done) | skip
      rename_i i
      cases rd.intV
      have e : (if i.natAbs.log2 < 1920 then some (W.fz (.str (toString i))) else none) = some w := e
      split at e
      · rename_i hz
        exact ⟨_, rfl, hz, out (by simpa using e.symm) fun _ => .str _⟩
      · cases e
    | sum =>
      cases d <;> first | (simp [b1D] at e; done) | skip
      rename_i ds
      obtain ⟨a, xs, rfl, sa, ra⟩ := rd.lstV
      cases q : intsD ds with
      | none => simp [b1D, q] at e
      | some ns =>
        rw [intsD_rps ra q] at sa
        exact ⟨a, ns, rfl, sa, out (by simpa [b1D, q] using e.symm) fun _ => .int _⟩
    | all =>
      cases d <;> first | (simp [b1D] at e; done) | skip
      rename_i ds
      obtain ⟨a, xs, rfl, sa, ra⟩ := rd.lstV
      cases q : bls ds with
      | none => simp [b1D, q] at e
      | some ns =>
        rw [blsD_rps ra q] at sa
        exact ⟨a, ns, rfl, sa, out (d' := .bool (ns.all id)) (by simpa [b1D, q] using e.symm) fun _ => .bl _⟩
    | any =>
      cases d <;> first | (simp [b1D] at e; done) | skip
      rename_i ds
      obtain ⟨a, xs, rfl, sa, ra⟩ := rd.lstV
      cases q : bls ds with
      | none => simp [b1D, q] at e
      | some ns =>
        rw [blsD_rps ra q] at sa
        exact ⟨a, ns, rfl, sa, out (d' := .bool (ns.any id)) (by simpa [b1D, q] using e.symm) fun _ => .bl _⟩
    | max =>
      cases d <;> first | (simp [b1D] at e; done) | skip
      rename_i ds
      obtain ⟨a, xs, rfl, sa, ra⟩ := rd.lstV
      cases q : intsD ds with
      | none => simp [b1D, q] at e
      | some ns =>
        cases q2 : maxI ns with
        | none => simp [b1D, q, q2] at e
        | some m =>
          rw [intsD_rps ra q] at sa
          refine ⟨a, ns, rfl, sa, ?_, fun m' hm hy => ?_⟩
          · cases ns with
            | nil => simp [maxI] at q2
            | cons x xs => exact Nat.succ_pos _
          · rw [maxI_is q2 hm hy]
            exact out (by simpa [b1D, q, q2] using e.symm) fun _ => .int _
    | min =>
      cases d <;> first | (simp [b1D] at e; done) | skip
      rename_i ds
      obtain ⟨a, xs, rfl, sa, ra⟩ := rd.lstV
      cases q : intsD ds with
      | none => simp [b1D, q] at e
      | some ns =>
        cases q2 : minI ns with
        | none => simp [b1D, q, q2] at e
        | some m =>
          rw [intsD_rps ra q] at sa
          refine ⟨a, ns, rfl, sa, ?_, fun m' hm hy => ?_⟩
          · cases ns with
            | nil => simp [minI] at q2
            | cons x xs => exact Nat.succ_pos _
          · rw [minI_is q2 hm hy]
            exact out (by simpa [b1D, q, q2] using e.symm) fun _ => .int _
  cases f with
  | tuple =>
    have h : FinA X B W₀ T σ (ZR X B T σ) Q (match za.el with | some x => ofO (b1D .tuple x) ρ | none => .bad) := h
    split at h
    · rename_i x ex
      obtain ⟨w, e, gg⟩ := ofO_fin h
      have el := ha.el _ ex
      cases x <;> first | (simp [b1D] at e; done) | skip
      · obtain ⟨a, xs, rfl, sa, ra⟩ := el
        cases e
        exact ⟨a, xs, rfl, .inl ⟨.inl (.inl sa), fun l hl => gg _ _ _ ⟨rfl, Rel.newTup r hl ra⟩⟩⟩
      · obtain ⟨a, xs, rfl, sa, ra, pa⟩ := EL.tup r.sub el
        cases e
        exact ⟨a, xs, rfl, .inr ⟨sa, ret_fz gg r pa⟩⟩
    · exact h.elim
  | list =>
    have h : FinA X B W₀ T σ (ZR X B T σ) Q (match za.el with | some x => ofO (b1D .list x) ρ | none => .bad) := h
    split at h
    · rename_i x ex
      obtain ⟨w, e, gg⟩ := ofO_fin h
      have el := ha.el _ ex
      cases x <;> first | (simp [b1D] at e; done) | skip
      · obtain ⟨a, xs, rfl, sa, ra⟩ := el
        cases e
        exact ⟨a, xs, rfl, .inl (.inl (.inl sa)), fun l hl => ret_new gg r hl ra⟩
      · obtain ⟨a, xs, rfl, sa, ra, pa⟩ := EL.tup r.sub el
        cases e
        exact ⟨a, xs, rfl, .inr sa, fun l hl => ret_new gg r hl ra⟩
    · exact h.elim
  | _ => exact viaDat h (fun z => nomatch z) (fun z => nomatch z)
end
end Co

set_option Elab.async false
set_option linter.all false
set_option maxRecDepth 100000
set_option maxHeartbeats 4000000
namespace Co
open PySem PySem.Spec PyProof.Rows L2
section
variable {X : Cx} {B : Ba} {W₀ : WX} {F H : Hp} {T M : List (V × W)} {σ : St} {ρ : Env}
/-! ### max, min of two; isinstance; texts -/
def b2N : B2 → Str
  | .max => "max"
  | .min => "min"
def b2V : B2 → Value
  | .max => .builtin "max"
  | .min => .builtin "min"
def r2 : B2 → List V → Hp → VK → Prop
  | .max => fun xs H Q => ∃ i j, xs = [.int i, .int j] ∧ Q (.int (if j > i then j else i)) H
  | .min => fun xs H Q => ∃ i j, xs = [.int i, .int j] ∧ Q (.int (if j < i then j else i)) H
theorem cr2 (hc : X.calm = true) : ∀ f : B2, CallR X (b2V f) (r2 f)
  | .max => call_max2 hc
  | .min => call_min2 hc
theorem boot2 : ∀ f : B2, bootBuiltins (b2N f) = some (b2V f) := by
  intro f
  cases f <;> decide +kernel
theorem b2_ok (f : B2) {Q : VK} {va vb : V} {za zb : Z} (ha : ZV X B T σ za ρ va F H) (hb : ZV X B T σ zb ρ vb F H) (r : RL X B F H T σ ρ) (h : FinA X B W₀ T σ (ZR X B T σ) Q (ofD (b2D f za.dat zb.dat) ρ)) : r2 f [va, vb] H Q := by
  obtain ⟨d, e, gg⟩ := ofD_fin h
  clear h
  have ra := ha.rd
  have rb := hb.rd
  generalize za.dat = da at e ra
  generalize zb.dat = db at e rb
  cases f <;> cases da <;> cases db <;> first | (simp [b2D] at e; done) | skip
  all_goals
    cases ra.intV
    cases rb.intV
    cases e
    exact ⟨_, _, rfl, ret_fz gg r (.int _)⟩
/-- the type of data -/
theorem Rp.ty {K : PySem.W.Frag} {F : Hp} {v : V} {d : D} {t : String} (h : Rp K F v d) (e : tyNm d = some t) : TyX K F v (.type t) := by
  cases h with
  | non => cases e; exact .base .non
  | bl b => cases e; exact .base (.bl b)
  | int i => cases e; exact .base (.int i)
  | str x => cases e; exact .base (.str x)
  | lst a b => cases e; exact .base (.lst a)
  | tup a b =>
    cases e
    rcases a with (a | ⟨o, a⟩) | ⟨o, its, n, h1, h2, _⟩
    · exact .base (.tup a)
    · exact .fTuple a
    · exact .kTuple h1 h2
  | scr ns a => cases e
theorem kit_all {K : PySem.W.Frag} (ty : Ty) {d : D} {t : String} (e : tyNm d = some t) : PySem.W.kitOne K (.type t) (.type ty.nm) = some (tyD ty d) := by
  cases d <;> cases e <;> cases ty <;> first | exact kit_ty (r := true) (by decide +kernel) | exact kit_ty (r := false) (by decide +kernel)
theorem kit_any {K : PySem.W.Frag} {d : D} {t : String} (e : tyNm d = some t) : ∀ tys : List Ty, PySem.W.kitAny K (.type t) (tys.map fun ty => .type ty.nm) = some (tys.any fun ty => tyD ty d)
  | [] => rfl
  | ty :: tys => by
    have ih := kit_any (K := K) e tys
    rw [List.map_cons, List.any_cons]
    refine kitAny_cons (kit_all ty e) (fun q => ?_) fun q => ?_
    · rw [ih, q, Bool.false_or]
    · rw [q, Bool.true_or]
theorem isi_fin {Q : VK} {va : V} {za : Z} {tys : List Ty} (ha : ZV X B T σ za ρ va F H) (h : FinA X B W₀ T σ (ZR X B T σ) Q (isiF tys za.dat ρ)) : ∃ t, tyNm za.dat = some t ∧ TyX X.K H va (.type t) ∧ FinA X B W₀ T σ (ZR X B T σ) Q (.ok (.w (.fz (.bool (tys.any fun ty => tyD ty za.dat)))) ρ) := by
  unfold isiF at h
  cases e : tyNm za.dat with
  | none => rw [e] at h; exact h.elim
  | some t => rw [e] at h; exact ⟨t, rfl, ha.rd.ty e, h⟩
theorem paired_cls : ∀ tys : List Ty, Paired ClsV (tys.map fun t => V.ty t.nm) (tys.map fun t => Value.type t.nm)
  | [] => .nil
  | t :: tys => .cons (.ty t.nm) (paired_cls tys)
/-! ### methods of texts -/
theorem rps_strs {K : PySem.W.Frag} {F : Hp} : ∀ zs : List Str, Rps K F (zs.map V.str) (zs.map .str)
  | [] => .nil
  | z :: zs => .cons (.str z) (rps_strs zs)
def rSplit : V → List V → Hp → VK → Prop := fun x xs H Q => ∃ a b, x = .str a ∧ xs = [.str b] ∧ (b.length == 0) = false ∧ a.length + 2 ≤ sizeLine ∧ rNewStrs (Txt.split a b) H Q
def rJoin (K : PySem.W.Frag) : V → List V → Hp → VK → Prop := fun x xs H Q => ∃ a p, ∃ ys : List Str, x = .str a ∧ xs = [.ref p] ∧ (SqL K H p (ys.map V.str) ∨ SqT K H p (ys.map V.str)) ∧
    (ys.map (·.length)).sum + ys.length * a.length ≤ 16777216 ∧ Q (.str (Txt.join a ys)) H
theorem split_ok {Q : VK} {va vb : V} {za zb : Z} (ha : ZV X B T σ za ρ va F H) (hb : ZV X B T σ zb ρ vb F H) (r : RL X B F H T σ ρ) (h : FinA X B W₀ T σ (ZR X B T σ) Q (ofO (m1D .split za.dat zb.dat) ρ)) : rSplit va [vb] H Q := by
  obtain ⟨w, e, gg⟩ := ofO_fin h
  clear h
  have ra := ha.rd
  have rb := hb.rd
  generalize za.dat = da at e ra
  generalize zb.dat = db at e rb
  cases da <;> cases db <;> first | (simp [m1D] at e; done) | skip
  rename_i a b
  cases ra.strV
  cases rb.strV
  have e : (if (!(b.length == 0) && okLen (a.length + 2)) = true then some (W.own (.l ((Txt.split a b).map fun z => .d (.str z)))) else none) = some w := e
  split at e
  · rename_i hz
    rw [Bool.and_eq_true] at hz
    refine ⟨a, b, rfl, rfl, by simpa using hz.1, of_decide_eq_true hz.2, fun p hp => ?_⟩
    cases e
    have q := ret_new (ds := (Txt.split a b).map .str) (p := p) (by rw [List.map_map]; exact gg) r hp (rps_strs (Txt.split a b))
    exact q
  · cases e
theorem join_ok {Q : VK} {va vb : V} {za zb : Z} (ha : ZV X B T σ za ρ va F H) (hb : ZV X B T σ zb ρ vb F H) (r : RL X B F H T σ ρ) (h : FinA X B W₀ T σ (ZR X B T σ) Q (ofO (m1D .join za.dat zb.dat) ρ)) : rJoin X.K va [vb] H Q := by
  obtain ⟨w, e, gg⟩ := ofO_fin h
  clear h
  have ra := ha.rd
  have rb := hb.rd
  generalize za.dat = da at e ra
  generalize zb.dat = db at e rb
  cases da <;> first | (simp [m1D] at e; done) | skip
  rename_i a
  cases ra.strV
  have main : ∀ {ds : List D} {p : Addr} {vs : List V}, vb = .ref p → (SqL X.K H p vs ∨ SqT X.K H p vs) → Rps X.K H vs ds → joinD a ds = some w → rJoin X.K (.str a) [vb] H Q := by
    intro ds p vs ev hs rs e
    subst ev
    unfold joinD at e
    cases q : strsD ds with
    | none => rw [q] at e; cases e
    | some ys =>
      rw [q] at e
      have e : (if (ys.map (·.length)).sum + ys.length * a.length ≤ 16777216 then some (W.fz (.str (Txt.join a ys))) else none) = some w := e
      split at e
      · rename_i hz
        cases e
        rw [strsD_rps rs q] at hs
        exact ⟨a, p, ys, rfl, rfl, hs, hz, ret_fz gg r (.str _)⟩
      · cases e
  cases db <;> first | (simp [m1D] at e; done) | skip
  · obtain ⟨p, vs, e1, s1, r1⟩ := rb.lstV
    exact main e1 (.inl s1) r1 e
  · obtain ⟨p, vs, e1, s1, r1⟩ := rb.tupV
    exact main e1 (.inr s1) r1 e
end
end Co

set_option Elab.async false
set_option linter.all false
set_option maxRecDepth 100000
set_option maxHeartbeats 4000000
namespace Co
open PySem PySem.Spec PyProof.Rows L2
section
variable {X : Cx} {B : Ba} {W₀ : WX} {F H : Hp} {T M : List (V × W)} {σ : St} {ρ ρ1 : Env}
/-! ### arguments -/
theorem args_take {as : List Arg} {vs : List V} (a : AR σ as vs M) : ∀ {F : Hp} {T : List (V × W)} {ρ ρ1 : Env} {ws : List W}, RL X B F H (M ++ T) σ ρ → argsW as ρ = some (ws, ρ1) →
    ∃ F', Same F F' ∧ RL X B F' H (vs.zip ws ++ T) σ ρ1 ∧ vs.length = ws.length := by
  induction a with
  | nil =>
    intro F T ρ ρ1 ws r e
    simp [argsW] at e
    obtain ⟨rfl, rfl⟩ := e
    exact ⟨F, Same.refl F, r, rfl⟩
  | @a x v as vs M hx a ih =>
    intro F T ρ ρ1 ws r e
    obtain ⟨F1, s1, r1⟩ := Rel.frz r hx
    have r2 : RL X B F1 H (M ++ ((v, .fz x.dat) :: T)) σ ρ := Rel.perm r1 List.perm_middle.symm
    cases q : argsW as ρ with
    | none => simp [argsW, q] at e
    | some p =>
      obtain ⟨ws', ρ'⟩ := p
      simp [argsW, q] at e
      obtain ⟨rfl, rfl⟩ := e
      obtain ⟨F2, s2, r3, l⟩ := ih r2 q
      exact ⟨F2, s1.trans s2, Rel.perm r3 List.perm_middle, by simp [l]⟩
  | @o x v as vs M hx a ih =>
    intro F T ρ ρ1 ws r e
    have r2 : RL X B F H (M ++ ((v, x) :: T)) σ ρ := Rel.perm r List.perm_middle.symm
    cases q : argsW as ρ with
    | none => simp [argsW, q] at e
    | some p =>
      obtain ⟨ws', ρ'⟩ := p
      simp [argsW, q] at e
      obtain ⟨rfl, rfl⟩ := e
      obtain ⟨F2, s2, r3, l⟩ := ih r2 q
      exact ⟨F2, s2, Rel.perm r3 List.perm_middle, by simp [l]⟩
  | @io i v as vs M hv a ih =>
    intro F T ρ ρ1 ws r e
    have go : ∀ {x : W}, ρ[i]? = some (some x) → (argsW as (ρ.set i none)).map (fun p => (x :: p.1, p.2)) = some (ws, ρ1) → ∃ F', Same F F' ∧ RL X B F' H ((v :: vs).zip ws ++ T) σ ρ1 ∧ (v :: vs).length = ws.length := by
      intro x ex e
      obtain ⟨u, hu, r1⟩ := Rel.out r ex
      rw [hv] at hu
      cases hu
      have r2 : RL X B F H (M ++ ((v, x) :: T)) σ (ρ.set i none) := Rel.perm r1 List.perm_middle.symm
      cases q : argsW as (ρ.set i none) with
      | none => simp [q] at e
      | some p =>
        obtain ⟨ws', ρ'⟩ := p
        simp [q] at e
        obtain ⟨rfl, rfl⟩ := e
        obtain ⟨F2, s2, r3, l⟩ := ih r2 q
        exact ⟨F2, s2, Rel.perm r3 List.perm_middle, by simp [l]⟩
    unfold argsW at e
    split at e
    · rename_i o eo; exact go eo e
    · rename_i o eo; exact go eo e
    · cases e
theorem Rel.put {i : Nat} {v : V} {x : W} (h : RL X B F H ((v, x) :: T) σ ρ) (hv : σ[i]? = some (some v)) : RL X B F H T σ (ρ.set i (some x)) := Rel.back (Rel.forget' h) hv
theorem args_back {as : List Arg} {vs : List V} (a : AR σ as vs M) : ∀ {T : List (V × W)} {ρ ρ1 ρ2 : Env} {ws : List W} {os : List O}, argsW as ρ = some (ws, ρ1) → RL X B F H (outsW vs ws os ++ T) σ ρ2 → RL X B F H T σ (putOuts as ws os ρ2) := by
  induction a with
  | nil =>
    intro T ρ ρ1 ρ2 ws os e r
    simp [argsW] at e
    obtain ⟨rfl, rfl⟩ := e
    exact r
  | @a x v as vs M hx a ih =>
    intro T ρ ρ1 ρ2 ws os e r
    cases q : argsW as ρ with
    | none => simp [argsW, q] at e
    | some p =>
      obtain ⟨ws', ρ'⟩ := p
      simp [argsW, q] at e
      obtain ⟨rfl, rfl⟩ := e
      exact ih (os := os) q r
  | @o x v as vs M hx a ih =>
    intro T ρ ρ1 ρ2 ws os e r
    cases q : argsW as ρ with
    | none => simp [argsW, q] at e
    | some p =>
      obtain ⟨ws', ρ'⟩ := p
      simp [argsW, q] at e
      obtain ⟨rfl, rfl⟩ := e
      cases x with
      | fz d => exact ih (os := os) q r
      | own o =>
        cases os with
        | nil => exact r
        | cons o' os => exact ih (os := os) q (Rel.drop r)
      | io o => simp [W.isIo] at hx
  | @io i v as vs M hv a ih =>
    intro T ρ ρ1 ρ2 ws os e r
    have go : ∀ {x : W}, (∀ d, x ≠ .fz d) → (argsW as (ρ.set i none)).map (fun p => (x :: p.1, p.2)) = some (ws, ρ1) → RL X B F H T σ (putOuts (.io i :: as) ws os ρ2) := by
      intro x hx e
      cases q : argsW as (ρ.set i none) with
      | none => simp [q] at e
      | some p =>
        obtain ⟨ws', ρ'⟩ := p
        simp [q] at e
        obtain ⟨rfl, rfl⟩ := e
        cases os with
        | nil =>
          cases x with
          | fz d => exact absurd rfl (hx d)
          | own o => exact r
          | io o => exact r
        | cons o os =>
          cases x with
          | fz d => exact absurd rfl (hx d)
          | own o' => exact ih (os := os) q (Rel.put r hv)
          | io o' => exact ih (os := os) q (Rel.put r hv)
    unfold argsW at e
    split at e
    · exact go (by intro d z; cases z) e
    · exact go (by intro d z; cases z) e
    · cases e
/-- a call, its arguments ready -/
theorem call_core {cf : CF} {f : Str} {vs : List V} {ws : List W} {ρ2 : List O → Env} {Q : VK} (r1 : RL X B F H (vs.zip ws ++ T) σ ρ1) (l : vs.length = ws.length) (hk : oneKind ws = true)
    (hb : ∀ os F' H' v x, RL X B F' H' (outsW vs ws os ++ ((v, x) :: T)) σ ρ1 → RL X B F' H' ((v, x) :: T) σ (ρ2 os))
    (h : match cf f ws with
      | .ret x os => x.isIo = false ∧ FinA X B W₀ T σ (ZR X B T σ) Q (.ok (.w x) (ρ2 os))
      | .ex x => FinA X B W₀ T σ (ZR X B T σ) Q (.ex x ρ1)
      | .bad => False) : spC X.K X.mg cf f vs H Q (fun cls d H' => W₀ cls d σ H') := by
  have rx : Rx X.K B F H (vs.zip ws ++ (T ++ live σ ρ1)) := by rw [← List.append_assoc]; exact r1.rx
  obtain ⟨A, gv, back⟩ := Rx.given rx l
  refine ⟨F, ws, A, gv, ?_⟩
  cases c : cf f ws with
  | bad => rw [c] at h; exact h
  | ret x os =>
    rw [c] at h
    obtain ⟨hx, h⟩ := h
    refine ⟨hx, fun v F' H' rr => ?_⟩
    have q := (back hk F' H').1 v x os hx rr
    have q2 : RL X B F' H' (outsW vs ws os ++ ((v, x) :: T)) σ ρ1 := by
      refine ⟨r1.len, r1.dfd, ?_, r1.io⟩
      have p : ((v, x) :: (outsW vs ws os ++ (T ++ live σ ρ1))).Perm (outsW vs ws os ++ (v, x) :: T ++ live σ ρ1) := by
        rw [List.append_assoc]
        exact List.perm_middle.symm
      exact q.perm p
    exact h v F' H' ⟨hx, hb os F' H' v x q2⟩
  | ex xn =>
    rw [c] at h
    exact fun cls d F' H' rr hx => h cls d F' H' ⟨r1.len, r1.dfd, (back hk F' H').2 rr, r1.io⟩ hx
/-- a call of a function of one's own, by its promise -/
theorem call_ok {cf : CF} {f : Str} {as : List Arg} {vs : List V} {Q : VK} (a : AR σ as vs M) (r : RL X B F H (M ++ T) σ ρ) (h : FinA X B W₀ T σ (ZR X B T σ) Q (doCall cf f as ρ)) :
    spC X.K X.mg cf f vs H Q (fun cls d H' => W₀ cls d σ H') := by
  unfold doCall at h
  split at h
  · rename_i ws ρ1 e
    split at h
    · exact h.elim
    · rename_i hk
      have hk : oneKind ws = true := by simpa using hk
      obtain ⟨F1, s1, r1, l⟩ := args_take a r e
      refine call_core (ρ2 := fun os => putOuts as ws os ρ1) r1 l hk (fun os F' H' v x q => args_back a e q) ?_
      cases c : cf f ws with
      | bad => rw [c] at h; exact h
      | ret x os =>
        rw [c] at h
        have h : FinA X B W₀ T σ (ZR X B T σ) Q (if x.isIo = true then .bad else .ok (.w x) (putOuts as ws os ρ1)) := h
        split at h
        · exact h.elim
        · rename_i hx
          exact ⟨by simpa using hx, h⟩
      | ex xn => rw [c] at h; exact h
  · exact h.elim
theorem rps_zip {F : Hp} : ∀ {ds : List D} {vs : List V}, Rps X.K F vs ds → RL X B F H T σ ρ → RL X B F H (vs.zip (ds.map .fz) ++ T) σ ρ
  | [], _, .nil, r => r
  | _ :: _, _, .cons h t, r => (rps_zip t r).addfz (h.mono (Same.refl F))
theorem rps_perm {F : Hp} {ds : List D} {vs : List V} (h : Rps X.K F vs ds) : ∀ perm : List Nat, Rps X.K F (permL perm vs) (permL perm ds)
  | [] => .nil
  | i :: p => by
    have ih := rps_perm h p
    unfold permL at ih ⊢
    rw [List.filterMap_cons, List.filterMap_cons]
    have go : ∀ {ds : List D} {vs : List V} (i : Nat), Rps X.K F vs ds → (vs[i]? = none ∧ ds[i]? = none) ∨ ∃ v d, vs[i]? = some v ∧ ds[i]? = some d ∧ Rp X.K F v d := by
      intro ds
      induction ds with
      | nil => intro vs i h; cases h; exact .inl ⟨rfl, rfl⟩
      | cons d ds ih =>
        intro vs i h
        cases h with
        | cons h t =>
          cases i with
          | zero => exact .inr ⟨_, _, rfl, rfl, h⟩
          | succ i => simpa using ih i t
    rcases go i h with ⟨e1, e2⟩ | ⟨v, d, e1, e2, r⟩
    · rw [e1, e2]; exact ih
    · rw [e1, e2]; exact .cons r ih
theorem callK_ok {cf : CF} {f : Str} {perm : List Nat} {ds : List D} {vs : List V} {Q : VK} (rp : Rps X.K F vs ds) (r : RL X B F H T σ ρ) (h : FinA X B W₀ T σ (ZR X B T σ) Q (callK cf f perm ds ρ)) :
    spC X.K X.mg cf f (permL perm vs) H Q (fun cls d H' => W₀ cls d σ H') := by
  have rp' := rps_perm rp perm
  have allfz : ∀ (ds : List D), (ds.map W.fz).any W.isOwn = false := fun ds => by induction ds <;> simp_all [W.isOwn]
  have nout : ∀ (ds : List D) (vs : List V) os, outsW vs (ds.map W.fz) os = [] := fun ds => by
    induction ds with
    | nil => intro vs os; cases vs <;> rfl
    | cons d ds ih =>
      intro vs os
      cases vs with
      | nil => rfl
      | cons v vs => exact ih vs os
  have ll : (permL perm vs).length = (permL perm ds).length := by
    have go : ∀ {ds : List D} {vs : List V}, Rps X.K F vs ds → vs.length = ds.length := by
      intro ds
      induction ds with
      | nil => intro vs h; cases h; rfl
      | cons d ds ih => intro vs h; cases h with | cons h t => simp [ih t]
    exact go rp'
  refine call_core (ρ2 := fun _ => ρ) (rps_zip rp' r) (by rw [List.length_map]; exact ll) (by unfold oneKind; rw [allfz]; rfl) (fun os F' H' v x q => by rw [nout] at q; exact q) ?_
  unfold callK at h
  cases c : cf f ((permL perm ds).map .fz) with
  | bad => rw [c] at h; exact h
  | ret x os =>
    rw [c] at h
    have h : FinA X B W₀ T σ (ZR X B T σ) Q (if x.isIo = true then .bad else .ok (.w x) ρ) := h
    split at h
    · exact h.elim
    · rename_i hx
      exact ⟨by simpa using hx, h⟩
  | ex xn => rw [c] at h; exact h
end

/-! ### whether a piece of the text is what stands there -/
structure Nm where
  N : List Str
  sc : Scope
  st : Str → Bool
  io : List Nat
  fs : List Str
  ds : List Str
  kc : List (Str × List Str × List Nat)
def visB (sc : Scope) (x : Str) : Bool := match sc.names.lookup x with
  | some .local => true
  | some .cell => true
  | some .free => true
  | _ => false
def glB (sc : Scope) (x : Str) : Bool := match sc.names.lookup x with
  | some .globalImplicit => true
  | _ => false
def okName (x : Str) : Bool := !(x == ("__debug__" : Str)) && !(x == ("__classdict__" : Str)) && decide (x ≠ "__name__")
def nmB (n : Nm) (i : Nat) (x : Str) : Bool := decide (n.N[i]? = some x) && visB n.sc x && okName x
def gB (n : Nm) (x : Str) (y : Str) : Bool := decide (x = y) && glB n.sc y && okName y
def cstB : D → Const → Bool
  | .none, .none => true
  | .bool b, .bool c => b == c
  | .int i, .int j => decide (i = j)
  | .str s, .str t => decide (s = t)
  | _, _ => false
def isBinO : BinO → Operator → Bool
  | .add, .Add => true
  | .sub, .Sub => true
  | .mul, .Mult => true
  | .fdiv, .FloorDiv => true
  | .mod, .Mod => true
  | .pow, .Pow => true
  | _, _ => false
def isCmpO : CmpO → CmpOp → Bool
  | .eq, .Eq => true
  | .ne, .NotEq => true
  | .lt, .Lt => true
  | .le, .LtE => true
  | .gt, .Gt => true
  | .ge, .GtE => true
  | .isin, .In => true
  | .notin, .NotIn => true
  | .is, .Is => true
  | .isnot, .IsNot => true
  | _, _ => false
theorem isBinO_eq {o : BinO} {p : Operator} (h : isBinO o p = true) : p = opB o := by cases o <;> cases p <;> first | rfl | (simp [isBinO] at h)
theorem isCmpO_eq {o : CmpO} {p : CmpOp} (h : isCmpO o p = true) : p = opC o := by cases o <;> cases p <;> first | rfl | (simp [isCmpO] at h)
def notSet : Expr → Bool
  | .Set _ _ _ => false
  | _ => true
def notLc : Expr → Bool
  | .ListComp _ _ _ _ => false
  | .SetComp _ _ _ _ => false
  | .DictComp _ _ _ _ _ => false
  | _ => true
def notSlice : Expr → Bool
  | .Slice _ _ _ _ => false
  | _ => true
/-- an expression whose test is its value's truth -/
def plainT : Expr → Bool
  | .UnaryOp .Not _ _ => false
  | .BoolOp _ _ _ => false
  | .IfExp _ _ _ _ => false
  | .Compare _ _ _ _ => false
  | _ => true
def isNone : D → Bool
  | .none => true
  | _ => false
def tyNames (n : Nm) : List Ty → List Expr → Bool
  | [], [] => true
  | t :: ts, .Name x _ :: es => gB n (Str.ofString t.nm) x && tyNames n ts es
  | _, _ => false
def stB (n : Nm) (i : Nat) (x : Str) : Bool := decide (n.N[i]? = some x) && n.st x && !n.io.contains i
def namesB (n : Nm) : List Nat → List Expr → Bool
  | [], [] => true
  | i :: is, .Name x _ :: es => stB n i x && namesB n is es
  | _, _ => false
def Tg.chk (n : Nm) : Tg → Expr → Bool
  | .n i, .Name x _ => stB n i x
  | .t is, .Tuple es _ _ => namesB n is es
  | _, _ => false
def Tg.slots : Tg → List Nat
  | .n i => [i]
  | .t is => is
def stSc (scope : Scope) (x : Str) : Bool := match scope.names.lookup x with
  | some .local => true
  | some .cell => true
  | _ => false
def blkN (n : Nm) (scope : Scope) : Nm := ⟨n.N, relS scope n.sc, stSc scope, n.io, n.fs, n.ds, n.kc⟩
def notCall : Expr → Bool
  | .Call _ _ _ _ => false
  | _ => true
def T.isYes : T → Bool
  | .yes => true
  | _ => false
def isTup : Expr → Bool
  | .Tuple _ _ _ => true
  | _ => false
def m1N : M1 → Str
  | .join => Str.ofString "join"
  | .split => Str.ofString "split"
def andC (f : Expr → Bool) (op : BoolOp) (eb : Expr) (rest : List Expr) (pos : Pos) : Bool := match rest with
  | [] => f eb
  | _ => f (.BoolOp op (eb :: rest) pos)
def bndC (lo : E) (f : Expr → Bool) : Option Expr → Bool
  | none => lo.isNoneK
  | some e => f e && !lo.isNoneK
def tysC (n : Nm) (tys : List Ty) : Expr → Bool
  | .Tuple ts _ _ => tyNames n tys ts
  | t => tyNames n tys [t]
def ifC (c : T) (f : Expr → Bool) : List Expr → Bool
  | [] => c.isYes
  | [t] => f t
  | _ => false
def argC (n : Nm) (e : E) (ex : Expr) (r : Bool) : Bool := match e, ex with
  | .io i, .Name x _ => nmB n i x
  | _, _ => r
def kwNames : List Keyword → Option (List Str)
  | [] => some []
  | ⟨some x, _, _⟩ :: r => (kwNames r).map (x :: ·)
  | _ => none
mutual
def E.chk (n : Nm) : E → Expr → Bool
  | .v i, .Name x _ => nmB n i x
  | .rd i, .Name x _ => nmB n i x
  | .g y, .Name x _ => gB n y x
  | .k c, .Constant c' _ _ => cstB c c'
  | .bin o a b, .BinOp ea op eb _ => isBinO o op && a.chk n ea && b.chk n eb
  | .cmp o a b, .Compare ea [op] [eb] _ => isCmpO o op && notSet eb && a.chk n ea && b.chk n eb
  | .chain o1 o2 a b c, .Compare ea [op1, op2] [eb, ec] _ => isCmpO o1 op1 && isCmpO o2 op2 && notSet ec && a.chk n ea && b.chk n eb && c.chk n ec
  | .andE a b, .BoolOp .And (ea :: eb :: rest) pos => a.chk n ea && andC (b.chk n) .And eb rest pos
  | .orE a b, .BoolOp .Or (ea :: eb :: rest) pos => a.chk n ea && andC (b.chk n) .Or eb rest pos
  | .nt a, .UnaryOp .Not ea _ => a.chk n ea
  | .ng a, .UnaryOp .USub ea _ => a.chk n ea
  | .ife t a b, .IfExp et ea eb _ => t.chk n et && a.chk n ea && b.chk n eb
  | .tup es, .Tuple ees _ _ => es.chk n ees
  | .lst es, .List ees _ => es.chk n ees
  | .ix a b, .Subscript ea eb _ => notSlice eb && a.chk n ea && b.chk n eb
  | .sl a lo hi, .Subscript ea (.Slice elo ehi none _) _ => a.chk n ea && bndC lo (lo.chk n) elo && bndC hi (hi.chk n) ehi
  | .call f es, .Call (.Name x _) (e :: ees) [] _ => gB n f x && n.fs.contains f && es.chk n (e :: ees)
  | .call0 f, .Call (.Name x _) [] [] _ => gB n f x && n.fs.contains f
  | .own e, ex => e.chk n ex
  | .sset a, .Call (.Name x _) [.Call (.Name z _) [ea] [] _] [] _ => gB n "sorted" x && gB n "set" z && a.chk n ea
  | .callk f ks perm kes, .Call (.Name x _) [] kws _ => gB n f x && n.fs.contains f && n.kc.contains (f, ks, perm) && decide (kwNames kws = some ks) && kes.chk n (kws.map (·.value))
  | .b1 f a, .Call (.Name x _) [ea] [] _ => gB n (b1N f) x && a.chk n ea
  | .b2 f a b, .Call (.Name x _) [ea, eb] [] _ => gB n (b2N f) x && a.chk n ea && b.chk n eb
  | .isi a tys, .Call (.Name x _) [ea, et] [] _ => gB n "isinstance" x && decide (tys.length ≤ 16) && a.chk n ea && tysC n tys et
  | .gin y neg a, .Compare ea [op] [.Name x _] _ => isCmpO (if neg then .notin else .isin) op && n.ds.contains y && gB n y x && a.chk n ea
  | .gix y a, .Subscript (.Name x _) eb _ => notSlice eb && n.ds.contains y && gB n y x && a.chk n eb
  | .m1 m a b, .Call (.Attribute ea at_ ap) [eb] [] cp => (ap.endLine == cp.line) && decide (at_ = m1N m) && notCall ea && a.chk n ea && b.chk n eb
  | .lc own tg it c e, .ListComp elt [⟨tgt, iter, ifs, 0⟩] scope _ => blkC n.N n.sc scope own && own.all (fun p => !n.io.contains p.2) && notSet iter && it.chk n (isTup tgt) iter && (tg.slots.all fun i => (own.map (·.2)).contains i) &&
      tg.chk (blkN n scope) tgt && ifC c (c.chk (blkN n scope)) ifs && e.chk (blkN n scope) elt
  | _, _ => false
def Es.chk (n : Nm) : Es → List Expr → Bool
  | .nil, [] => true
  | .cons e es, ex :: exs => argC n e ex (e.chk n ex) && es.chk n exs
  | _, _ => false
def T.chk (n : Nm) : T → Expr → Bool
  | .val e, ex => plainT ex && e.chk n ex
  | .nt t, .UnaryOp .Not ex _ => t.chk n ex
  | .and a b, .BoolOp .And (ea :: eb :: rest) pos => a.chk n ea && andC (b.chk n) .And eb rest pos
  | .or a b, .BoolOp .Or (ea :: eb :: rest) pos => a.chk n ea && andC (b.chk n) .Or eb rest pos
  | .cmp o a b, .Compare ea [op] [eb] _ => isCmpO o op && notSet eb && a.chk n ea && b.chk n eb
  | .chain o1 o2 a b c, .Compare ea [op1, op2] [eb, ec] _ => isCmpO o1 op1 && isCmpO o2 op2 && notSet ec && a.chk n ea && b.chk n eb && c.chk n ec
  | .gin y neg a, .Compare ea [op] [.Name x _] _ => isCmpO (if neg then .notin else .isin) op && n.ds.contains y && gB n y x && a.chk n ea
  | _, _ => false
def I.chk (n : Nm) (tup : Bool) : I → Expr → Bool
  | .seq e, ex => e.chk n ex
  | .rng1 a, .Call (.Name x _) [ea] [] _ => gB n "range" x && a.chk n ea
  | .rng2 a b, .Call (.Name x _) [ea, eb] [] _ => gB n "range" x && a.chk n ea && b.chk n eb
  | .enum a, .Call (.Name x _) [ea] [] _ => tup && gB n "enumerate" x && a.chk n ea
  | .zip a b, .Call (.Name x _) [ea, eb] [] _ => tup && gB n "zip" x && a.chk n ea && b.chk n eb
  | _, _ => false
end
end Co

set_option Elab.async false
set_option linter.all false
set_option maxRecDepth 100000
set_option maxHeartbeats 8000000
namespace Co
open PySem PySem.Spec PyProof.Rows L2
def blts : List Str := ["len", "abs", "int", "str", "sum", "all", "any", "max", "min", "tuple", "list", "bool", "isinstance", "range", "enumerate", "zip", "sorted", "set"]
/-- a call by names alone -/
def KB0 (K : PySem.W.Frag) (fd : FuncData) (ps ks : List Str) (perm : List Nat) : Prop := ∀ (s : Shared) (ws : List Value), K.In s.heap → ws.length = ks.length → BindsTo s fd ⟨[], ks.zip ws⟩ (ps.zip (permL perm ws))
/-- where a piece of text stands -/
structure Hy (X : Cx) (B : Ba) (W₀ : WX) (n : Nm) (k : Nat) (cf : CF) (g : G) : Prop where
  eN : X.N = n.N
  eS : X.env.scope = n.sc
  nd : X.N.Nodup
  calm : X.calm = true
  room : Room k X.A
  tk : Takes X W₀
  pas : PassesOwn (model X.prog X.w) X.A X.env X.xe
  st : ∀ x, n.st x = true → Loc X.env.scope x ∧ (X.fn x = true ∨ X.env.scope.names.lookup x = some .local)
  io : ∀ p ∈ B.io, n.io.contains p.1 = true
  fn : ∀ f, n.fs.contains f = true → ∃ fa fd ps, X.mg f = some (.ref fa) ∧ PySem.W.keepIn X.K (.ref fa) = true ∧ Binds X.K fd ps [] ∧ FnOk X.prog X.w X.K X.mg X.base (L2.CX X.prog X.w) k fa fd ps (spC X.K X.mg cf f) ∧ ∀ ks perm, n.kc.contains (f, ks, perm) = true → KB0 X.K fd ps ks perm
  con : ∀ x d, g.con x = some d → ∃ u v, X.mg x = some u ∧ RelV v u ∧ ∀ F, Rp X.K F v d
  dic : ∀ x, n.ds.contains x = true → ∃ kvs d es m, g.dic x = some kvs ∧ X.mg x = some (.ref d) ∧ KDict X.K X.w d es m ∧ ∀ z, ∃ r, PySem.W.nsIn X.K d z = some r ∧ match kvs.lookup z with
    | none => r = none
    | some e => ∃ u v, r = some u ∧ RelV v u ∧ ∀ F, Rp X.K F v e
  blt : ∀ x ∈ blts, X.mg x = none
section
variable {X : Cx} {B : Ba} {W₀ : WX} {n : Nm} {k : Nat} {cf : CF} {g : G} {F H : Hp} {T M : List (V × W)} {σ : St} {ρ ρ1 : Env}
theorem okName_inv {x : Str} (h : okName x = true) : (x == ("__debug__" : Str)) = false ∧ (x == ("__classdict__" : Str)) = false ∧ x ≠ "__name__" := by
  unfold okName at h
  rw [Bool.and_eq_true, Bool.and_eq_true] at h
  exact ⟨by simpa using h.1.1, by simpa using h.1.2, of_decide_eq_true h.2⟩
theorem visB_inv {sc : Scope} {x : Str} (h : visB sc x = true) : Vis sc x := by
  unfold visB at h
  split at h
  · exact .inl ‹_›
  · exact .inr (.inl ‹_›)
  · exact .inr (.inr ‹_›)
  · cases h
theorem Hy.var (y : Hy X B W₀ n k cf g) {i : Nat} {x : Str} {pos : Pos} (h : nmB n i x = true) : PE X (.Name x pos) (tVar i) := by
  unfold nmB at h
  rw [Bool.and_eq_true, Bool.and_eq_true] at h
  obtain ⟨h1, h2, _⟩ := okName_inv h.2
  exact pe_var (by rw [y.eN]; exact of_decide_eq_true h.1.1) (by rw [y.eS]; exact visB_inv h.1.2) h1 h2
theorem gB_inv {f x : Str} (h : gB n f x = true) : x = f ∧ n.sc.names.lookup x = some .globalImplicit ∧ (x == ("__debug__" : Str)) = false ∧ x ≠ "__name__" := by
  unfold gB at h
  rw [Bool.and_eq_true, Bool.and_eq_true] at h
  obtain ⟨h1, h2, h3⟩ := okName_inv h.2
  refine ⟨(of_decide_eq_true h.1.1).symm, ?_, h1, h3⟩
  have q := h.1.2
  unfold glB at q
  split at q
  · assumption
  · cases q
theorem Hy.gl (y : Hy X B W₀ n k cf g) {x : Str} (h : n.sc.names.lookup x = some .globalImplicit) : Gl X x := by
  show X.env.scope.names.lookup x = _
  rw [y.eS]; exact h
theorem Hy.hu (y : Hy X B W₀ n k cf g) : X.A.units + 64 < cLine := by have := y.room.un; omega
/-- never starred -/
theorem E.chk_star : ∀ (e : E) {a : Expr} {p : Pos}, e.chk n (.Starred a p) = false
  | .own e, a, p => E.chk_star e
  | .v _, _, _ => rfl
  | .sset _, _, _ => rfl
  | .rd _, _, _ => rfl
  | .io _, _, _ => rfl
  | .g _, _, _ => rfl
  | .k _, _, _ => by rfl
  | .bin _ _ _, _, _ => rfl
  | .cmp _ _ _, _, _ => rfl
  | .chain _ _ _ _ _, _, _ => rfl
  | .andE _ _, _, _ => rfl
  | .orE _ _, _, _ => rfl
  | .nt _, _, _ => rfl
  | .ng _, _, _ => rfl
  | .ife _ _ _, _, _ => rfl
  | .tup _, _, _ => rfl
  | .lst _, _, _ => rfl
  | .ix _ _, _, _ => rfl
  | .sl _ _ _, _, _ => rfl
  | .call _ _, _, _ => rfl
  | .call0 _, _, _ => rfl
  | .callk _ _ _ _, _, _ => rfl
  | .b1 _ _, _, _ => rfl
  | .b2 _ _ _, _, _ => rfl
  | .isi _ _, _, _ => rfl
  | .gin _ _ _, _, _ => rfl
  | .gix _ _, _, _ => rfl
  | .m1 _ _ _, _, _ => rfl
  | .lc _ _ _ _ _, _, _ => rfl
theorem star1 {e : E} {ex : Expr} (h : e.chk n ex = true) {es : List Expr} {env : PySem.Env} : starEach (ex :: es) env = (false, eval ex env) :: starEach es env := by
  cases ex <;> first | rfl | (rw [E.chk_star] at h; cases h)
theorem starN {x : Str} {pos : Pos} {es : List Expr} {env : PySem.Env} : starEach (.Name x pos :: es) env = (false, eval (.Name x pos) env) :: starEach es env := rfl
theorem Es.star : ∀ {es : Es} {exs : List Expr}, es.chk n exs = true → ∀ {env : PySem.Env}, (starEach exs env).any (·.1) = false
  | .nil, [], _, _ => rfl
  | .nil, _ :: _, h, _ => by simp [Es.chk] at h
  | .cons e es, [], h, _ => by simp [Es.chk] at h
  | .cons e es, ex :: exs, h, env => by
    have h2 : es.chk n exs = true := by
      unfold Es.chk at h
      rw [Bool.and_eq_true] at h
      exact h.2
    have ih := Es.star h2 (env := env)
    have s : starEach (ex :: exs) env = (false, eval ex env) :: starEach exs env := by
      unfold Es.chk at h
      rw [Bool.and_eq_true] at h
      have h1 := h.1
      unfold argC at h1
      split at h1
      · rfl
      · exact star1 h1
    rw [s, List.any_cons, ih]
    rfl
theorem back_any {pos : Pos} : ∀ l : List (Bool × Sem Value), (backTo pos l).any (·.1) = l.any (·.1)
  | [] => rfl
  | x :: l => by
    show (x.1 || (backTo pos l).any (·.1)) = _
    rw [back_any l]
    rfl
theorem two_bin {ri : Option Nat} {ma mb : Env → R Z} {f : Z → Z → Env → R Z} {r : R2} {ea eb : Expr} {pos : Pos} {op : Operator} (ho : OpR X (binaryOp op) r) (ha : PE X ea (tFst X B W₀ ri ma)) (hb : PE X eb (tE X B W₀ mb))
    (hr : ∀ Q F H T σ ρ va vb za zb, ZV X B T σ za ρ va F H → ZV X B T σ zb ρ vb F H → RL X B F H T σ ρ → FinA X B W₀ T σ (ZR X B T σ) Q (f za zb ρ) → r va vb H Q) : PE X (.BinOp ea op eb pos) (tE X B W₀ (two ri ma mb f)) :=
  PE.mono (pe_op ho ha hb) fun σ H Q h => two_ok (rel := fun T σ => ZR X B T σ) (fun F H T ρ va vb za zb => hr Q F H T σ ρ va vb za zb) h
/-- the first operand -/
theorem fst_ok {e : E} {ex : Expr} (y : Hy X B W₀ n k cf g) (h : e.chk n ex = true) (p : PE X ex (tE X B W₀ (e.ev cf g))) : PE X ex (tFst X B W₀ (isRd e) (e.ev cf g)) := by
  cases e with
  | rd i =>
    cases ex <;> first | (simp [E.chk] at h; done) | skip
    exact y.var h
  | _ => exact p
theorem const_ok {c : D} {c' : Const} {j : Nat} {pos : Pos} (h : cstB c c' = true) : ∃ v, (∀ F, Rp X.K F v c) ∧ PE X (.Constant c' j pos) (tC v) := by
  cases c <;> cases c' <;> first | (simp [cstB] at h; done) | skip
  · exact ⟨.non, fun _ => .non, pe_non⟩
  · have e := h
    simp [cstB] at e
    subst e
    exact ⟨.bl _, fun _ => .bl _, pe_bl⟩
  · have e := h
    simp [cstB] at e
    subst e
    exact ⟨.int _, fun _ => .int _, pe_int⟩
  · have e := h
    simp [cstB] at e
    subst e
    exact ⟨.str _, fun _ => .str _, pe_str⟩
theorem tC_ok {d : D} {v : V} (rp : ∀ F, Rp X.K F v d) {σ : St} {H : Hp} {Q : VK} (h : tE X B W₀ (fun ρ => .ok (.w (.fz d)) ρ) σ H Q) : tC v σ H Q := by
  obtain ⟨F, T, ρ, r, f⟩ := h
  exact ret_fz f r (rp F)
theorem tyPE (y : Hy X B W₀ n k cf g) {t : Ty} {x : Str} {pos : Pos} (h : gB n (Str.ofString t.nm) x = true) : PE X (.Name x pos) (tC (.ty t.nm)) := by
  obtain ⟨e, g1, d1, d2⟩ := gB_inv h
  have hm : X.mg x = none := y.blt x (by rw [e]; cases t <;> decide +kernel)
  have hb : bootBuiltins x = some (.type t.nm) := by rw [e]; cases t <;> decide +kernel
  exact pe_bltn (y.gl g1) hm hb rfl d2 d1
theorem tysPA (y : Hy X B W₀ n k cf g) : ∀ {tys : List Ty} {ts : List Expr}, tyNames n tys ts = true → PA X ts (fun σ H Q => Q (tys.map fun t => V.ty t.nm) H)
  | [], [], _ => PA.mono pa_nil fun σ H Q h => h
  | [], _ :: _, h => by simp [tyNames] at h
  | t :: tys, [], h => by simp [tyNames] at h
  | t :: tys, e :: ts, h => by
    cases e <;> first | (simp [tyNames] at h; done) | skip
    unfold tyNames at h
    rw [Bool.and_eq_true] at h
    exact PA.mono (pa_cons (tyPE y h.1) (tysPA y h.2) starN) fun σ H Q q => q
end
end Co

set_option Elab.async false
set_option linter.all false
set_option maxRecDepth 100000
set_option maxHeartbeats 8000000
namespace Co
open PySem PySem.Spec PyProof.Rows L2
section
variable {X : Cx} {B : Ba} {W₀ : WX} {n : Nm} {k : Nat} {cf : CF} {g : G} {F H : Hp} {T M : List (V × W)} {σ : St} {ρ ρ1 : Env}
/-! ### each form, by its parts -/
theorem noBehind {op : CmpOp} {e : Expr} (h : notSet e = true) : behindInMarks op e = false := by
  cases e <;> first | rfl | (simp [notSet] at h; done)
theorem cmp_pe {o : CmpO} {ri : Option Nat} {ma mb : Env → R Z} {ea eb : Expr} {pos : Pos} (hr : Room k X.A) (hs : notSet eb = true) (ha : PE X ea (tFst X B W₀ ri ma)) (hb : PE X eb (tE X B W₀ mb)) :
    PE X (.Compare ea [opC o] [eb] pos) (tE X B W₀ (two ri ma mb (cmpF o))) :=
  PE.mono (pe_cmpR (opr_cmp hr o) ha hb (noBehind hs)) fun σ H Q h => two_ok (rel := fun T σ => ZR X B T σ) (fun F H T ρ va vb za zb h1 h2 h3 h4 => cmp_ok o h1 h2 h3 h4) h
theorem cmp_pt {o : CmpO} {ri : Option Nat} {ma mb : Env → R Z} {ea eb : Expr} {pos : Pos} (hr : Room k X.A) (hs : notSet eb = true) (ha : PE X ea (tFst X B W₀ ri ma)) (hb : PE X eb (tE X B W₀ mb)) :
    PT X (.Compare ea [opC o] [eb] pos) (tT X B W₀ (two ri ma mb (cmpT o))) :=
  PT.mono (pt_cmpR (opr_cmp hr o) ha hb (noBehind hs)) fun σ H Q h =>
    two_ok (β := Bool) (rel := fun T σ => TRl X B T σ) (r := fun x y H Q => rCmp X.K o x y H fun x H' => ∃ k, x = .bl k ∧ Q k H') (fun F H T ρ va vb za zb h1 h2 h3 h4 => cmpT_ok o h1 h2 h3 h4) h
theorem tru_val {F : Hp} {v : V} {d : D} {b : Bool} (h : Rp X.K F v d) (e : truD d = some b) : TruV X.K v F b := by
  cases d with
  | none => cases h; exact (Option.some.inj (show some false = some b from e)).symm
  | bool c => cases h; exact (Option.some.inj (show some c = some b from e)).symm
  | int i => cases h; exact (Option.some.inj (show some (i != 0) = some b from e)).symm
  | str s =>
    cases h
    have e : (if okLen s.length then some ((s.length : Int) != 0) else none) = some b := e
    split at e
    · rename_i q
      cases e
      exact ⟨of_decide_eq_true q, rfl⟩
    · cases e
  | list xs =>
    obtain ⟨a, vs, rfl, hq, hs⟩ := h.lstV
    have e := Option.some.inj (show some (!xs.isEmpty) = some b from e)
    refine .inl ⟨vs, hq, ?_⟩
    subst e
    cases hs <;> rfl
  | tuple xs =>
    obtain ⟨a, vs, rfl, hq, hs⟩ := h.tupV
    have e := Option.some.inj (show some (!xs.isEmpty) = some b from e)
    refine .inr (.inl ⟨vs, hq, ?_⟩)
    subst e
    cases hs <;> rfl
  | dict kvs => cases (show (none : Option Bool) = some b from e)
theorem and_pe {ma mb : Env → R Z} {ea eb : Expr} {rest : List Expr} {pos : Pos} (ha : PE X ea (tE X B W₀ ma)) (hb : PE X (.BoolOp .And (eb :: rest) pos) (tE X B W₀ mb)) :
    PE X (.BoolOp .And (ea :: eb :: rest) pos) (tE X B W₀ fun ρ => (ma ρ).bind fun za ρ1 => (nonBw za ρ1).bind fun xa ρ2 => (liftO (truD xa.dat) ρ2).bind fun c ρ3 => if c then mb ρ3 else .ok (.w xa) ρ3) :=
  PE.mono (pe_andT ha hb) fun σ H Q ⟨F, T, ρ, r, f⟩ => ⟨F, T, ρ, r, fin_bind0 f fun za ρ1 va F1 H1 zr f1 => by
    obtain ⟨x, rfl, hx, r1, f2⟩ := nonBw_fin zr f1
    obtain ⟨c, e, f3⟩ := liftO_bind f2
    refine ⟨c, tru_val r1.hd_rd e, ?_⟩
    cases c with
    | true => exact ⟨F1, T, ρ1, r1.drop, f3⟩
    | false => exact f3 va F1 H1 ⟨hx, r1⟩⟩
theorem or_pe {ma mb : Env → R Z} {ea eb : Expr} {rest : List Expr} {pos : Pos} (ha : PE X ea (tE X B W₀ ma)) (hb : PE X (.BoolOp .Or (eb :: rest) pos) (tE X B W₀ mb)) :
    PE X (.BoolOp .Or (ea :: eb :: rest) pos) (tE X B W₀ fun ρ => (ma ρ).bind fun za ρ1 => (nonBw za ρ1).bind fun xa ρ2 => (liftO (truD xa.dat) ρ2).bind fun c ρ3 => if c then .ok (.w xa) ρ3 else mb ρ3) :=
  PE.mono (pe_orT ha hb) fun σ H Q ⟨F, T, ρ, r, f⟩ => ⟨F, T, ρ, r, fin_bind0 f fun za ρ1 va F1 H1 zr f1 => by
    obtain ⟨x, rfl, hx, r1, f2⟩ := nonBw_fin zr f1
    obtain ⟨c, e, f3⟩ := liftO_bind f2
    refine ⟨c, tru_val r1.hd_rd e, ?_⟩
    cases c with
    | false => exact ⟨F1, T, ρ1, r1.drop, f3⟩
    | true => exact f3 va F1 H1 ⟨hx, r1⟩⟩
theorem nt_pe {ma : Env → R Z} {ea : Expr} {pos : Pos} (ha : PE X ea (tE X B W₀ ma)) : PE X (.UnaryOp .Not ea pos) (tE X B W₀ fun ρ => (ma ρ).bind fun za ρ1 => ofD ((truD za.dat).map fun c => .bool (!c)) ρ1) :=
  PE.mono (pe_notT ha) fun σ H Q ⟨F, T, ρ, r, f⟩ => ⟨F, T, ρ, r, fin_bind0 f fun za ρ1 va F1 H1 zr f1 => by
    obtain ⟨d, e, f2⟩ := ofD_fin f1
    cases q : truD za.dat with
    | none => rw [q] at e; cases e
    | some c =>
      rw [q] at e
      cases e
      exact ⟨c, tru_val zr.rd q, ret_fz f2 zr.rl (.bl _)⟩⟩
theorem ng_pe {ma : Env → R Z} {ea : Expr} {pos : Pos} (ha : PE X ea (tE X B W₀ ma)) : PE X (.UnaryOp .USub ea pos) (tE X B W₀ fun ρ => (ma ρ).bind fun za ρ1 => match za.dat with
      | .int i => .ok (.w (.fz (.int (-i)))) ρ1
      | _ => .bad) :=
  PE.mono (pe_un un_neg ha) fun σ H Q ⟨F, T, ρ, r, f⟩ => ⟨F, T, ρ, r, fin_bind0 f fun za ρ1 va F1 H1 zr f1 => by
    have rd := zr.rd
    split at f1
    · rename_i i e
      rw [e] at rd
      have q := rd.intV
      subst q
      exact ⟨i, rfl, ret_fz f1 zr.rl (.int _)⟩
    · exact f1.elim⟩
theorem ife_pe {mt : Env → R Bool} {ma mb : Env → R Z} {et ea eb : Expr} {pos : Pos} (ht : PT X et (tT X B W₀ mt)) (ha : PE X ea (tE X B W₀ ma)) (hb : PE X eb (tE X B W₀ mb)) :
    PE X (.IfExp et ea eb pos) (tE X B W₀ fun ρ => (mt ρ).bind fun c ρ1 => if c then ma ρ1 else mb ρ1) :=
  PE.mono (pe_ifExp ht ha hb) fun σ H Q ⟨F, T, ρ, r, f⟩ => ⟨F, T, ρ, r, fin_bind0 f fun c ρ1 c' F1 H1 hr f1 => by
    obtain ⟨e, r1⟩ := hr
    rw [e]
    cases c with
    | true => exact ⟨F1, T, ρ1, r1, f1⟩
    | false => exact ⟨F1, T, ρ1, r1, f1⟩⟩
theorem b1_pe {f : B1} {x : Str} {p pos : Pos} {ma : Env → R Z} {ea : Expr} (hc : X.calm = true) (hg : Gl X x) (hm : X.mg x = none) (hx : x = b1N f) (hn : x ≠ "__name__") (hdb : (x == ("__debug__" : Str)) = false)
    (hs : ∀ env : PySem.Env, starEach [ea] env = [(false, eval ea env)]) (ha : PE X ea (tE X B W₀ ma)) : PE X (.Call (.Name x p) [ea] [] pos) (tE X B W₀ fun ρ => (ma ρ).bind fun za ρ1 => b1F f za ρ1) := by
  have pa : PA X [ea] (tCons (tE X B W₀ ma) tNil) := pa_cons ha pa_nil (hs _)
  have hb : bootBuiltins x = some (b1V f) := by rw [hx]; exact boot1 f
  have key : PE X (.Call (.Name x p) [ea] [] pos) (tCB (r1 X.K f) (tCons (tE X B W₀ ma) tNil)) := by
    have cr := cr1 (X := X) hc f
    cases f
    all_goals first
      | exact pe_callB cr hg hm hb pa hn hdb (hs _) rfl
      | exact pe_callTy cr hg hm hb pa hn hdb (hs _) rfl
  exact PE.mono key fun σ H Q ⟨F, T, ρ, r, f'⟩ => ⟨F, T, ρ, r, fin_bind0 f' fun za ρ1 va F1 H1 zr f1 => b1_ok f (zr.zv (T' := T)) zr.rl f1⟩
theorem b2_pe {f : B2} {x : Str} {p pos : Pos} {ma mb : Env → R Z} {ea eb : Expr} (hc : X.calm = true) (hg : Gl X x) (hm : X.mg x = none) (hx : x = b2N f) (hn : x ≠ "__name__") (hdb : (x == ("__debug__" : Str)) = false)
    (hs : ∀ env : PySem.Env, starEach [ea, eb] env = (false, eval ea env) :: starEach [eb] env) (hs2 : ∀ env : PySem.Env, starEach [eb] env = [(false, eval eb env)]) (ha : PE X ea (tE X B W₀ ma)) (hb' : PE X eb (tE X B W₀ mb)) :
    PE X (.Call (.Name x p) [ea, eb] [] pos) (tE X B W₀ (two none ma mb fun a b ρ => ofD (b2D f a.dat b.dat) ρ)) := by
  have pa : PA X [ea, eb] (tCons (tE X B W₀ ma) (tCons (tE X B W₀ mb) tNil)) := pa_cons ha (pa_cons hb' pa_nil (hs2 _)) (hs _)
  have hb : bootBuiltins x = some (b2V f) := by rw [hx]; exact boot2 f
  have key : PE X (.Call (.Name x p) [ea, eb] [] pos) (tCB (r2 f) (tCons (tE X B W₀ ma) (tCons (tE X B W₀ mb) tNil))) := by
    have cr := cr2 (X := X) hc f
    cases f
    all_goals exact pe_callB cr hg hm hb pa hn hdb (hs _) (by rw [hs2]; rfl)
  exact PE.mono key fun σ H Q h => two_ok (rel := fun T σ => ZR X B T σ) (r := fun x y H Q => r2 f [x, y] H Q) (fun F H T ρ va vb za zb h1 h2 h3 h4 => b2_ok f h1 h2 h3 h4) h
theorem ix_pe {ri : Option Nat} {ma mb : Env → R Z} {ea eb : Expr} {pos : Pos} (hs : notSlice eb = true) (ha : PE X ea (tFst X B W₀ ri ma)) (hb : PE X eb (tE X B W₀ mb)) :
    PE X (.Subscript ea eb pos) (tE X B W₀ (two ri ma mb ixF)) :=
  PE.mono (pe_ix ixr ha hb (by cases eb <;> first | (simp [notSlice] at hs; done) | exact fun _ _ => rfl)) fun σ H Q h => two_ok (rel := fun T σ => ZR X B T σ) (fun F H T ρ va vb za zb h1 h2 h3 h4 => ix_ok h1 h2 h3 h4) h
/-- a bound of a slice -/
def PR (X : Cx) (B : Ba) (T : List (V × W)) (σ : St) (o : Option Int) (ρ : Env) (o' : Option Int) (F H : Hp) : Prop := o' = o ∧ RL X B F H T σ ρ
def tP (X : Cx) (B : Ba) (W₀ : WX) (m : Env → R (Option Int)) : TO := fun σ H Q => ∃ F T ρ, RL X B F H T σ ρ ∧ FinA X B W₀ T σ (PR X B T σ) Q (m ρ)
theorem PO.mono {e : Option Expr} {t t' : TO} (h : PO X e t) (q : ∀ σ H Q, t' σ H Q → t σ H Q) : PO X e t' := ⟨fun pins s σ H Q I w => h.run pins s σ H Q I (q σ H Q w)⟩
theorem part_none {m : Env → R Z} : PO X none (tP X B W₀ (bndM true m)) := PO.mono po_none fun σ H Q ⟨F, T, ρ, r, f⟩ => (f : FinA X B W₀ T σ (PR X B T σ) Q (.ok none ρ)) none F H ⟨rfl, r⟩
theorem part_some {e : Expr} {m : Env → R Z} (h : PE X e (tE X B W₀ m)) : PO X (some e) (tP X B W₀ (bndM false m)) :=
  PO.mono (po_some h) fun σ H Q ⟨F, T, ρ, r, f⟩ => ⟨F, T, ρ, r, by
    have f : FinA X B W₀ T σ (PR X B T σ) Q ((m ρ).bind fun z ρ1 => match z.dat with
      | .int i => .ok (some i) ρ1
      | _ => .bad) := f
    refine fin_bind0 f fun z ρ1 v F1 H1 zr f1 => ?_
    have rd := zr.rd
    split at f1
    · rename_i i e
      rw [e] at rd
      exact ⟨i, rd.intV, f1 (some i) F1 H1 ⟨rfl, zr.rl⟩⟩
    · exact f1.elim⟩
theorem slF_ok {Q : VK} {va : V} {za : Z} {lo hi : Option Int} (ha : ZV X B T σ za ρ va F H) (r : RL X B F H T σ ρ) (h : FinA X B W₀ T σ (ZR X B T σ) Q (slF za lo hi ρ)) : rSlAll X.K va lo hi H Q := by
  unfold slF at h
  split at h
  · rename_i d e
    exact sl_ok ha e r h
  · exact h.elim
theorem sl_pe {ri : Option Nat} {ma : Env → R Z} {mb mc : Env → R (Option Int)} {ea : Expr} {elo ehi : Option Expr} {p2 pos : Pos} (ha : PE X ea (tFst X B W₀ ri ma)) (hb : PO X elo (tP X B W₀ mb)) (hc : PO X ehi (tP X B W₀ mc)) :
    PE X (.Subscript ea (.Slice elo ehi none p2) pos) (tE X B W₀ (three ri ma mb mc slF)) :=
  PE.mono (pe_slice slr ha hb hc) fun σ H Q ⟨F, T, ρ, rl, g⟩ => by
    cases ri with
    | some i =>
      have g : FinA X B W₀ T σ (ZR X B T σ) Q ((rdZ i ρ).bind fun _ ρ0 => (mb ρ0).bind fun lo ρ1 => (mc ρ1).bind fun hi ρ2 => (rdZ i ρ2).bind fun za ρ3 => slF za lo hi ρ3) := g
      obtain ⟨v, z, hv, _, g⟩ := rd_fin rl g
      refine ⟨v, hv, F, T, ρ, rl, fin_bind0 g fun lo ρ1 lo' F1 H1 hr1 g1 => ?_⟩
      obtain ⟨e1, r1⟩ := hr1
      subst e1
      refine ⟨F1, T, ρ1, r1, fin_bind0 g1 fun hi ρ2 hi' F2 H2 hr2 g2 => ?_⟩
      obtain ⟨e2, r2⟩ := hr2
      subst e2
      obtain ⟨v', za, hv', zra, g3⟩ := rd_fin r2 g2
      rw [hv] at hv'
      cases hv'
      exact slF_ok (zra.zv (T' := T)) zra.rl g3
    | none =>
      have g : FinA X B W₀ T σ (ZR X B T σ) Q ((ma ρ).bind fun za ρ1 => (nonBw za ρ1).bind fun xa ρ2 => (mb ρ2).bind fun lo ρ3 => (mc ρ3).bind fun hi ρ4 => slF (.w xa) lo hi ρ4) := g
      refine ⟨F, T, ρ, rl, fin_bind0 g fun za ρ1 va F1 H1 zra g1 => ?_⟩
      obtain ⟨x, rfl, hx, rx, g2⟩ := nonBw_fin zra g1
      refine ⟨F1, (va, x) :: T, ρ1, rx, fin_bind (M := [(va, x)]) g2 fun lo ρ2 lo' F2 H2 hr1 g3 => ?_⟩
      obtain ⟨e1, r1⟩ := hr1
      subst e1
      refine ⟨F2, (va, x) :: T, ρ2, r1, fin_bind (M := [(va, x)]) g3 fun hi ρ3 hi' F3 H3 hr2 g4 => ?_⟩
      obtain ⟨e2, r2⟩ := hr2
      subst e2
      exact slF_ok ((show ZR X B T σ (.w x) ρ3 va F3 H3 from ⟨hx, r2⟩).zv (T' := T)) (Rel.drop r2) g4
end
end Co

set_option Elab.async false
set_option linter.all false
set_option maxRecDepth 100000
set_option maxHeartbeats 8000000
namespace Co
open PySem PySem.Spec PyProof.Rows L2
section
variable {X : Cx} {B : Ba} {W₀ : WX} {n : Nm} {k : Nat} {cf : CF} {g : G} {F H : Hp} {T M : List (V × W)} {σ : St} {ρ ρ1 : Env}
/-! ### chains -/
theorem chain_pe {o1 o2 : CmpO} {ma mb mc : Env → R Z} {ea eb ec : Expr} {pos : Pos} (hr : Room k X.A) (hs : notSet ec = true) (ha : PE X ea (tE X B W₀ ma)) (hb : PE X eb (tE X B W₀ mb)) (hc : PE X ec (tE X B W₀ mc)) :
    PE X (.Compare ea [opC o1, opC o2] [eb, ec] pos) (tE X B W₀ fun ρ => (ma ρ).bind fun za ρ1 => (nonBw za ρ1).bind fun xa ρ2 => (mb ρ2).bind fun zb ρ3 => (nonBw zb ρ3).bind fun xb ρ4 =>
      match cmpD o1 xa.dat xb.dat with
      | some true => (mc ρ4).bind fun zc ρ5 => ofD ((cmpD o2 xb.dat zc.dat).map .bool) ρ5
      | some false => .ok (.w (.fz (.bool false))) ρ4
      | none => .bad) :=
  PE.mono (pe_chain (opr_cmp hr o1) (opr_cmp hr o2) ha hb hc (noBehind hs)) fun σ H Q ⟨F, T, ρ, r, f⟩ => ⟨F, T, ρ, r, fin_bind0 f fun za ρ1 va F1 H1 zr f1 => by
    obtain ⟨x, rfl, hx, r1, f2⟩ := nonBw_fin zr f1
    refine ⟨F1, (va, x) :: T, ρ1, r1, fin_bind (M := [(va, x)]) f2 fun zb ρ2 vb F2 H2 zr2 f3 => ?_⟩
    obtain ⟨y, rfl, hy, r2, f4⟩ := nonBw_fin zr2 f3
    have ra : Rp X.K H2 va x.dat := r2.drop.hd_rd
    have rb : Rp X.K H2 vb y.dat := r2.hd_rd
    split at f4
    · rename_i e
      refine cmp_val o1 ra rb e ⟨true, rfl, ?_⟩
      rw [if_pos rfl]
      refine ⟨F2, (vb, y) :: T, ρ2, Rel.drop (Rel.perm r2 (.swap _ _ _)), fin_bind (M := [(vb, y)]) f4 fun zc ρ3 vc F3 H3 zr3 f5 => ?_⟩
      obtain ⟨d, e5, f6⟩ := ofD_fin f5
      cases q : cmpD o2 y.dat zc.dat with
      | none => rw [q] at e5; cases e5
      | some c =>
        rw [q] at e5
        cases e5
        exact cmp_val o2 zr3.rl.hd_rd zr3.rd q (ret_fz f6 zr3.rl.drop (.bl _))
    · rename_i e
      refine cmp_val o1 ra rb e ⟨false, rfl, ?_⟩
      rw [if_neg Bool.false_ne_true]
      exact ret_fz f4 r2.drop.drop (.bl _)
    · exact f4.elim⟩
theorem chain_pt {o1 o2 : CmpO} {ma mb mc : Env → R Z} {ea eb ec : Expr} {pos : Pos} (hr : Room k X.A) (hs : notSet ec = true) (ha : PE X ea (tE X B W₀ ma)) (hb : PE X eb (tE X B W₀ mb)) (hc : PE X ec (tE X B W₀ mc)) :
    PT X (.Compare ea [opC o1, opC o2] [eb, ec] pos) (tT X B W₀ fun ρ => (ma ρ).bind fun za ρ1 => (nonBw za ρ1).bind fun xa ρ2 => (mb ρ2).bind fun zb ρ3 => (nonBw zb ρ3).bind fun xb ρ4 =>
      match cmpD o1 xa.dat xb.dat with
      | some true => (mc ρ4).bind fun zc ρ5 => liftO (cmpD o2 xb.dat zc.dat) ρ5
      | some false => .ok false ρ4
      | none => .bad) :=
  PT.mono (pt_chain (opr_cmp hr o1) (opr_cmp hr o2) ha hb hc (noBehind hs)) fun σ H Q ⟨F, T, ρ, r, f⟩ => ⟨F, T, ρ, r, fin_bind0 f fun za ρ1 va F1 H1 zr f1 => by
    obtain ⟨x, rfl, hx, r1, f2⟩ := nonBw_fin zr f1
    refine ⟨F1, (va, x) :: T, ρ1, r1, fin_bind (M := [(va, x)]) f2 fun zb ρ2 vb F2 H2 zr2 f3 => ?_⟩
    obtain ⟨y, rfl, hy, r2, f4⟩ := nonBw_fin zr2 f3
    have ra : Rp X.K H2 va x.dat := r2.drop.hd_rd
    have rb : Rp X.K H2 vb y.dat := r2.hd_rd
    split at f4
    · rename_i e
      refine cmp_val o1 ra rb e ⟨true, rfl, ?_⟩
      rw [if_pos rfl]
      refine ⟨F2, (vb, y) :: T, ρ2, Rel.drop (Rel.perm r2 (.swap _ _ _)), fin_bind (M := [(vb, y)]) f4 fun zc ρ3 vc F3 H3 zr3 f5 => ?_⟩
      obtain ⟨c, q, f6⟩ := liftO_fin f5
      exact cmp_val o2 zr3.rl.hd_rd zr3.rd q ⟨c, rfl, f6 c F3 H3 ⟨rfl, zr3.rl.drop⟩⟩
    · rename_i e
      refine cmp_val o1 ra rb e ⟨false, rfl, ?_⟩
      rw [if_neg Bool.false_ne_true]
      exact ⟨false, rfl, f4 false F2 H2 ⟨rfl, r2.drop.drop⟩⟩
    · exact f4.elim⟩

/-! ### displays -/
theorem only_nio {as : List Arg} {vs : List V} (a : AR σ as vs M) : ∀ {ws : List W}, onlyW as = some ws → M.map (·.1) = vs ∧ M.map (·.2.o) = ws.map W.o ∧ M.map (·.2.dat) = ws.map W.dat ∧ (∀ p ∈ M, p.2.isIo = false) ∧ vs.length = ws.length := by
  induction a with
  | nil =>
    intro ws e
    cases e
    exact ⟨rfl, rfl, rfl, fun p hp => (nomatch hp), rfl⟩
  | @a x v as vs M hx a ih =>
    intro ws e
    cases q : onlyW as with
    | none => simp [onlyW, q] at e
    | some ws' =>
      simp [onlyW, q] at e
      subst e
      obtain ⟨h1, h2, h3, h4, h5⟩ := ih q
      refine ⟨by simp [h1], by simpa using h2, by simpa using h3, fun p hp => ?_, by simp [h5]⟩
      rcases List.mem_cons.mp hp with z | z
      · rw [z]; exact hx
      · exact h4 p z
  | @o x v as vs M hx a ih =>
    intro ws e
    simp [onlyW] at e
  | @io i v as vs M hv a ih =>
    intro ws e
    simp [onlyW] at e
theorem frz_all : ∀ {M : List (V × W)} {F : Hp}, RL X B F H (M ++ T) σ ρ → (∀ p ∈ M, p.2.isIo = false) → ∃ F', Same F F' ∧ RL X B F' H T σ ρ ∧ Rps X.K F' (M.map (·.1)) (M.map (·.2.dat))
  | [], F, h, _ => ⟨F, Same.refl F, h, .nil⟩
  | (v, x) :: M, F, h, hm => by
    obtain ⟨F1, s1, r1⟩ := Rel.frz h (hm (v, x) List.mem_cons_self)
    obtain ⟨F2, s2, r2, rp⟩ := frz_all (M := M) r1.drop fun p hp => hm p (List.mem_cons_of_mem _ hp)
    exact ⟨F2, s1.trans s2, r2, .cons (r1.hd_fz.mono s2) rp⟩
theorem Rel.grow {u : HO} {p : Addr} (h : RL X B F H T σ ρ) (hp : H p = none) : RL X B F (upd H p u) T σ ρ := ⟨h.len, h.dfd, h.rx.grow hp, h.io⟩
theorem lst_pe {ees : List Expr} {pos : Pos} {m : Env → R (List Arg)} (h : PA X ees (tAr X B W₀ m)) :
    PE X (.List ees pos) (tE X B W₀ fun ρ => (m ρ).bind fun as ρ1 => (liftO (onlyW as) ρ1).bind fun ws ρ2 => if okPy ws.length then .ok (.w (.own (.l (ws.map W.o)))) ρ2 else .bad) :=
  PE.mono (pe_lst h) fun σ H Q ⟨F, T, ρ, r, f⟩ => ⟨F, T, ρ, r, fin_bind0 f fun as ρ1 vs F1 H1 ar f1 => by
    obtain ⟨M, a, r1⟩ := ar
    obtain ⟨ws, e, f2⟩ := liftO_bind f1
    obtain ⟨h1, h2, h3, h4, h5⟩ := only_nio a e
    split at f2
    · rename_i hl
      refine ⟨by rw [h5]; exact of_decide_eq_true hl, fun p hp => ?_⟩
      have q := Rel.newLst r1 h4 hp
      rw [h1, h2] at q
      exact f2 (.ref p) F1 _ ⟨rfl, q⟩
    · exact f2.elim⟩
theorem tup_pe {ees : List Expr} {x1} {pos : Pos} {m : Env → R (List Arg)} (h : PA X ees (tAr X B W₀ m)) :
    PE X (.Tuple ees x1 pos) (tE X B W₀ fun ρ => (m ρ).bind fun as ρ1 => (liftO (onlyW as) ρ1).bind fun ws ρ2 => if okPy ws.length then .ok (.w (.fz (.tuple (ws.map W.dat)))) ρ2 else .bad) :=
  PE.mono (pe_tup h) fun σ H Q ⟨F, T, ρ, r, f⟩ => ⟨F, T, ρ, r, fin_bind0 f fun as ρ1 vs F1 H1 ar f1 => by
    obtain ⟨M, a, r1⟩ := ar
    obtain ⟨ws, e, f2⟩ := liftO_bind f1
    obtain ⟨h1, h2, h3, h4, h5⟩ := only_nio a e
    split at f2
    · rename_i hl
      refine ⟨by rw [h5]; exact of_decide_eq_true hl, fun p hp => ?_⟩
      obtain ⟨F2, s2, r2, rp⟩ := frz_all r1 h4
      rw [h1, h3] at rp
      exact f2 (.ref p) _ _ ⟨rfl, Rel.newTup r2 hp rp⟩
    · exact f2.elim⟩
theorem nil_pa : PA X [] (tAr X B W₀ fun ρ => .ok [] ρ) := PA.mono pa_nil fun σ H Q ⟨F, T, ρ, r, f⟩ => (f : FinA X B W₀ T σ (ARl X B T σ) Q (.ok [] ρ)) [] F H ⟨[], .nil, r⟩
theorem cons_pa {ex : Expr} {exs : List Expr} {m : Env → R Z} {ms : Env → R (List Arg)} (hs : ∀ env : PySem.Env, starEach (ex :: exs) env = (false, eval ex env) :: starEach exs env) (h : PE X ex (tE X B W₀ m)) (h2 : PA X exs (tAr X B W₀ ms)) :
    PA X (ex :: exs) (tAr X B W₀ fun ρ => (m ρ).bind fun z ρ1 => (nonBw z ρ1).bind fun x ρ2 => (ms ρ2).bind fun as ρ3 => .ok (.a x :: as) ρ3) :=
  PA.mono (pa_cons h h2 (hs _)) fun σ H Q ⟨F, T, ρ, r, f⟩ => ⟨F, T, ρ, r, fin_bind0 f fun z ρ1 v F1 H1 zr f1 => by
    obtain ⟨x, rfl, hx, r1, f2⟩ := nonBw_fin zr f1
    refine ⟨F1, (v, x) :: T, ρ1, r1, fin_bind (M := [(v, x)]) f2 fun as ρ2 vs F2 H2 ar f3 => ?_⟩
    obtain ⟨M, a, r2⟩ := ar
    have r2' : RL X B F2 H2 (((v, x) :: M) ++ T) σ ρ2 := Rel.perm r2 List.perm_middle
    exact f3 (v :: vs) F2 H2 ⟨(v, x) :: M, .a hx a, r2'⟩⟩
theorem io_pa {i : Nat} {x : Str} {pos : Pos} {exs : List Expr} {ms : Env → R (List Arg)} (h : PE X (.Name x pos) (tVar i)) (h2 : PA X exs (tAr X B W₀ ms)) :
    PA X (.Name x pos :: exs) (tAr X B W₀ fun ρ => match ρ[i]? with
      | some (some _) => (ms ρ).bind fun as ρ1 => .ok (.io i :: as) ρ1
      | _ => .bad) :=
  PA.mono (pa_cons h h2 starN) fun σ H Q ⟨F, T, ρ, r, f⟩ => by
    dsimp only at f
    split at f
    · rename_i y e
      obtain ⟨v, hv⟩ := r.dfd i y e
      refine ⟨v, hv, F, T, ρ, r, fin_bind0 f fun as ρ1 vs F1 H1 ar f1 => ?_⟩
      obtain ⟨M, a, r1⟩ := ar
      exact f1 (v :: vs) F1 H1 ⟨M, .io hv a, r1⟩
    · exact f.elim

/-! ### calls -/
theorem call_pe {f x : Str} {p pos : Pos} {ee : Expr} {ees : List Expr} {ms : Env → R (List Arg)} (y : Hy X B W₀ n k cf g) (hf : n.fs.contains f = true) (hx : gB n f x = true) (hs : ∀ env : PySem.Env, starEach (ee :: ees) env = (false, eval ee env) :: starEach ees env)
    (hpl : ∀ env : PySem.Env, (starEach ees env).any (·.1) = false) (h : PA X (ee :: ees) (tAr X B W₀ ms)) : PE X (.Call (.Name x p) (ee :: ees) [] pos) (tE X B W₀ fun ρ => (ms ρ).bind fun as ρ1 => doCall cf f as ρ1) := by
  obtain ⟨e, g1, d1, d2⟩ := gB_inv hx
  subst e
  obtain ⟨fa, fd, ps, h1, h2, h3, h4, _⟩ := y.fn x hf
  refine PE.mono (pe_callS h4 y.room (y.gl g1) h1 h2 h3 (fun σ => passAt y.tk σ) h d1 (hs _) (by rw [back_any]; exact hpl _)) fun σ H Q ⟨F, T, ρ, r, f⟩ => ⟨F, T, ρ, r, fin_bind0 f fun as ρ1 vs F1 H1 ar f1 => ?_⟩
  obtain ⟨M, a, r1⟩ := ar
  exact call_ok a r1 f1
theorem ownA_pa {ex : Expr} {exs : List Expr} {m : Env → R Z} {ms : Env → R (List Arg)} (hs : ∀ env : PySem.Env, starEach (ex :: exs) env = (false, eval ex env) :: starEach exs env) (h : PE X ex (tE X B W₀ m)) (h2 : PA X exs (tAr X B W₀ ms)) :
    PA X (ex :: exs) (tAr X B W₀ fun ρ => (m ρ).bind fun z ρ1 => (nonBw z ρ1).bind fun x ρ2 => (ms ρ2).bind fun as ρ3 => .ok (.o x :: as) ρ3) :=
  PA.mono (pa_cons h h2 (hs _)) fun σ H Q ⟨F, T, ρ, r, f⟩ => ⟨F, T, ρ, r, fin_bind0 f fun z ρ1 v F1 H1 zr f1 => by
    obtain ⟨x, rfl, hx, r1, f2⟩ := nonBw_fin zr f1
    refine ⟨F1, (v, x) :: T, ρ1, r1, fin_bind (M := [(v, x)]) f2 fun as ρ2 vs F2 H2 ar f3 => ?_⟩
    obtain ⟨M, a, r2⟩ := ar
    have r2' : RL X B F2 H2 (((v, x) :: M) ++ T) σ ρ2 := Rel.perm r2 List.perm_middle
    exact f3 (v :: vs) F2 H2 ⟨(v, x) :: M, .o hx a, r2'⟩⟩
theorem calm_fin {α β : Type} {rel : α → Env → β → Hp → Hp → Prop} {Q : β → Hp → Prop} {r : R α} (h : FinA X B W₀ T σ rel Q r.calm) : FinA X B (fun _ _ _ _ => False) T σ rel Q r := by
  cases r with
  | ok a ρ => exact h
  | ex x ρ => exact h.elim
  | bad => exact h
theorem call0_pe {f x : Str} {p pos : Pos} (y : Hy X B W₀ n k cf g) (hf : n.fs.contains f = true) (hx : gB n f x = true) : PE X (.Call (.Name x p) [] [] pos) (tE X B W₀ fun ρ => R.calm (doCall cf f [] ρ)) := by
  obtain ⟨e, g1, d1, d2⟩ := gB_inv hx
  subst e
  obtain ⟨fa, fd, ps, h1, h2, h3, h4, _⟩ := y.fn x hf
  refine PE.mono (pe_call0 h4 y.room (y.gl g1) h1 h2 h3 (dvs := []) .nil passL d1) fun σ H Q ⟨F, T, ρ, r, f⟩ => ?_
  exact call_ok (M := []) .nil r (calm_fin f)

/-! ### calls by names -/
theorem PK.mono {kws : List Keyword} {t t' : TA} (h : PK X kws t) (q : ∀ σ H Q, t' σ H Q → t σ H Q) : PK X kws t' := ⟨fun pos pins s σ H Q I w => h.run pos pins s σ H Q I (q σ H Q w)⟩
theorem nil_pk : PK X [] (tAr X B W₀ fun ρ => .ok [] ρ) := PK.mono pk_nil fun σ H Q ⟨F, T, ρ, r, f⟩ => (f : FinA X B W₀ T σ (ARl X B T σ) Q (.ok [] ρ)) [] F H ⟨[], .nil, r⟩
theorem cons_pk {nm : Option Str} {kpos : Pos} {ex : Expr} {kws : List Keyword} {m : Env → R Z} {ms : Env → R (List Arg)} (h : PE X ex (tE X B W₀ m)) (h2 : PK X kws (tAr X B W₀ ms)) :
    PK X (⟨nm, ex, kpos⟩ :: kws) (tAr X B W₀ fun ρ => (m ρ).bind fun z ρ1 => (nonBw z ρ1).bind fun x ρ2 => (ms ρ2).bind fun as ρ3 => .ok (.a x :: as) ρ3) :=
  PK.mono (pk_cons h h2) fun σ H Q ⟨F, T, ρ, r, f⟩ => ⟨F, T, ρ, r, fin_bind0 f fun z ρ1 v F1 H1 zr f1 => by
    obtain ⟨x, rfl, hx, r1, f2⟩ := nonBw_fin zr f1
    refine ⟨F1, (v, x) :: T, ρ1, r1, fin_bind (M := [(v, x)]) f2 fun as ρ2 vs F2 H2 ar f3 => ?_⟩
    obtain ⟨M, a, r2⟩ := ar
    have r2' : RL X B F2 H2 (((v, x) :: M) ++ T) σ ρ2 := Rel.perm r2 List.perm_middle
    exact f3 (v :: vs) F2 H2 ⟨(v, x) :: M, .a hx a, r2'⟩⟩
theorem ownA_pk {nm : Option Str} {kpos : Pos} {ex : Expr} {kws : List Keyword} {m : Env → R Z} {ms : Env → R (List Arg)} (h : PE X ex (tE X B W₀ m)) (h2 : PK X kws (tAr X B W₀ ms)) :
    PK X (⟨nm, ex, kpos⟩ :: kws) (tAr X B W₀ fun ρ => (m ρ).bind fun z ρ1 => (nonBw z ρ1).bind fun x ρ2 => (ms ρ2).bind fun as ρ3 => .ok (.o x :: as) ρ3) :=
  PK.mono (pk_cons h h2) fun σ H Q ⟨F, T, ρ, r, f⟩ => ⟨F, T, ρ, r, fin_bind0 f fun z ρ1 v F1 H1 zr f1 => by
    obtain ⟨x, rfl, hx, r1, f2⟩ := nonBw_fin zr f1
    refine ⟨F1, (v, x) :: T, ρ1, r1, fin_bind (M := [(v, x)]) f2 fun as ρ2 vs F2 H2 ar f3 => ?_⟩
    obtain ⟨M, a, r2⟩ := ar
    have r2' : RL X B F2 H2 (((v, x) :: M) ++ T) σ ρ2 := Rel.perm r2 List.perm_middle
    exact f3 (v :: vs) F2 H2 ⟨(v, x) :: M, .o hx a, r2'⟩⟩
theorem io_pk {nm : Option Str} {kpos : Pos} {i : Nat} {x : Str} {pos : Pos} {kws : List Keyword} {ms : Env → R (List Arg)} (h : PE X (.Name x pos) (tVar i)) (h2 : PK X kws (tAr X B W₀ ms)) :
    PK X (⟨nm, .Name x pos, kpos⟩ :: kws) (tAr X B W₀ fun ρ => match ρ[i]? with
      | some (some _) => (ms ρ).bind fun as ρ1 => .ok (.io i :: as) ρ1
      | _ => .bad) :=
  PK.mono (pk_cons h h2) fun σ H Q ⟨F, T, ρ, r, f⟩ => by
    dsimp only at f
    split at f
    · rename_i y e
      obtain ⟨v, hv⟩ := r.dfd i y e
      refine ⟨v, hv, F, T, ρ, r, fin_bind0 f fun as ρ1 vs F1 H1 ar f1 => ?_⟩
      obtain ⟨M, a, r1⟩ := ar
      exact f1 (v :: vs) F1 H1 ⟨M, .io hv a, r1⟩
    · exact f.elim
theorem kw_names : ∀ {kws : List Keyword} {ks : List Str} {pos : Pos} {env : PySem.Env}, kwNames kws = some ks → (backToKw pos (keywordEach kws env)).all (·.1.isSome) = true ∧ (backToKw pos (keywordEach kws env)).filterMap (·.1) = ks ∧ (backToKw pos (keywordEach kws env)).any (·.1.isNone) = false
  | [], ks, pos, env, h => by cases h; exact ⟨rfl, rfl, rfl⟩
  | ⟨none, _, _⟩ :: r, ks, pos, env, h => by cases h
  | ⟨some x, e, p⟩ :: r, ks, pos, env, h => by
    cases q : kwNames r with
    | none => simp [kwNames, q] at h
    | some ks' =>
      simp [kwNames, q] at h
      subst h
      obtain ⟨h1, h2, h3⟩ := kw_names (pos := pos) (env := env) q
      have e1 : backToKw pos (keywordEach (⟨some x, e, p⟩ :: r) env) = (some x, do let v ← eval e env; standAt pos; pure v) :: backToKw pos (keywordEach r env) := rfl
      rw [e1]
      refine ⟨?_, ?_, ?_⟩
      · rw [List.all_cons, h1]; rfl
      · rw [List.filterMap_cons, h2]
      · rw [List.any_cons, h3]; rfl
theorem vals_perm {vs : List V} {us : List Value} (h : Vals vs us) : ∀ perm : List Nat, Vals (permL perm vs) (permL perm us)
  | [] => .nil
  | i :: p => by
    have ih := vals_perm h p
    unfold permL at ih ⊢
    rw [List.filterMap_cons, List.filterMap_cons]
    cases e : vs[i]? with
    | none =>
      have : us[i]? = none := by
        rw [List.getElem?_eq_none_iff] at e ⊢
        rw [← h.length]; exact e
      rw [this]
      exact ih
    | some v =>
      obtain ⟨u, e2, r⟩ := h.get e
      rw [e2]
      exact .cons r ih
theorem only_fz {as : List Arg} {vs : List V} (a : AR σ as vs M) {ws : List W} (e : onlyW as = some ws) (r : RL X B F H (M ++ T) σ ρ) : ∃ F', Same F F' ∧ RL X B F' H T σ ρ ∧ Rps X.K F' vs (ws.map W.dat) := by
  obtain ⟨h1, h2, h3, h4, h5⟩ := only_nio a e
  obtain ⟨F2, s2, r2, rp⟩ := frz_all r h4
  rw [h1, h3] at rp
  exact ⟨F2, s2, r2, rp⟩
theorem callk_pe {f x : Str} {p pos : Pos} {kws : List Keyword} {ks : List Str} {perm : List Nat} {ms : Env → R (List Arg)} (y : Hy X B W₀ n k cf g) (hf : n.fs.contains f = true) (hkc : n.kc.contains (f, ks, perm) = true) (hx : gB n f x = true) (hkn : kwNames kws = some ks)
    (h : PK X kws (tAr X B W₀ ms)) : PE X (.Call (.Name x p) [] kws pos) (tE X B W₀ fun ρ => (ms ρ).bind fun as ρ1 => (liftO (onlyW as) ρ1).bind fun ws ρ2 => if ws.length = ks.length then R.calm (callK cf f perm (ws.map W.dat) ρ2) else .bad) := by
  obtain ⟨e, g1, d1, d2⟩ := gB_inv hx
  subst e
  obtain ⟨fa, fd, ps, h1, h2, h3, h4, h5⟩ := y.fn x hf
  have kb := h5 ks perm hkc
  refine ⟨fun pins s σ H Q I ⟨F, T, ρ, r, f'⟩ => ?_⟩
  obtain ⟨k1, k2, k3⟩ := kw_names (pos := pos) (env := X.env) hkn
  refine wpAny_Call_Name_kw (ld_glob I (y.gl g1) h1 ?_ d1)
  refine PySem.W.callWith_KW0 (h₀ := X.base) I.ok.mod.kin h2 k1 ?_ (by rw [k3]; rfl)
  refine thn (h.run pos pins s σ H (fun zs H1 => ∃ (as : List Arg) (F1 : Hp) (ρ1 : Env), ARl X B T σ as ρ1 zs F1 H1 ∧ FinA X B W₀ T σ (ZR X B T σ) Q ((liftO (onlyW as) ρ1).bind fun ws ρ2 => if ws.length = ks.length then R.calm (callK cf x perm (ws.map W.dat) ρ2) else .bad)) I
    ⟨F, T, ρ, r, fin_bind0 f' fun as ρ1 vs F1 H1 ar f1 => ⟨as, F1, ρ1, ar, f1⟩⟩) fun ws s2 ⟨zs, H2, I2, rz, as, F1, ρ1, ar, f1⟩ => ⟨I2.kIn, ?_⟩
  rw [k2]
  obtain ⟨M, a, r1⟩ := ar
  obtain ⟨xs, e1, f2⟩ := liftO_bind f1
  obtain ⟨F2, s2', r2, rp⟩ := only_fz a e1 r1
  split at f2
  case isFalse => exact f2.elim
  rename_i hlen
  have sp := callK_ok (W₀ := fun _ _ _ _ => False) rp r2 (calm_fin f2)
  have hl : zs.length = ks.length := by rw [(only_nio a e1).2.2.2.2]; exact hlen
  show wpAny (model X.prog X.w) X.A (call (.ref fa) ([] ++ []) (ks.zip ws)) (EP X pins σ Q) X.xe s2
  refine wpAny_call (codeAny_mono (h4.run X.A X.stack s2 H2 ⟨[], ks.zip ws⟩ (permL perm ws) (permL perm zs) Q _ y.room I2.env0 (kb s2 ws I2.kIn (by rw [← rz.length]; exact hl)) (vals_perm rz perm) sp) fun r s' hq => ?_)
  cases r with
  | error e => exact passL pins σ H2 s2 e s' I2 hq
  | ok fl =>
    cases fl with
    | ret u => exact I2.after hq
    | next => exact False.elim hq
    | brk => exact False.elim hq
    | cont => exact False.elim hq

/-! ### types, written dicts, methods -/
theorem isiT_pe {tys : List Ty} {ts : List Expr} {x : Str} {p pos tp : Pos} {j} {ma : Env → R Z} {ea : Expr} (y : Hy X B W₀ n k cf g) (hx : gB n "isinstance" x = true) (hs : ∀ (env : PySem.Env) (es : List Expr), starEach (ea :: es) env = (false, eval ea env) :: starEach es env)
    (ht : tyNames n tys ts = true) (hl : tys.length ≤ 16) (ha : PE X ea (tE X B W₀ ma)) : PE X (.Call (.Name x p) [ea, .Tuple ts j tp] [] pos) (tE X B W₀ fun ρ => (ma ρ).bind fun za ρ1 => isiF tys za.dat ρ1) := by
  obtain ⟨e, g1, d1, d2⟩ := gB_inv hx
  have pa : PA X [ea, .Tuple ts j tp] (tCons (tE X B W₀ ma) (tCons (tTup fun σ H Q => Q (tys.map fun t => V.ty t.nm) H) tNil)) := pa_cons ha (pa_cons (pe_tup (tysPA y ht)) pa_nil rfl) (hs _ _)
  have hm : X.mg x = none := y.blt x (by rw [e]; decide +kernel)
  have hb : bootBuiltins x = some (.builtin "isinstance") := by rw [e]; decide +kernel
  refine PE.mono (pe_callB call_isiT (y.gl g1) hm hb pa d2 d1 (hs _ _) rfl) fun σ H Q ⟨F, T, ρ, r, f⟩ => ⟨F, T, ρ, r, fin_bind0 f fun za ρ1 va F1 H1 zr f1 => ?_⟩
  obtain ⟨t, e1, ty, f2⟩ := isi_fin (zr.zv (T' := T)) f1
  refine ⟨?_, fun tp htp => ?_⟩
  · rw [List.length_map, sizeLine_eq]
    omega
  · have rl := zr.rl
    refine ⟨va, tp, _, _, _, _, rfl, upd_same, paired_cls tys, (zr.rd.mono (same_updN htp)).ty e1, kit_any e1 tys, ret_fz f2 (Rel.grow rl htp) (.bl _)⟩
theorem isi1_pe {ty : Ty} {x z : Str} {p pos zp : Pos} {ma : Env → R Z} {ea : Expr} (y : Hy X B W₀ n k cf g) (hx : gB n "isinstance" x = true) (hs : ∀ (env : PySem.Env) (es : List Expr), starEach (ea :: es) env = (false, eval ea env) :: starEach es env)
    (ht : gB n (Str.ofString ty.nm) z = true) (ha : PE X ea (tE X B W₀ ma)) : PE X (.Call (.Name x p) [ea, .Name z zp] [] pos) (tE X B W₀ fun ρ => (ma ρ).bind fun za ρ1 => isiF [ty] za.dat ρ1) := by
  obtain ⟨e, g1, d1, d2⟩ := gB_inv hx
  have pa : PA X [ea, .Name z zp] (tCons (tE X B W₀ ma) (tCons (tC (.ty ty.nm)) tNil)) := pa_cons ha (pa_cons (tyPE y ht) pa_nil rfl) (hs _ _)
  have hm : X.mg x = none := y.blt x (by rw [e]; decide +kernel)
  have hb : bootBuiltins x = some (.builtin "isinstance") := by rw [e]; decide +kernel
  refine PE.mono (pe_callB call_isi (y.gl g1) hm hb pa d2 d1 (hs _ _) rfl) fun σ H Q ⟨F, T, ρ, r, f⟩ => ⟨F, T, ρ, r, fin_bind0 f fun za ρ1 va F1 H1 zr f1 => ?_⟩
  obtain ⟨t, e1, ty', f2⟩ := isi_fin (zr.zv (T' := T)) f1
  refine ⟨va, _, _, _, _, rfl, .ty _, ty', kit_all ty e1, ?_⟩
  have q := ret_fz f2 zr.rl (.bl _)
  simpa using q
theorem glB_pe (y : Hy X B W₀ n k cf g) {z x : Str} {pos : Pos} (hx : gB n z x = true) {u : Value} {v : V} (hm : X.mg z = some u) (r : RelV v u) : PE X (.Name x pos) (tC v) := by
  obtain ⟨e, g1, d1, d2⟩ := gB_inv hx
  subst e
  exact pe_glob (y.gl g1) hm r d1
theorem g_pe (y : Hy X B W₀ n k cf g) {z x : Str} {pos : Pos} (hx : gB n z x = true) : PE X (.Name x pos) (tE X B W₀ fun ρ => ofD (g.con z) ρ) := by
  cases q : g.con z with
  | none =>
    obtain ⟨e, g1, d1, d2⟩ := gB_inv hx
    exact ⟨fun pins s σ H Q I ⟨F, T, ρ, r, f⟩ => (show False from f).elim⟩
  | some d =>
    obtain ⟨u, v, h1, h2, h3⟩ := y.con z d q
    exact PE.mono (glB_pe y hx h1 h2) fun σ H Q h => tC_ok h3 h
theorem gin_pe (y : Hy X B W₀ n k cf g) {z x : Str} {neg : Bool} {p pos : Pos} {ma : Env → R Z} {ea : Expr} (hz : n.ds.contains z = true) (hx : gB n z x = true) (ha : PE X ea (tE X B W₀ ma)) :
    PE X (.Compare ea [opC (if neg then .notin else .isin)] [.Name x p] pos) (tE X B W₀ fun ρ => (ma ρ).bind fun za ρ1 => ginF g z neg za.dat ρ1) := by
  obtain ⟨kvs, d, es, m, q, h1, h2, h3⟩ := y.dic z hz
  cases neg with
  | false =>
    refine PE.mono (pe_cmpR (op_in_kd h2) ha (glB_pe y hx h1 (v := .ref d) rfl) rfl) fun σ H Q ⟨F, T, ρ, r, f⟩ => ⟨F, T, ρ, r, fin_bind0 f fun za ρ1 va F1 H1 zr f1 => ?_⟩
    have rd := zr.rd
    unfold ginF at f1
    rw [q] at f1
    split at f1
    · rename_i kvs' s e1 e2
      cases e1
      rw [e2] at rd
      obtain ⟨r1, n1, c1⟩ := h3 s
      refine ⟨s, r1, rd.strV, rfl, n1, ?_⟩
      have q2 := ret_fz f1 zr.rl (.bl _)
      cases e : kvs.lookup s with
      | none => rw [e] at c1 q2; rw [c1]; exact q2
      | some dd => rw [e] at c1 q2; obtain ⟨u, v, h, _⟩ := c1; rw [h]; exact q2
    · exact f1.elim
  | true =>
    refine PE.mono (pe_cmpR (op_notIn_kd h2) ha (glB_pe y hx h1 (v := .ref d) rfl) rfl) fun σ H Q ⟨F, T, ρ, r, f⟩ => ⟨F, T, ρ, r, fin_bind0 f fun za ρ1 va F1 H1 zr f1 => ?_⟩
    have rd := zr.rd
    unfold ginF at f1
    rw [q] at f1
    split at f1
    · rename_i kvs' s e1 e2
      cases e1
      rw [e2] at rd
      obtain ⟨r1, n1, c1⟩ := h3 s
      refine ⟨s, r1, rd.strV, rfl, n1, ?_⟩
      have q2 := ret_fz f1 zr.rl (.bl _)
      cases e : kvs.lookup s with
      | none => rw [e] at c1 q2; rw [c1]; exact q2
      | some dd => rw [e] at c1 q2; obtain ⟨u, v, h, _⟩ := c1; rw [h]; exact q2
    · exact f1.elim
theorem gin_pt (y : Hy X B W₀ n k cf g) {z x : Str} {neg : Bool} {p pos : Pos} {ma : Env → R Z} {ea : Expr} (hz : n.ds.contains z = true) (hx : gB n z x = true) (ha : PE X ea (tE X B W₀ ma)) :
    PT X (.Compare ea [opC (if neg then .notin else .isin)] [.Name x p] pos) (tT X B W₀ fun ρ => (ma ρ).bind fun za ρ1 => ginT g z neg za.dat ρ1) := by
  obtain ⟨kvs, d, es, m, q, h1, h2, h3⟩ := y.dic z hz
  cases neg with
  | false =>
    refine PT.mono (pt_cmpR (op_in_kd h2) ha (glB_pe y hx h1 (v := .ref d) rfl) rfl) fun σ H Q ⟨F, T, ρ, r, f⟩ => ⟨F, T, ρ, r, fin_bind0 f fun za ρ1 va F1 H1 zr f1 => ?_⟩
    have rd := zr.rd
    unfold ginT at f1
    rw [q] at f1
    split at f1
    · rename_i kvs' s e1 e2
      cases e1
      rw [e2] at rd
      obtain ⟨r1, n1, c1⟩ := h3 s
      refine ⟨s, r1, rd.strV, rfl, n1, _, rfl, ?_⟩
      have q2 := f1 _ F1 H1 ⟨rfl, zr.rl⟩
      cases e : kvs.lookup s with
      | none => rw [e] at c1 q2; rw [c1]; exact q2
      | some dd => rw [e] at c1 q2; obtain ⟨u, v, h, _⟩ := c1; rw [h]; exact q2
    · exact f1.elim
  | true =>
    refine PT.mono (pt_cmpR (op_notIn_kd h2) ha (glB_pe y hx h1 (v := .ref d) rfl) rfl) fun σ H Q ⟨F, T, ρ, r, f⟩ => ⟨F, T, ρ, r, fin_bind0 f fun za ρ1 va F1 H1 zr f1 => ?_⟩
    have rd := zr.rd
    unfold ginT at f1
    rw [q] at f1
    split at f1
    · rename_i kvs' s e1 e2
      cases e1
      rw [e2] at rd
      obtain ⟨r1, n1, c1⟩ := h3 s
      refine ⟨s, r1, rd.strV, rfl, n1, _, rfl, ?_⟩
      have q2 := f1 _ F1 H1 ⟨rfl, zr.rl⟩
      cases e : kvs.lookup s with
      | none => rw [e] at c1 q2; rw [c1]; exact q2
      | some dd => rw [e] at c1 q2; obtain ⟨u, v, h, _⟩ := c1; rw [h]; exact q2
    · exact f1.elim
theorem gix_pe (y : Hy X B W₀ n k cf g) {z x : Str} {p pos : Pos} {ma : Env → R Z} {ea : Expr} (hs : notSlice ea = true) (hz : n.ds.contains z = true) (hx : gB n z x = true) (ha : PE X ea (tE X B W₀ ma)) :
    PE X (.Subscript (.Name x p) ea pos) (tE X B W₀ fun ρ => (ma ρ).bind fun za ρ1 => gixF g z za.dat ρ1) := by
  obtain ⟨kvs, d, es, m, q, h1, h2, h3⟩ := y.dic z hz
  refine PE.mono (pe_ix ix_kdict (glB_pe y hx h1 (v := .ref d) rfl) ha (by cases ea <;> first | (simp [notSlice] at hs; done) | exact fun _ _ => rfl)) fun σ H Q ⟨F, T, ρ, r, f⟩ => ⟨F, T, ρ, r, fin_bind0 f fun za ρ1 va F1 H1 zr f1 => ?_⟩
  have rd := zr.rd
  unfold gixF at f1
  rw [q] at f1
  split at f1
  · rename_i kvs' s e1 e2
    cases e1
    rw [e2] at rd
    obtain ⟨r1, n1, c1⟩ := h3 s
    obtain ⟨dd, e, q2⟩ := ofD_fin f1
    rw [e] at c1
    obtain ⟨u, v, h, r2, r3⟩ := c1
    subst h
    exact ⟨d, s, v, rfl, rd.strV, ⟨es, m, u, h2.at_, h2.lit, n1, r2⟩, ret_fz q2 zr.rl (r3 _)⟩
  · exact f1.elim
theorem m1_pe {m : M1} {ma mb : Env → R Z} {ea eb : Expr} {nm : Str} {ap cp : Pos} (hn : nm = m1N m) (hl : (ap.endLine == cp.line) = true) (hc : notCall ea = true) (hs : ∀ env : PySem.Env, starEach [eb] env = [(false, eval eb env)]) (ha : PE X ea (tE X B W₀ ma)) (hb : PE X eb (tE X B W₀ mb)) :
    PE X (.Call (.Attribute ea nm ap) [eb] [] cp) (tE X B W₀ fun ρ => (ma ρ).bind fun za ρ1 => match za.dat with
      | .str s => (mb ρ1).bind fun zb ρ2 => m1F m s zb ρ2
      | _ => .bad) := by
  have hbase : attributeBase ea nm X.env (eval ea X.env) = eval ea X.env := by cases ea <;> first | (simp [notCall] at hc; done) | rfl
  have pa : PA X [eb] (tCons (tE X B W₀ mb) tNil) := pa_cons hb pa_nil (hs _)
  have go : ∀ {r : V → List V → Hp → VK → Prop}, PE X (.Call (.Attribute ea nm ap) [eb] [] cp) (tBM X.K "str" r (tE X B W₀ ma) (tCons (tE X B W₀ mb) tNil)) →
      (∀ {F H : Hp} {T : List (V × W)} {σ : St} {ρ : Env} {Q : VK} {va vb : V} {za zb : Z}, ZV X B T σ za ρ va F H → ZV X B T σ zb ρ vb F H → RL X B F H T σ ρ → FinA X B W₀ T σ (ZR X B T σ) Q (ofO (m1D m za.dat zb.dat) ρ) → r va [vb] H Q) →
      PE X (.Call (.Attribute ea nm ap) [eb] [] cp) (tE X B W₀ fun ρ => (ma ρ).bind fun za ρ1 => match za.dat with
      | .str s => (mb ρ1).bind fun zb ρ2 => m1F m s zb ρ2
      | _ => .bad) := fun key h0 => PE.mono key fun σ H Q ⟨F, T, ρ, r, f⟩ => ⟨F, T, ρ, r, fin_bind0 f fun za ρ1 va F1 H1 zr f1 => by
    have rd := zr.rd
    split at f1
    · rename_i s e
      rw [e] at rd
      have q := rd.strV
      subst q
      refine ⟨rfl, F1, T, ρ1, zr.rl, fin_bind0 f1 fun zb ρ2 vb F2 H2 zr2 f2 => ?_⟩
      have z1 : ZR X B T σ (.w (.fz (.str s))) ρ2 (.str s) F2 H2 := ⟨rfl, zr2.rl.addfz (.str s)⟩
      exact h0 (T := T) (za := .w (.fz (.str s))) z1.zv zr2.zv zr2.rl f2
    · exact f1.elim⟩
  have hfew : ((backTo cp (starEach [eb] X.env)).all (fun x => !x.1) && (backToKw cp (keywordEach [] X.env)).all (fun x => x.1.isSome)
      && decide ([eb].length + ([] : List Keyword).length + (if ([] : List Keyword).isEmpty then 0 else 1) < 30)) = true := by rw [hs]; rfl
  cases m with
  | join =>
    subst hn
    exact go (pe_bm F.plainAttrs_str F.slot_str_join F.type_str_join mt_join ha pa hbase hfew hl (hs _) rfl) fun h1 h2 h3 h4 => join_ok h1 h2 h3 h4
  | split =>
    subst hn
    exact go (pe_bm F.plainAttrs_str F.slot_str_split F.type_str_split mt_split ha pa hbase hfew hl (hs _) rfl) fun h1 h2 h3 h4 => split_ok h1 h2 h3 h4
end
end Co

set_option Elab.async false
set_option linter.all false
set_option maxRecDepth 100000
set_option maxHeartbeats 4000000
namespace Co
open PySem PySem.Spec PyProof.Rows L2
/-! ### enumerate over a tuple -/
theorem enum1_new {v : Value} {obj : Obj} {Hh : Heap → Prop} (Bg : Begins v obj Hh) :
    Meets (Builtin.«enumerate.__new__» ⟨[.type "enumerate", v], []⟩) (fun _ R sh => Hh sh.heap ∧
      R (.ok (.ret (.ref (sh.heap.push obj).objs.size))) { sh with heap := (sh.heap.push obj).push { cls := .type "enumerate", data := .fields #[.none, .bool false, .ref sh.heap.objs.size, rawInt 0, .none, .none] } }) :=
  .of_wp fun prog w A R sh hyp => by
    obtain ⟨h0, gs, dr, tk, oss⟩ := sh
    obtain ⟨hh, hr⟩ := hyp
    have sub0 := sub_enumerate
    have it0 : ∀ {A' : Around} {E : Value → Shared → Prop} {Q : Value → Shared → Prop}, Q (.ref h0.objs.size) ⟨h0.push obj, gs, dr, tk, oss⟩ → wpAny (model prog w) A' (pyIter v) Q E ⟨h0, gs, dr, tk, oss⟩ :=
      fun q => Bg.iter prog w _ _ ⟨h0, gs, dr, tk, oss⟩ _ hh q
    wp_walk using it0
    refine wpAny_stack_any fun st => wpAny_pure ?_
    split
    · rename_i cc _ _ _ _ _
      cases (cc == Value.type "enumerate") <;> (wp_walk using it0; exact ⟨_, rfl, hr⟩)
    · wp_walk using it0
      exact ⟨_, rfl, hr⟩
end Co
namespace Co
open PySem PySem.Spec PyProof.Rows L2
theorem enum1_call {prog : Program} {w : World} {A : Around} {E : Value → Shared → Prop} {sh : Shared} {v : Value} {obj : Obj} {Hh : Heap → Prop} {Q : Value → Shared → Prop} (Bg : Begins v obj Hh) (hh : Hh sh.heap)
    (k : ∀ h2, IsEnum h2 (sh.heap.objs.size + 1) sh.heap.objs.size 0 .none → h2.get? sh.heap.objs.size = some obj → (∀ b o, sh.heap.get? b = some o → h2.get? b = some o) → Q (.ref (sh.heap.objs.size + 1)) { sh with heap := h2 }) :
    wpAny (model prog w) A (call (.type "enumerate") [v]) Q E sh := by
  refine callType_new F.called_enumerate (by decide) (F.typeCall_enumerate_1 _) (F.newCall_enumerate_1 _) (fun ob => F.args_object_init_2 ob _) F.entry_enumerate_new (enum1_new Bg) ⟨hh, ?_⟩
  have sz : (sh.heap.push obj).objs.size = sh.heap.objs.size + 1 := Heap.size_push ..
  show _ ∧ _
  rw [sz]
  generalize eo : ({ cls := .type "enumerate", data := .fields #[.none, .bool false, .ref sh.heap.objs.size, rawInt 0, .none, .none] } : Obj) = en
  have he : ((sh.heap.push obj).push en).get? (sh.heap.objs.size + 1) = some en := by
    have z := Heap.get?_push_size (sh.heap.push obj) (o := en) (by rw [← eo]; rfl)
    rw [sz] at z
    exact z
  have he2 : IsEnum ((sh.heap.push obj).push en) (sh.heap.objs.size + 1) sh.heap.objs.size 0 .none := by rw [← eo] at he ⊢; exact he
  exact ⟨⟨_, he, by rw [← eo]⟩, k _ he2 (Heap.get?_push_of_some _ (Heap.get?_push_size _ Bg.free)) fun b o x => Heap.get?_push_of_some _ (Heap.get?_push_of_some _ x)⟩
end Co
namespace Co
open PySem PySem.Spec PyProof.Rows L2
/-- the tuple at a at each turn, each item in a new pair -/
def IteT (K : PySem.W.Frag) (a : Addr) : It :=
  ⟨fun i H => ∃ (xs : List V) (x : V), SqT K H a xs ∧ xs[i]? = some x,
   fun i H v H' => ∃ T x, v = .ref T ∧ H T = none ∧ H' = upd H T (.tup [.int (i : Nat), x]) ∧ ∀ xs, SqT K H a xs → xs[i]? = some x,
   fun i H => ∃ xs : List V, SqT K H a xs ∧ xs.length ≤ i⟩
theorem tup_apart {h : Heap} {it a : Addr} {i : Nat} {b : Addr} {its : Array Value} (h1 : h.IsTupleIter it b i) (h2 : h.IsTuple a its) : a ≠ it := by
  rintro rfl
  obtain ⟨o1, e1, c1, _⟩ := h1
  obtain ⟨o2, e2, c2, _⟩ := h2
  rw [e1] at e2
  cases e2
  rw [c1] at c2
  revert c2
  decide
theorem turn_enumT {P : Program} {w : World} {K : PySem.W.Frag} {elts : List Expr} {kk : Nat} {tpos : Pos} (a e it : Addr) :
    Turn P w K (.Tuple elts kk tpos) (IteT K a) [e, it] e (fun i h => (∃ old, IsEnum h e it ((i : Nat) : Int) old) ∧ h.IsTupleIter it a i ∧ e ≠ it) where
  mem := List.mem_cons_self
  obj := by
    rintro i h ⟨⟨old, he⟩, ⟨oi, hoi, _, hdi⟩, _⟩ b hb
    rcases List.mem_cons.mp hb with rfl | hb
    · exact ⟨_, he, fun v q => nomatch q⟩
    · rw [List.mem_singleton.mp hb]
      exact ⟨oi, hoi, fun v q => by rw [hdi] at q; cases q⟩
  keep := by
    rintro i h h' ⟨⟨old, he⟩, hi, hne⟩ k
    exact ⟨⟨old, k e List.mem_cons_self _ he⟩, hi.at fun o q => k it (List.mem_cons_of_mem _ List.mem_cons_self) o q, hne⟩
  item := by
    intro X hP hw hK hc i pins s σ H E I hf st hg
    subst hP hw hK
    obtain ⟨⟨old, he⟩, hit, hne⟩ := st
    obtain ⟨xs, x, hq, hx⟩ := hg
    obtain ⟨its, rv, p, hz⟩ := I.tuple hq
    obtain ⟨u, hu, ru⟩ := rv.get hx
    have p' : s.heap.IsTuple a its.toArray := p
    have hai := tup_apart hit p'
    have le : e < s.heap.objs.size := Heap.lt_size he
    have lit : it < s.heap.objs.size := by obtain ⟨_, q, _⟩ := hit; exact Heap.lt_size q
    have hea : e ≠ a := by
      rintro rfl
      obtain ⟨o2, e2, c2, _⟩ := p'
      rw [he] at e2
      cases e2
      have c3 : (Value.type "enumerate" : Value) = .type "tuple" := c2
      exact absurd c3 (by decide)
    have Dr := Draws.tuple (prog := X.prog) (w := X.w) (A := (X.A.in1)) (I.ok.hd hc) it a hai its.toArray
    have hu' : its.toArray[i]? = some u := by simpa using hu
    have hlt : i < its.toArray.size := by
      by_cases c : i < its.toArray.size
      · exact c
      · rw [Array.getElem?_eq_none (by omega)] at hu'; cases hu'
    refine wpAny_pyNext_enum_itemD Dr he (s := s) ⟨hit, p'⟩ hlt hne (fun z => by rcases List.mem_cons.mp z with z | z; exact hne z; exact hea (List.mem_singleton.mp z)) fun v h2 tk hv hout hst2 hT _ hk => ?_
    have ev : v = u := by
      have hv : its.toArray[i]? = some v := hv
      rw [hu'] at hv
      exact (Option.some.inj hv).symm
    subst ev
    refine ⟨_, rfl, wpAny_letOwnedTupleGo_enum (s := { s with heap := h2, toks := tk + 1 }) hout fun h3 he3 sb => ?_⟩
    have hT3 : h3.get? s.heap.objs.size = some { cls := .type "tuple", data := .seq #[.int i tk, v] } := (sb.2 _ (Nat.ne_of_gt le)).trans hT
    have obn : ObjOk X.prog X.w (upd H s.heap.objs.size (.tup [.int (i : Nat), x])) h3 s.heap.objs.size (.tup [.int (i : Nat), x]) :=
      ⟨by show 2 ≤ sizeLine; decide, [.int i tk, v], .cons ⟨_, rfl⟩ (.cons ru .nil), ⟨_, hT3, rfl, _, rfl⟩⟩
    have other : ∀ b ob, b ∉ ([e, it] : List Addr) → s.heap.get? b = some ob → h3.get? b = some ob := fun b ob hb q => by
      have b1 : b ≠ e := fun z => hb (by rw [z]; exact List.mem_cons_self)
      have b2 : b ≠ it := fun z => hb (by rw [z]; exact List.mem_cons_of_mem _ List.mem_cons_self)
      exact (sb.2 b b1).trans (hk b ob b1 b2 q)
    have I3 : Inv X pins σ (upd H s.heap.objs.size (.tup [.int (i : Nat), x])) { s with heap := h3, toks := tk + 1 } := I.turnedNew (ch := [e, it]) other hf (Nat.le_refl _) obn
    refine ⟨.ref s.heap.objs.size, _, I3, rfl, ⟨_, x, rfl, I.hok.fresh (Nat.le_refl _), rfl, fun ys hy => by rw [I.tuple_inj hy hq]; exact hx⟩, ⟨⟨v, ?_⟩, hst2.1.at fun o q => (sb.2 it (Ne.symm hne)).trans q, hne⟩, fun b hb => ?_⟩
    · rw [show ((i + 1 : Nat) : Int) = (i : Int) + 1 by omega]
      exact he3
    · have lb : b < s.heap.objs.size := by
        rcases List.mem_cons.mp hb with rfl | hb
        · exact le
        · rw [List.mem_singleton.mp hb]; exact lit
      rw [upd_ne (Nat.ne_of_lt lb)]
      exact (hf b hb).1
  done := by
    intro X hP hw hK hc i pins s σ H E I hf st hg
    subst hP hw hK
    obtain ⟨⟨old, he⟩, hit, hne⟩ := st
    obtain ⟨xs, hq, hx⟩ := hg
    obtain ⟨its, rv, p, hz⟩ := I.tuple hq
    have p' : s.heap.IsTuple a its.toArray := p
    have ln := rv.length
    obtain ⟨f0, f1, f2, f3, f4, f5⟩ := hf it (List.mem_cons_of_mem _ List.mem_cons_self)
    have Dr : Draws X.prog X.w X.A.in1 it [it, a] i (fun _ _ => False) (fun j h => h.IsTupleIter it a j ∧ h.IsTuple a its.toArray ∧ j = i) :=
      { live := fun _ _ st => let ⟨o, ho, _⟩ := st.1; ⟨o, ho⟩
        frame := fun _ _ _ st hk => ⟨st.1.at fun o z => hk it (by simp) o z, st.2.1.at fun o z => hk a (by simp) o z, st.2.2⟩
        item := fun j _ _ _ hj st _ => absurd st.2.2 (Nat.ne_of_lt hj)
        done := fun sh Q E st hE => wpAny_nextOf_tuple_end (I.ok.hd hc) st.1 st.2.1 (by simp; omega) hE }
    exact wpAny_pyNext_enum_endD Dr he ⟨hit, p', rfl⟩ fun h2 eb => ⟨rfl, I.turned (t' := s.toks) (fun b o hb q => eb b o hb q) f0 f1 f3 f4 f5⟩
  self := fun A i s Q E st h => let ⟨⟨_, he⟩, _⟩ := st; wpAny_pyIter_enum he h
end Co
namespace Co
open PySem PySem.Spec PyProof.Rows L2
def iEnumA (K : PySem.W.Frag) (ta : TA) : TI := fun σ H R => ta σ H fun vs H1 => ∃ a xs, vs = [.ref a] ∧ ((SqL K H1 a xs ∧ R (Ite K a) H1) ∨ (SqT K H1 a xs ∧ R (IteT K a) H1))
theorem pi_enumA {X : Cx} {e : Expr} {ta : TA} {p pos tpos : Pos} {elts : List Expr} {kk : Nat} (hg : Gl X "enumerate") (hm : X.mg "enumerate" = none) (ha : PA X [e] ta) (hs : starEach [e] X.env = [(false, eval e X.env)]) :
    PI X (.Tuple elts kk tpos) (.Call (.Name "enumerate" p) [e] [] pos) (iEnumA X.K ta) := by
  refine ⟨fun pins s σ H R I w => ?_⟩
  refine Call_ (ld_blt I hg hm boot_enumerate (PyProof.Rows.callWith_type1 (thn (ha.run pos pins s σ H _ I w) fun us s1 ⟨vs, H1, I1, r1, a, xs, ex, q⟩ => ?_) hs rfl))
  subst ex
  cases r1 with
  | cons r rr =>
    cases rr
    cases r
    have fpk : ∀ b ∈ ([s1.heap.objs.size + 1, s1.heap.objs.size] : List Addr), FpOk X pins H1 b := fun b hb => by
      have le : s1.heap.objs.size ≤ b := by
        rcases List.mem_cons.mp hb with z | z
        · rw [z]; exact Nat.le_add_right _ _
        · rw [List.mem_singleton.mp z]; exact Nat.le_refl _
      exact I1.fpOk le (I1.hok.fresh le)
    rcases q with ⟨hq, q⟩ | ⟨hq, q⟩
    · obtain ⟨its, rv, pl, _⟩ := I1.list hq
      refine enum1_call (begins_list a its.toArray) pl.isList fun h2 he hit hk => wpAny_pyIter_enum he ?_
      have I2 : Inv X pins σ H1 { s1 with heap := h2 } := I1.kept (t' := s1.toks) hk
      exact ⟨s1.heap.objs.size + 1, [s1.heap.objs.size + 1, s1.heap.objs.size], _, _, H1, rfl, I2, turn_enum a (s1.heap.objs.size + 1) s1.heap.objs.size, ⟨⟨.none, he⟩, ⟨_, hit, rfl, rfl⟩, Nat.succ_ne_self _⟩, fpk, q⟩
    · obtain ⟨its, rv, pl, _⟩ := I1.tuple hq
      refine enum1_call (begins_tuple a its.toArray) pl fun h2 he hit hk => wpAny_pyIter_enum he ?_
      have I2 : Inv X pins σ H1 { s1 with heap := h2 } := I1.kept (t' := s1.toks) hk
      exact ⟨s1.heap.objs.size + 1, [s1.heap.objs.size + 1, s1.heap.objs.size], _, _, H1, rfl, I2, turn_enumT a (s1.heap.objs.size + 1) s1.heap.objs.size, ⟨⟨.none, he⟩, ⟨_, hit, rfl, rfl⟩, Nat.succ_ne_self _⟩, fpk, q⟩
end Co

set_option Elab.async false
set_option linter.all false
set_option maxRecDepth 100000
set_option maxHeartbeats 6400000
namespace Co
open PySem PySem.Spec PyProof.Rows L2
/-! ### set(a list of ints), then sorted -/
abbrev set0 (w : World) : Obj := { cls := .type "set", dict := none, data := .set #[] 0 (.fresh 0 0 (!w.params.followText "set-order")) }
section
variable {P : Program} {w : World} {A : Around} {E : Value → Shared → Prop} {sh : Shared}
/-- what set(l) leaves -/
def SetMade (w : World) (sh : Shared) (ns : List Int) (s2 : Shared) : Prop :=
  ∃ h2 tk c, s2 = { sh with heap := h2, toks := tk } ∧ SetR w h2 sh.heap.objs.size (fun j => decide (j ∈ ns)) c ∧ c ≤ ns.length ∧ ∀ b o, sh.heap.get? b = some o → h2.get? b = some o
theorem set_list_init {l : Addr} {its : Array Value} (ns : List Int) (nh : A.handled = none) (il : sh.heap.IsList l its) (ii : IntsAre its.toList ns) (bd : ns.length + 1 < scanBound) {R : Result → Shared → Prop}
    (hR : ∀ s2, SetMade w sh ns s2 → R (.ok (.ret .none)) s2) :
    wpAny (model P w) A.in1 (Builtin.«set.__init__» ⟨[.ref sh.heap.objs.size, .ref l], []⟩) (fun fin s2 => match fin with
      | .done f => R (.ok f) s2
      | .again c' => c'.quiet = true ∧ codeAny (model P w) A c' R s2) (fun e s2 => R (.error e) s2) { sh with heap := sh.heap.push (set0 w) } := by
  have lsz : its.size = ns.length := by
    have z := IntsAre.length ii
    rw [Array.length_toList] at z
    exact z
  have atS : (sh.heap.push (set0 w)).get? sh.heap.objs.size = some (set0 w) := Heap.get?_push_size _ rfl
  obtain ⟨ol, gl, cl0, nl, dl⟩ := il
  obtain ⟨oc, od, odt, osl⟩ := ol
  simp only at cl0 dl
  subst cl0 dl
  have gl1 : (sh.heap.push (set0 w)).get? l = some { cls := .type "list", dict := od, data := .seq its nl, slots := osl } := Heap.get?_push_of_some _ gl
  have s1 := F.sub_list_set
  have s2 := F.sub_list_frozenset
  have s3 : (Value.type "list" == Value.type "dict") = false := by decide
  have isL : (sh.heap.push (set0 w)).IsList l its := ⟨_, gl1, rfl, nl, rfl⟩
  unfold Builtin.«set.__init__» noKeywords Builtin.Frozenset.updateFrom
  generalize hIt : pyIter = It
  wp_walk
  subst hIt
  refine wpAny_pyIter_list isL (wpAny_bind (wpAny_runValue ?_))
  have lltS : l < sh.heap.objs.size := Heap.lt_size gl
  have nh3 : A.in1.in1.handled = none := by simp [nh]
  have sz1 : (sh.heap.push (set0 w)).objs.size = sh.heap.objs.size + 1 := Heap.size_push ..
  have lne : l ≠ (sh.heap.push (set0 w)).objs.size := by rw [sz1]; exact Nat.ne_of_lt (Nat.lt_succ_of_lt lltS)
  have nfp : sh.heap.objs.size ∉ [(sh.heap.push (set0 w)).objs.size, l] := by
    rw [sz1]
    intro z
    rcases List.mem_cons.mp z with z | z
    · exact Nat.ne_of_lt (Nat.lt_succ_self _) z
    · exact Nat.ne_of_gt lltS (List.mem_singleton.mp z)
  have vals : ∀ (i : Nat) (v : Value), its[i]? = some v → ∃ k t, ns[i]? = some k ∧ v = .int k t := fun i v hv => by
    have li : i < ns.length := by rw [← lsz]; exact (Array.getElem?_eq_some_iff.mp hv).1
    obtain ⟨t, z⟩ := PyProof.Rows.IntsAre.int_at ii i v (by rw [Array.getElem?_toList]; exact hv)
    exact ⟨ns[i], t, List.getElem?_eq_getElem li, by rw [z, List.getD_eq_getElem?_getD, List.getElem?_eq_getElem li] <;> rfl⟩
  refine set_update_ints ((Walks.list nh3 _ l lne its).toS) sh.heap.objs.size nfp ns lsz bd vals (its.size - 0) 0 _ (by omega) (Nat.zero_le _) ?hy ?hz fun s9 c9 mv lc9 S9 => ?_
  case hy => exact ⟨⟨_, Heap.get?_push_size _ rfl, rfl, rfl⟩, isL.push _⟩
  case hz =>
    have g2 : ((sh.heap.push (set0 w)).push { cls := .type "list_iterator", data := .fields #[.ref l, .int 0 0] }).get? sh.heap.objs.size = some (set0 w) := Heap.get?_push_of_some _ atS
    exact ⟨0, Nat.le_refl 0, setR_new_at g2⟩
  obtain ⟨h9, g9, d9, t9, o9⟩ := s9
  have eg : g9 = sh.gens := mv.gens
  have ed : d9 = sh.drawn := mv.drawn
  have eo : o9 = sh.os := mv.os
  subst eg ed eo
  show wpAny _ _ _ _ _ _
  refine wpAny_pure ?_
  show wpAny _ _ (ret Value.none) _ _ _
  rw [lsz] at lc9
  refine wpAny_pure (hR _ ⟨h9, t9, c9, rfl, S9, lc9, fun b o e => ?_⟩)
  have b0 : b < sh.heap.objs.size := Heap.lt_size e
  refine mv.heap b o (fun z => ?_) (Heap.get?_push_of_some _ (Heap.get?_push_of_some _ e))
  rcases List.mem_cons.mp z with z | z
  · exact Nat.ne_of_lt b0 z
  · have z := List.mem_singleton.mp z
    rw [sz1] at z
    exact Nat.ne_of_lt (Nat.lt_succ_of_lt b0) z
theorem set_list_call {l : Addr} {its : Array Value} (ns : List Int) {Q : Value → Shared → Prop} (nh : A.handled = none) (il : sh.heap.IsList l its) (ii : IntsAre its.toList ns) (bd : ns.length + 1 < scanBound)
    (k : ∀ s2, SetMade w sh ns s2 → Q (.ref sh.heap.objs.size) s2) : wpAny (model P w) A (call (.type "set") [.ref l]) Q E sh := by
  obtain ⟨c0, tl0, mro0⟩ := F.called_set.mro
  have made0 := F.called_set.made
  have sub0 := F.called_set.sub
  refine wpAny_call (codeAny_of_tree ?_)
  show wpAny _ _ (callAny (.type "set") _) _ _ _
  refine wpAny_pure ⟨Code.quiet_builtin _ (by decide +kernel), codeAny_builtin F.entry_type_call ?_⟩
  rw [Around.under_plain (weight_type_call_type "set" [.ref l] []) rfl]
  have nt0 := F.called_set.notType
  have cc0 := F.called_set.canCreate
  have tc0 := F.typeCall_set_1 (.ref l)
  repeat (any_goals (first | assumption | wp_step))
  refine codeAny_mono (code_set_led1 (.ref l) (E := E) (Q₁ := fun ob s1 => ob = .ref sh.heap.objs.size ∧ s1 = { sh with heap := sh.heap.push (set0 w) }) ⟨rfl, rfl⟩) fun r s1 hr => ?_
  cases r with
  | error e => exact hr
  | ok fl =>
    cases fl with
    | next => exact hr.elim
    | brk => exact hr.elim
    | cont => exact hr.elim
    | ret ob =>
      obtain ⟨rfl, rfl⟩ := hr
      have atS : (sh.heap.push (set0 w)).get? sh.heap.objs.size = some (set0 w) := Heap.get?_push_size _ rfl
      have ty0 : Shared.TypeIs { sh with heap := sh.heap.push (set0 w) } (.ref sh.heap.objs.size) "set" := ⟨_, atS, rfl⟩
      have li0 := F.called_set.init.lookup
      have bi0 := F.called_set.init.bind (.ref sh.heap.objs.size)
      repeat (any_goals (first | assumption | wp_step))
      refine codeAny_mono (codeAny_call_builtin (R := fun r s2 => r = .ok (.ret .none) ∧ SetMade w sh ns s2) F.called_set.init.plain F.entry_set_init (check_set_init_1 ty0 ?_)) fun r2 s2 hr2 => ?_
      · exact set_list_init (R := fun r s2 => r = .ok (.ret .none) ∧ SetMade w sh ns s2) (A := A.in1) ns (by simp [nh]) il ii bd fun s2 m => ⟨rfl, m⟩
      obtain ⟨rfl, m⟩ := hr2
      repeat (any_goals (first | assumption | wp_step))
      exact k _ m
end
end Co

set_option Elab.async false
set_option linter.all false
set_option maxRecDepth 100000
set_option maxHeartbeats 8000000
namespace Co
open PySem PySem.Spec PyProof.Rows L2
/-! ### sorted(set(..)) -/
theorem insU_mem (x : Int) : ∀ (ys : List Int) (z : Int), z ∈ insU x ys ↔ z = x ∨ z ∈ ys
  | [], z => by simp [insU]
  | y :: ys, z => by
    unfold insU
    split
    · simp
    · split
      · rename_i h; subst h; simp
      · rw [List.mem_cons, insU_mem x ys, List.mem_cons]
        constructor
        · rintro (h | h | h)
          · exact .inr (.inl h)
          · exact .inl h
          · exact .inr (.inr h)
        · rintro (h | h | h)
          · exact .inr (.inl h)
          · exact .inl h
          · exact .inr (.inr h)
theorem insU_pw (x : Int) : ∀ (ys : List Int), ys.Pairwise (· < ·) → (insU x ys).Pairwise (· < ·)
  | [], _ => by simp [insU]
  | y :: ys, h => by
    obtain ⟨h1, h2⟩ := List.pairwise_cons.mp h
    unfold insU
    split
    · rename_i c
      refine List.pairwise_cons.mpr ⟨fun z hz => ?_, h⟩
      rcases List.mem_cons.mp hz with e | e
      · rw [e]; exact c
      · exact Int.lt_trans c (h1 z e)
    · split
      · exact h
      · rename_i c1 c2
        refine List.pairwise_cons.mpr ⟨fun z hz => ?_, insU_pw x ys h2⟩
        rcases (insU_mem x ys z).mp hz with e | e
        · rw [e]; omega
        · exact h1 z e
theorem sset_mem : ∀ (ns : List Int) (z : Int), z ∈ ssetI ns ↔ z ∈ ns
  | [], z => Iff.rfl
  | n :: ns, z => by
    show z ∈ insU n (ssetI ns) ↔ _
    rw [insU_mem, sset_mem ns, List.mem_cons]
theorem sset_pw : ∀ ns : List Int, (ssetI ns).Pairwise (· < ·)
  | [] => List.Pairwise.nil
  | n :: ns => insU_pw n _ (sset_pw ns)
theorem pw_ext : ∀ (xs ys : List Int), xs.Pairwise (· < ·) → ys.Pairwise (· < ·) → (∀ z, z ∈ xs ↔ z ∈ ys) → xs = ys
  | [], [], _, _, _ => rfl
  | [], y :: ys, _, _, h => by have := (h y).mpr List.mem_cons_self; cases this
  | x :: xs, [], _, _, h => by have := (h x).mp List.mem_cons_self; cases this
  | x :: xs, y :: ys, h1, h2, h => by
    obtain ⟨a1, a2⟩ := List.pairwise_cons.mp h1
    obtain ⟨b1, b2⟩ := List.pairwise_cons.mp h2
    have e : x = y := by
      rcases List.mem_cons.mp ((h x).mp List.mem_cons_self) with q | q
      · exact q
      · have q1 := b1 x q
        rcases List.mem_cons.mp ((h y).mpr List.mem_cons_self) with q2 | q2
        · exact q2.symm
        · have := a1 y q2
          omega
    subst e
    rw [pw_ext xs ys a2 b2 fun z => ?_]
    constructor
    · intro hz
      rcases List.mem_cons.mp ((h z).mp (List.mem_cons_of_mem _ hz)) with q | q
      · have := a1 z hz
        omega
      · exact q
    · intro hz
      rcases List.mem_cons.mp ((h z).mpr (List.mem_cons_of_mem _ hz)) with q | q
      · have := b1 z hz
        omega
      · exact q
theorem nodup_le : ∀ (l m : List Int), l.Nodup → (∀ x ∈ l, x ∈ m) → l.length ≤ m.length
  | [], m, _, _ => Nat.zero_le _
  | x :: l, m, h, hs => by
    obtain ⟨h1, h2⟩ := List.nodup_cons.mp h
    have hx : x ∈ m := hs x List.mem_cons_self
    have := nodup_le l (m.erase x) h2 fun z hz => (List.mem_erase_of_ne (fun e : z = x => h1 (by rw [← e]; exact hz))).mpr (hs z (List.mem_cons_of_mem _ hz))
    have e := List.length_erase_of_mem hx
    have : 0 < m.length := List.length_pos_of_mem hx
    simp only [List.length_cons]
    omega
theorem setR_len {w : World} {h : Heap} {a : Addr} {ns : List Int} {c : Nat} (r : SetR w h a (fun j => decide (j ∈ ns)) c) : c = (ssetI ns).length := by
  obtain ⟨o, es, ep, t, _, _, _, _, nd, mm, _, _, sz, _⟩ := r
  have mm' : ∀ k, k ∈ ssetI ns ↔ k ∈ es.toList.map keyOf := fun k => by
    rw [sset_mem, ← mm k]
    simp
  have sn : (ssetI ns).Nodup := (sset_pw ns).imp fun h => by omega
  have l1 := nodup_le _ _ nd fun x hx => (mm' x).mpr hx
  have l2 := nodup_le _ _ sn fun x hx => (mm' x).mp hx
  have e1 : (es.toList.map keyOf).length = c := by rw [List.length_map, Array.length_toList]; exact sz
  omega
def rSetL (K : PySem.W.Frag) (w : World) : List V → Hp → VK → Prop := fun vs H Q => ∃ (a : Addr) (ns : List Int), vs = [V.ref a] ∧ SqL K H a (ns.map V.int) ∧ ns.length + 1 < scanBound ∧
  ∀ p, H p = none → Q (.ref p) (upd H p (SetO w p (fun j => decide (j ∈ ns)) (ssetI ns).length))
theorem call_setL {X : Cx} (hc : X.calm = true) : CallR X (.type "set") (rSetL X.K X.w) := by
  intro pins s σ H vs us Q I r hh
  obtain ⟨a, ns, rfl, hq, bd, q⟩ := hh
  rw [Vals.ref1 r]
  obtain ⟨its, rv, pl, _⟩ := I.list hq
  refine set_list_call ns (I.ok.hd hc) pl.isList (by simpa using RZ.intsAre_vals rv) bd fun s2 m => ?_
  obtain ⟨h2, tk, c, rfl, S, _, keep⟩ := m
  have ec := setR_len S
  subst ec
  have nn : H s.heap.objs.size = none := I.hok.fresh (Nat.le_refl _)
  have J : Inv X pins σ (upd H s.heap.objs.size (SetO X.w s.heap.objs.size (fun j => decide (j ∈ ns)) (ssetI ns).length)) { s with heap := h2, gens := s.gens, drawn := s.drawn, toks := tk } :=
    I.call (ch := []) (Un.laid keep (Nat.le_refl _) nn) (I.hok.laid keep (Nat.le_refl _) (setO_new S)) I.bare (fun _ z => nomatch z)
  exact ⟨.ref s.heap.objs.size, _, J, rfl, q _ nn⟩
section
variable {X : Cx} {B : Ba} {W₀ : WX} {n : Nm} {k : Nat} {cf : CF} {g : G}
theorem sset_pe (y : Hy X B W₀ n k cf g) {ea : Expr} {x z : Str} {p p2 pos pos2 : Pos} {m : Env → R Z} (hx : gB n "sorted" x = true) (hz : gB n "set" z = true) (hs : ∀ env : PySem.Env, starEach [ea] env = [(false, eval ea env)]) (h : PE X ea (tE X B W₀ m)) :
    PE X (.Call (.Name x p) [.Call (.Name z p2) [ea] [] pos2] [] pos) (tE X B W₀ fun ρ => (m ρ).bind fun za ρ1 => ofO (ssetD za.dat) ρ1) := by
  obtain ⟨e, g1, d1, d2⟩ := gB_inv hx
  subst e
  obtain ⟨e, g3, d3, d4⟩ := gB_inv hz
  subst e
  have inner := pe_callTy (p := p2) (pos := pos2) (call_setL y.calm) (y.gl g3) (y.blt _ (by decide +kernel)) (by decide +kernel) (pa_cons h pa_nil (hs _)) (he := hs _) (hpl := rfl)
  refine PE.mono (pe_callB (cr_sortedSet y.calm) (y.gl g1) (y.blt _ (by decide +kernel)) (by decide +kernel) (pa_cons inner pa_nil rfl)) fun σ H Q ⟨F, T, ρ, r, f⟩ => ⟨F, T, ρ, r, fin_bind0 f fun za ρ1 v F1 H1 zr f1 => ?_⟩
  obtain ⟨wv, e, f2⟩ := ofO_fin f1
  have rd := zr.rd
  have rl := zr.rl
  generalize za.dat = d at e rd
  cases d <;> first | (cases e; done) | skip
  rename_i ds
  obtain ⟨a, xs, rfl, sa, ra⟩ := rd.lstV
  cases q : intsD ds with
  | none => simp [ssetD, q] at e
  | some ns =>
    rw [intsD_rps ra q] at sa
    simp only [ssetD, q, Option.bind_some] at e
    split at e
    · rename_i hb
      rw [Bool.and_eq_true] at hb
      obtain ⟨b1, b2⟩ := hb
      have b1 := of_decide_eq_true b1
      have b2 := of_decide_eq_true b2
      cases e
      refine ⟨a, ns, rfl, sa, by unfold scanBound; omega, fun p0 hp0 => ?_⟩
      refine ⟨p0, _, _, rfl, (if_pos rfl : upd H1 p0 _ p0 = _), b2, fun ms p1 pw mem hl hp1 => ?_⟩
      have em : ms = ssetI ns := pw_ext ms _ pw (sset_pw ns) fun z => by rw [mem z, sset_mem]; simp
      subst em
      have rps : Rps X.K F1 ((ssetI ns).map V.int) ((ssetI ns).map PyData.int) := by
        induction (ssetI ns) with
        | nil => exact .nil
        | cons i is ih => exact .cons (.int i) ih
      exact ret_new f2 (rl.grow hp0) hp1 rps
    · cases e
end
end Co

set_option Elab.async false
set_option linter.all false
set_option maxRecDepth 100000
set_option maxHeartbeats 8000000
namespace Co
open PySem PySem.Spec PyProof.Rows L2
/-! ### what is walked -/
def ItOk (K : PySem.W.Frag) (J : It) (ds : List D) (TT : List (V × W)) : Prop := ∀ (B : Ba) (F H : Hp) (T : List (V × W)) (σ : St) (ρ : Env) (i : Nat), Rel K B F H (TT ++ T) σ ρ →
  (ds.length ≤ i → J.stop i H) ∧ ∀ d, ds[i]? = some d → J.go i H ∧ ∀ x H', J.yld i H x H' → ∃ F', Rel K B F' H' ((x, .fz d) :: (TT ++ T)) σ ρ
section
variable (X : Cx) (B : Ba) (W₀ : WX)
def IR (T : List (V × W)) (σ : St) (ds : List D) (ρ : Env) (J : It) (F H : Hp) : Prop := ∃ TT, ItOk X.K J ds TT ∧ RL X B F H (TT ++ T) σ ρ
def tI (m : Env → R (List D)) : TI := fun σ H Q => ∃ F T ρ, RL X B F H T σ ρ ∧ FinA X B W₀ T σ (IR X B T σ) Q (m ρ)
end
section
variable {X : Cx} {B : Ba} {W₀ : WX} {n : Nm} {k : Nat} {cf : CF} {g : G} {F H : Hp} {T M : List (V × W)} {σ : St} {ρ ρ1 : Env}
theorem PI.mono {tg e : Expr} {t t' : TI} (h : PI X tg e t) (q : ∀ σ H Q, t' σ H Q → t σ H Q) : PI X tg e t' := ⟨fun pins s σ H Q I w => h.run pins s σ H Q I (q σ H Q w)⟩
/-- a list, a tuple, a str -/
def iSeq (K : PySem.W.Frag) (tl : TE) : TI := fun σ H R => tl σ H fun x H1 => (∃ a, x = .ref a ∧ (∃ xs, SqL K H1 a xs) ∧ R (Itl K a) H1) ∨ (∃ a, x = .ref a ∧ (∃ xs, SqT K H1 a xs) ∧ R (Itt K a) H1) ∨ ∃ z, x = .str z ∧ R (Its z) H1
theorem pi_seq {tg l : Expr} {tl : TE} (hl : PE X l tl) : PI X tg l (iSeq X.K tl) := by
  refine ⟨fun pins s σ H R I h => ?_⟩
  refine thn (hl.run pins s σ H _ I h) fun v s1 ⟨x, H1, I1, r1, q1⟩ => ?_
  rcases q1 with ⟨a, e, ⟨xs, hq⟩, q⟩ | ⟨a, e, ⟨xs, hq⟩, q⟩ | ⟨z, e, q⟩
  · subst e
    cases r1
    obtain ⟨its, rv, p, hz⟩ := I1.list hq
    exact wpAny_pyIter_list p.isList (pi_one (tk := s1.toks) I1 _ (turn_list a _) ⟨_, Heap.get?_push_size _ rfl, rfl, rfl⟩ q)
  · subst e
    cases r1
    obtain ⟨its, rv, p, hz⟩ := I1.tuple hq
    exact wpAny_pyIter_tuple (show s1.heap.IsTuple a its.toArray from p) (pi_one (tk := s1.toks) I1 _ (turn_tuple a _) ⟨_, Heap.get?_push_size _ rfl, rfl, rfl⟩ q)
  · subst e
    obtain ⟨t, rfl⟩ := r1
    cases ha : z.cps.all (· < 128)
    · exact wpAny_pyIter_wide ha (pi_one (tk := s1.toks) I1 _ (turn_str _ z t "str_iterator" (.inr rfl)) ⟨_, Heap.get?_push_size _ rfl, rfl, rfl⟩ q)
    · exact wpAny_pyIter_ascii ha (pi_one (tk := s1.toks) I1 _ (turn_str _ z t "str_ascii_iterator" (.inl rfl)) ⟨_, Heap.get?_push_size _ rfl, rfl, rfl⟩ q)
theorem rps_get {K : PySem.W.Frag} {F : Hp} : ∀ {ds : List D} {vs : List V} {i : Nat} {d : D}, Rps K F vs ds → ds[i]? = some d → ∃ v, vs[i]? = some v ∧ Rp K F v d
  | _, _, _, _, .nil, e => by simp at e
  | _, _, 0, _, .cons h _, e => by simp at e; subst e; exact ⟨_, rfl, h⟩
  | _, _, i + 1, _, .cons _ t, e => by
    obtain ⟨v, h1, h2⟩ := rps_get (i := i) t (by simpa using e)
    exact ⟨v, by simpa using h1, h2⟩
theorem rps_len {K : PySem.W.Frag} {F : Hp} : ∀ {ds : List D} {vs : List V}, Rps K F vs ds → vs.length = ds.length
  | _, _, .nil => rfl
  | _, _, .cons _ t => by simp [rps_len t]
theorem itl_ok {K : PySem.W.Frag} {a : Addr} {ds : List D} : ItOk K (Itl K a) ds [(.ref a, .fz (.list ds))] := fun B F H T σ ρ i r => by
  have rp : Rp K F (.ref a) (.list ds) := r.hd_fz
  obtain ⟨a', xs, e, hq, hs⟩ := (rp.mono r.sub).lstV
  cases e
  have hs' : Rps K H xs ds := hs
  refine ⟨fun l => ⟨xs, hq, by rw [rps_len hs]; exact l⟩, fun d ed => ?_⟩
  obtain ⟨a2, xs2, e2, hq2, hs2⟩ := rp.lstV
  cases e2
  obtain ⟨v, h1, h2⟩ := rps_get hs2 ed
  have hq3 : SqL K H a xs2 := by
    rcases hq2 with z | z
    · rcases z with z | z
      · exact .inl (.inl (r.sub _ _ z))
      · obtain ⟨o, z⟩ := z
        exact .inl (.inr ⟨o, r.sub _ _ z⟩)
    · exact .inr z
  refine ⟨⟨xs2, v, hq3, h1⟩, fun x H' hy => ?_⟩
  obtain ⟨e, hy⟩ := hy
  subst e
  have := hy xs2 hq3
  rw [h1] at this
  cases this
  exact ⟨F, r.addfz h2⟩
theorem itt_ok {K : PySem.W.Frag} {a : Addr} {ds : List D} : ItOk K (Itt K a) ds [(.ref a, .fz (.tuple ds))] := fun B F H T σ ρ i r => by
  have rp : Rp K F (.ref a) (.tuple ds) := r.hd_fz
  obtain ⟨a2, xs2, e2, hq2, hs2⟩ := rp.tupV
  cases e2
  have hq3 : SqT K H a xs2 := by
    rcases hq2 with z | z
    · rcases z with z | z
      · exact .inl (.inl (r.sub _ _ z))
      · obtain ⟨o, z⟩ := z
        exact .inl (.inr ⟨o, r.sub _ _ z⟩)
    · exact .inr z
  refine ⟨fun l => ⟨xs2, hq3, by rw [rps_len hs2]; exact l⟩, fun d ed => ?_⟩
  obtain ⟨v, h1, h2⟩ := rps_get hs2 ed
  refine ⟨⟨xs2, v, hq3, h1⟩, fun x H' hy => ?_⟩
  obtain ⟨e, hy⟩ := hy
  subst e
  have := hy xs2 hq3
  rw [h1] at this
  cases this
  exact ⟨F, r.addfz h2⟩
theorem its_ok {K : PySem.W.Frag} {z : Str} : ItOk K (Its z) (strD z) [] := fun B F H T σ ρ i r => by
  refine ⟨fun l => ?_, fun d ed => ?_⟩
  · show z.cps.size ≤ i
    simpa [strD] using l
  · unfold strD at ed
    rw [List.getElem?_map] at ed
    cases q : z.cps.toList[i]? with
    | none => rw [q] at ed; cases ed
    | some c =>
      rw [q] at ed
      cases ed
      have q' : z.cps[i]? = some c := by rw [Array.getElem?_toList] at q; exact q
      refine ⟨(Array.getElem?_eq_some_iff.mp q').1, fun x H' hy => ?_⟩
      obtain ⟨e, c', e1, e2⟩ := hy
      subst e
      rw [q'] at e1
      cases e1
      subst e2
      exact ⟨F, r.addfz (.str _)⟩
theorem itr_ok {K : PySem.W.Frag} {lo : Int} {m : Nat} : ItOk K (Itr lo m) (rngD lo 1 m) [] := fun B F H T σ ρ i r => by
  refine ⟨fun l => ?_, fun d ed => ?_⟩
  · show m ≤ i
    simpa [rngD] using l
  · unfold rngD at ed
    rw [List.getElem?_map] at ed
    cases q : (List.range m)[i]? with
    | none => rw [q] at ed; cases ed
    | some c =>
      rw [q] at ed
      obtain ⟨h1, h2⟩ := List.getElem?_eq_some_iff.mp q
      simp at h1 h2
      subst h2
      cases ed
      refine ⟨h1, fun x H' hy => ?_⟩
      obtain ⟨e, e2⟩ := hy
      subst e e2
      refine ⟨F, r.addfz ?_⟩
      show Rp K F (V.int (lo + i)) (.int (lo + i * 1))
      rw [Int.mul_one]
      exact .int _
theorem ite_ok {K : PySem.W.Frag} {a : Addr} {ds : List D} : ItOk K (Ite K a) (numD 0 ds) [(.ref a, .fz (.list ds))] := fun B F H T σ ρ i r => by
  have rp : Rp K F (.ref a) (.list ds) := r.hd_fz
  obtain ⟨a2, xs2, e2, hq2, hs2⟩ := rp.lstV
  cases e2
  have hq3 : SqL K H a xs2 := by
    rcases hq2 with z | z
    · rcases z with z | z
      · exact .inl (.inl (r.sub _ _ z))
      · obtain ⟨o, z⟩ := z
        exact .inl (.inr ⟨o, r.sub _ _ z⟩)
    · exact .inr z
  have num : ∀ (ds : List D) (m i : Nat), (numD m ds)[i]? = (ds[i]?).map fun d => .tuple [.int (m + i : Nat), d] := by
    intro ds
    induction ds with
    | nil => intro m i; simp [numD]
    | cons d ds ih =>
      intro m i
      cases i with
      | zero => simp [numD]
      | succ i =>
        show (numD (m + 1) ds)[i]? = _
        rw [ih]
        have : m + 1 + i = m + (i + 1) := by omega
        rw [this]
        simp
  have numl : ∀ (ds : List D) (m : Nat), (numD m ds).length = ds.length := by
    intro ds
    induction ds with
    | nil => intro m; rfl
    | cons d ds ih => intro m; simp [numD, ih]
  refine ⟨fun l => ⟨xs2, hq3, by rw [rps_len hs2, ← numl ds 0]; exact l⟩, fun d ed => ?_⟩
  rw [num] at ed
  cases q : ds[i]? with
  | none => rw [q] at ed; cases ed
  | some d' =>
    rw [q] at ed
    cases ed
    obtain ⟨v, h1, h2⟩ := rps_get hs2 q
    refine ⟨⟨xs2, v, hq3, h1⟩, fun x H' hy => ?_⟩
    obtain ⟨T1, x1, e, hT, eH, hy⟩ := hy
    have := hy xs2 hq3
    rw [h1] at this
    cases this
    subst e eH
    have z : (0 + i : Nat) = i := by omega
    rw [z]
    exact ⟨_, Rel.newTup r hT (.cons (.int _) (.cons h2 .nil))⟩
theorem num_get : ∀ (ds : List D) (m i : Nat), (numD m ds)[i]? = (ds[i]?).map fun d => .tuple [.int (m + i : Nat), d]
  | [], m, i => by simp [numD]
  | d :: ds, m, 0 => by simp [numD]
  | d :: ds, m, i + 1 => by
    show (numD (m + 1) ds)[i]? = _
    rw [num_get ds (m + 1) i]
    have : m + 1 + i = m + (i + 1) := by omega
    rw [this]
    simp
theorem num_len : ∀ (ds : List D) (m : Nat), (numD m ds).length = ds.length
  | [], m => rfl
  | d :: ds, m => by simp [numD, num_len ds]
theorem iteT_ok {K : PySem.W.Frag} {a : Addr} {ds : List D} : ItOk K (IteT K a) (numD 0 ds) [(.ref a, .fz (.tuple ds))] := fun B F H T σ ρ i r => by
  have rp : Rp K F (.ref a) (.tuple ds) := r.hd_fz
  obtain ⟨a2, xs2, e2, hq2, hs2⟩ := rp.tupV
  cases e2
  have hq3 : SqT K H a xs2 := by
    rcases hq2 with z | z
    · rcases z with z | z
      · exact .inl (.inl (r.sub _ _ z))
      · obtain ⟨o, z⟩ := z
        exact .inl (.inr ⟨o, r.sub _ _ z⟩)
    · exact .inr z
  refine ⟨fun l => ⟨xs2, hq3, by rw [rps_len hs2, ← num_len ds 0]; exact l⟩, fun d ed => ?_⟩
  rw [num_get] at ed
  cases q : ds[i]? with
  | none => rw [q] at ed; cases ed
  | some d' =>
    rw [q] at ed
    cases ed
    obtain ⟨v, h1, h2⟩ := rps_get hs2 q
    refine ⟨⟨xs2, v, hq3, h1⟩, fun x H' hy => ?_⟩
    obtain ⟨T1, x1, e, hT, eH, hy⟩ := hy
    have := hy xs2 hq3
    rw [h1] at this
    cases this
    subst e eH
    have z : (0 + i : Nat) = i := by omega
    rw [z]
    exact ⟨_, Rel.newTup r hT (.cons (.int _) (.cons h2 .nil))⟩
theorem pair_get : ∀ (xs ys : List D) (i : Nat), (pairD xs ys)[i]? = match xs[i]?, ys[i]? with
    | some x, some y => some (.tuple [x, y])
    | _, _ => none
  | [], ys, i => by simp [pairD]
  | x :: xs, [], i => by
    simp [pairD]
  | x :: xs, y :: ys, 0 => by simp [pairD]
  | x :: xs, y :: ys, i + 1 => by
    have := pair_get xs ys i
    simpa [pairD] using this
theorem pair_len : ∀ (xs ys : List D), (pairD xs ys).length = min xs.length ys.length
  | [], ys => by simp [pairD]
  | x :: xs, [] => by simp [pairD]
  | x :: xs, y :: ys => by
    have := pair_len xs ys
    simp [pairD, this]
theorem sqL_mono {K : PySem.W.Frag} {F H : Hp} {a : Addr} {xs : List V} (s : Same F H) (h : SqL K F a xs) : SqL K H a xs := by
  rcases h with z | z
  · rcases z with z | z
    · exact .inl (.inl (s _ _ z))
    · obtain ⟨o, z⟩ := z
      exact .inl (.inr ⟨o, s _ _ z⟩)
  · exact .inr z
theorem sqT_mono {K : PySem.W.Frag} {F H : Hp} {a : Addr} {xs : List V} (s : Same F H) (h : SqT K F a xs) : SqT K H a xs := by
  rcases h with z | z
  · rcases z with z | z
    · exact .inl (.inl (s _ _ z))
    · obtain ⟨o, z⟩ := z
      exact .inl (.inr ⟨o, s _ _ z⟩)
  · exact .inr z
theorem itz_ok {K : PySem.W.Frag} {a b : Addr} {ds es : List D} : ItOk K (Itz K a b) (pairD ds es) [(.ref a, .fz (.list ds)), (.ref b, .fz (.list es))] := fun B F H T σ ρ i r => by
  have rp : Rp K F (.ref a) (.list ds) := r.hd_fz
  have rp2 : Rp K F (.ref b) (.list es) := Rel.hd_fz (Rel.drop r)
  obtain ⟨a2, xs, e2, hq, hs⟩ := rp.lstV
  cases e2
  obtain ⟨b2, ys, e3, hq2, hs2⟩ := rp2.lstV
  cases e3
  have hq' := sqL_mono r.sub hq
  have hq2' := sqL_mono r.sub hq2
  refine ⟨fun l => ⟨xs, ys, hq', hq2', by rw [pair_len] at l; rw [rps_len hs, rps_len hs2]; omega⟩, fun d ed => ?_⟩
  rw [pair_get] at ed
  split at ed
  · rename_i x y ex ey
    cases ed
    obtain ⟨v, h1, h2⟩ := rps_get hs ex
    obtain ⟨v', h1', h2'⟩ := rps_get hs2 ey
    refine ⟨⟨xs, ys, v, v', hq', hq2', h1, h1'⟩, fun x' H' hy => ?_⟩
    obtain ⟨T1, x1, y1, e, hT, eH, hy, hy2⟩ := hy
    have q1 := hy xs hq'
    have q2 := hy2 ys hq2'
    rw [h1] at q1
    rw [h1'] at q2
    cases q1
    cases q2
    subst e eH
    exact ⟨_, Rel.newTup r hT (.cons h2 (.cons h2' .nil))⟩
  · cases ed
theorem itzT_ok {K : PySem.W.Frag} {a b : Addr} {ds es : List D} : ItOk K (RZ.ItzT K a b) (pairD ds es) [(.ref a, .fz (.tuple ds)), (.ref b, .fz (.tuple es))] := fun B F H T σ ρ i r => by
  have rp : Rp K F (.ref a) (.tuple ds) := r.hd_fz
  have rp2 : Rp K F (.ref b) (.tuple es) := Rel.hd_fz (Rel.drop r)
  obtain ⟨a2, xs, e2, hq, hs⟩ := rp.tupV
  cases e2
  obtain ⟨b2, ys, e3, hq2, hs2⟩ := rp2.tupV
  cases e3
  have hq' := sqT_mono r.sub hq
  have hq2' := sqT_mono r.sub hq2
  refine ⟨fun l => ⟨xs, ys, hq', hq2', by rw [pair_len] at l; rw [rps_len hs, rps_len hs2]; omega⟩, fun d ed => ?_⟩
  rw [pair_get] at ed
  split at ed
  · rename_i x y ex ey
    cases ed
    obtain ⟨v, h1, h2⟩ := rps_get hs ex
    obtain ⟨v', h1', h2'⟩ := rps_get hs2 ey
    refine ⟨⟨xs, ys, v, v', hq', hq2', h1, h1'⟩, fun x' H' hy => ?_⟩
    obtain ⟨T1, x1, y1, e, hT, eH, hy, hy2⟩ := hy
    have q1 := hy xs hq'
    have q2 := hy2 ys hq2'
    rw [h1] at q1
    rw [h1'] at q2
    cases q1
    cases q2
    subst e eH
    exact ⟨_, Rel.newTup r hT (.cons h2 (.cons h2' .nil))⟩
  · cases ed
/-! ### the forms of what is walked -/
theorem seq_pi {tg ex : Expr} {m : Env → R Z} (h : PE X ex (tE X B W₀ m)) : PI X tg ex (tI X B W₀ fun ρ => (m ρ).bind fun z ρ1 => (nonBw z ρ1).bind fun x ρ2 => liftO (seqI x.dat) ρ2) :=
  PI.mono (pi_seq h) fun σ H R ⟨F, T, ρ, r, f⟩ => ⟨F, T, ρ, r, fin_bind0 f fun z ρ1 v F1 H1 zr f1 => by
    obtain ⟨x, rfl, hx, r1, f2⟩ := nonBw_fin zr f1
    obtain ⟨F2, s2, r2⟩ := Rel.frz r1 hx
    obtain ⟨ds, e, f3⟩ := liftO_fin f2
    have rp : Rp X.K H1 v x.dat := r1.hd_rd
    cases q : x.dat with
    | list xs =>
      rw [q] at e rp r2
      cases e
      obtain ⟨a, xs', rfl, hq, hs⟩ := rp.lstV
      exact .inl ⟨a, rfl, ⟨_, hq⟩, f3 _ F2 H1 ⟨_, itl_ok, r2⟩⟩
    | tuple xs =>
      rw [q] at e rp r2
      cases e
      obtain ⟨a, xs', rfl, hq, hs⟩ := rp.tupV
      exact .inr (.inl ⟨a, rfl, ⟨_, hq⟩, f3 _ F2 H1 ⟨_, itt_ok, r2⟩⟩)
    | str z =>
      rw [q] at e rp
      cases e
      exact .inr (.inr ⟨z, rp.strV, f3 _ F1 H1 ⟨[], its_ok, r1.drop⟩⟩)
    | none => rw [q] at e; cases e
    | bool b => rw [q] at e; cases e
    | int i => rw [q] at e; cases e
    | dict kvs => rw [q] at e; cases e⟩
theorem small62_inv {i : Int} (h : small62 i = true) : -(2 ^ 62) ≤ i ∧ i < 2 ^ 62 := by
  unfold small62 at h
  rw [Bool.and_eq_true] at h
  exact ⟨of_decide_eq_true h.1, of_decide_eq_true h.2⟩
theorem rng1_pi (y : Hy X B W₀ n k cf g) {tg ea : Expr} {x : Str} {p pos : Pos} {m : Env → R Z} (hx : gB n "range" x = true) (hs : ∀ env : PySem.Env, starEach [ea] env = [(false, eval ea env)]) (h : PE X ea (tE X B W₀ m)) :
    PI X tg (.Call (.Name x p) [ea] [] pos) (tI X B W₀ fun ρ => (m ρ).bind fun z ρ1 => match z.dat with
      | .int j => if small62 j then .ok (rngD 0 1 j.toNat) ρ1 else .bad
      | _ => .bad) := by
  obtain ⟨e, g1, d1, d2⟩ := gB_inv hx
  subst e
  refine PI.mono (pi_range1 (y.gl g1) (y.blt _ (by decide +kernel)) (pa_cons h pa_nil (hs _)) (hs _)) fun σ H R ⟨F, T, ρ, r, f⟩ => ⟨F, T, ρ, r, fin_bind0 f fun z ρ1 v F1 H1 zr f1 => ?_⟩
  have rd := zr.rd
  split at f1
  · rename_i j e
    rw [e] at rd
    split at f1
    · rename_i hj
      obtain ⟨h1, h2⟩ := small62_inv hj
      have q := rd.intV
      subst q
      exact ⟨j, rfl, h1, h2, f1 _ F1 H1 ⟨[], itr_ok, zr.rl⟩⟩
    · exact f1.elim
  · exact f1.elim
theorem rng2_pi (y : Hy X B W₀ n k cf g) {tg ea eb : Expr} {x : Str} {p pos : Pos} {ma mb : Env → R Z} (hx : gB n "range" x = true) (hs : ∀ (env : PySem.Env) (es : List Expr), starEach (ea :: es) env = (false, eval ea env) :: starEach es env) (hs2 : ∀ env : PySem.Env, starEach [eb] env = [(false, eval eb env)]) (h : PE X ea (tE X B W₀ ma)) (h2 : PE X eb (tE X B W₀ mb)) :
    PI X tg (.Call (.Name x p) [ea, eb] [] pos) (tI X B W₀ (two none ma mb fun a b ρ => match a.dat, b.dat with
      | .int i, .int j => if small62 i && small62 j then .ok (rngD i 1 (j - i).toNat) ρ else .bad
      | _, _ => .bad)) := by
  obtain ⟨e, g1, d1, d2⟩ := gB_inv hx
  subst e
  refine PI.mono (pi_range2 (y.gl g1) (y.blt _ (by decide +kernel)) (pa_cons h (pa_cons h2 pa_nil (hs2 _)) (hs _ _)) (by rw [hs, hs2]) (hs2 _)) fun σ H R q => ?_
  refine two_ok (β := It) (ri := none) (rel := fun T σ => IR X B T σ) (r := fun x y H1 R => ∃ i j : Int, [x, y] = [.int i, .int j] ∧ (-(2 ^ 62) ≤ i ∧ i < 2 ^ 62 ∧ -(2 ^ 62) ≤ j ∧ j < 2 ^ 62) ∧ R (Itr i (j - i).toNat) H1) (fun F H T ρ va vb za zb h1 h2 h3 h4 => ?_) q
  have rda := h1.rd
  have rdb := h2.rd
  split at h4
  · rename_i i j e1 e2
    rw [e1] at rda
    rw [e2] at rdb
    split at h4
    · rename_i hj
      rw [Bool.and_eq_true] at hj
      obtain ⟨b1, b2⟩ := small62_inv hj.1
      obtain ⟨b3, b4⟩ := small62_inv hj.2
      refine ⟨i, j, by rw [rda.intV, rdb.intV], ⟨b1, b2, b3, b4⟩, h4 _ F H ⟨[], itr_ok, h3⟩⟩
    · exact h4.elim
  · exact h4.elim
theorem seq_of_rp {d : D} {xs : List D} (e : seqD d = some xs) : d = .list xs ∨ d = .tuple xs := by
  cases d <;> first | (cases e; done) | (cases e; exact .inl rfl) | (cases e; exact .inr rfl)
theorem enum_pi (y : Hy X B W₀ n k cf g) {ea : Expr} {elts : List Expr} {kk : Nat} {tpos : Pos} {x : Str} {p pos : Pos} {m : Env → R Z} (hx : gB n "enumerate" x = true) (hs : ∀ env : PySem.Env, starEach [ea] env = [(false, eval ea env)]) (h : PE X ea (tE X B W₀ m)) :
    PI X (.Tuple elts kk tpos) (.Call (.Name x p) [ea] [] pos) (tI X B W₀ fun ρ => (m ρ).bind fun z ρ1 => (nonBw z ρ1).bind fun x ρ2 => (liftO (seqD x.dat) ρ2).bind fun ds ρ3 => .ok (numD 0 ds) ρ3) := by
  obtain ⟨e, g1, d1, d2⟩ := gB_inv hx
  subst e
  refine PI.mono (pi_enumA (y.gl g1) (y.blt _ (by decide +kernel)) (pa_cons h pa_nil (hs _)) (hs _)) fun σ H R ⟨F, T, ρ, r, f⟩ => ⟨F, T, ρ, r, fin_bind0 f fun z ρ1 v F1 H1 zr f1 => ?_⟩
  obtain ⟨x, rfl, hx', r1, f2⟩ := nonBw_fin zr f1
  obtain ⟨F2, s2, r2⟩ := Rel.frz r1 hx'
  obtain ⟨ds, e, f3⟩ := liftO_bind f2
  have rp : Rp X.K H1 v x.dat := r1.hd_rd
  rcases seq_of_rp e with q | q
  · rw [q] at rp r2
    obtain ⟨a, xs', rfl, hq, hs⟩ := rp.lstV
    exact ⟨a, xs', rfl, .inl ⟨hq, f3 _ F2 H1 ⟨_, ite_ok, r2⟩⟩⟩
  · rw [q] at rp r2
    obtain ⟨a, xs', rfl, hq, hs⟩ := rp.tupV
    exact ⟨a, xs', rfl, .inr ⟨hq, f3 _ F2 H1 ⟨_, iteT_ok, r2⟩⟩⟩
theorem zip_pi (y : Hy X B W₀ n k cf g) {ea eb : Expr} {elts : List Expr} {kk : Nat} {tpos : Pos} {x : Str} {p pos : Pos} {ma mb : Env → R Z} (hx : gB n "zip" x = true) (hs : ∀ (env : PySem.Env) (es : List Expr), starEach (ea :: es) env = (false, eval ea env) :: starEach es env) (hs2 : ∀ env : PySem.Env, starEach [eb] env = [(false, eval eb env)])
    (h : PE X ea (tE X B W₀ ma)) (h2 : PE X eb (tE X B W₀ mb)) :
    PI X (.Tuple elts kk tpos) (.Call (.Name x p) [ea, eb] [] pos) (tI X B W₀ (two none ma mb fun a b ρ => match a, b with
      | .w x, .w y => match x.dat, y.dat with
        | .list xs, .list ys => .ok (pairD xs ys) ρ
        | .tuple xs, .tuple ys => .ok (pairD xs ys) ρ
        | _, _ => .bad
      | _, _ => .bad)) := by
  obtain ⟨e, g1, d1, d2⟩ := gB_inv hx
  subst e
  refine PI.mono (RZ.pi_zipA (y.gl g1) (y.blt _ (by decide +kernel)) (pa_cons h (pa_cons h2 pa_nil (hs2 _)) (hs _ _)) (hs _ _) (by rw [hs2]; rfl)) fun σ H R ⟨F, T, ρ, r, f⟩ => ⟨F, T, ρ, r, ?_⟩
  dsimp only [two] at f
  refine fin_bind0 f fun za ρ1 va F1 H1 zr f1 => ?_
  obtain ⟨x, rfl, hx', r1, f2⟩ := nonBw_fin zr f1
  refine ⟨F1, (va, x) :: T, ρ1, r1, fin_bind (M := [(va, x)]) f2 fun zb ρ2 vb F2 H2 zr2 f3 => ?_⟩
  split at f3
  · rename_i x0 y0 ex0
    cases ex0
    obtain ⟨hy', r2⟩ := (zr2 : y0.isIo = false ∧ RL X B F2 H2 ((vb, y0) :: ((va, x) :: T)) σ ρ2)
    obtain ⟨F3, s3, r3⟩ := Rel.frz r2 hy'
    obtain ⟨F4, s4, r4⟩ := Rel.frz (Rel.perm r3 (.swap _ _ _)) hx'
    have rpa : Rp X.K H2 va x.dat := Rel.hd_rd (x := .fz x.dat) r4
    have rpb : Rp X.K H2 vb y0.dat := Rel.hd_rd (x := .fz y0.dat) (Rel.drop r4)
    split at f3
    · rename_i xs ys e1 e2
      rw [e1] at rpa r4
      rw [e2] at rpb r4
      obtain ⟨a, xs', rfl, hq, hs⟩ := rpa.lstV
      obtain ⟨b, ys', rfl, hq2, hs2⟩ := rpb.lstV
      exact ⟨a, b, xs', ys', rfl, .inl ⟨hq, hq2, f3 _ F4 H2 ⟨_, itz_ok, r4⟩⟩⟩
    · rename_i xs ys e1 e2
      rw [e1] at rpa r4
      rw [e2] at rpb r4
      obtain ⟨a, xs', rfl, hq, hs⟩ := rpa.tupV
      obtain ⟨b, ys', rfl, hq2, hs2⟩ := rpb.tupV
      exact ⟨a, b, xs', ys', rfl, .inr ⟨hq, hq2, f3 _ F4 H2 ⟨_, itzT_ok, r4⟩⟩⟩
    · exact f3.elim
  · exact f3.elim
end
end Co

set_option Elab.async false
set_option linter.all false
set_option maxRecDepth 100000
set_option maxHeartbeats 8000000
namespace Co
open PySem PySem.Spec PyProof.Rows L2
/-! ### names of a block forgotten -/
theorem wipe_get (σ : L2.St) (j : Nat) : ∀ vs : List Nat, (wipe σ vs)[j]? = if j ∈ vs then (σ[j]?).map (fun _ => none) else σ[j]?
  | [] => by simp [wipe]
  | v :: vs => by
    unfold wipe
    rw [List.getElem?_set, wipe_length, wipe_get σ j vs]
    by_cases e : v = j
    · subst e
      by_cases l : v < σ.length
      · simp [l]
      · simp [l]
    · rw [if_neg e]
      have : (j ∈ v :: vs) ↔ j ∈ vs := by simp [Ne.symm e]
      simp [this]
theorem wipe_set {σ : L2.St} {i : Nat} {a : Option V} {vs : List Nat} (h : i ∈ vs) : wipe (σ.set i a) vs = wipe σ vs := by
  apply List.ext_getElem?
  intro j
  rw [wipe_get, wipe_get]
  by_cases e : i = j
  · subst e
    rw [if_pos h, if_pos h, List.getElem?_set]
    by_cases l : i < σ.length
    · simp [l]
    · simp [l]
  · rw [List.getElem?_set_ne e]
theorem wipe_wipe {σ : L2.St} {vs : List Nat} : wipe (wipe σ vs) vs = wipe σ vs := by
  apply List.ext_getElem?
  intro j
  rw [wipe_get, wipe_get]
  by_cases h : j ∈ vs
  · rw [if_pos h, if_pos h]
    cases σ[j]? <;> rfl
  · rw [if_neg h, if_neg h]
theorem wipeE_none {ρ : Env} : ∀ {vs : List Nat} {v : Nat}, v ∈ vs → (wipeE ρ vs).set v none = wipeE ρ vs
  | [], _, h => by cases h
  | u :: vs, v, h => by
    unfold wipeE
    by_cases e : u = v
    · subst e
      rw [List.set_set]
    · rcases List.mem_cons.mp h with z | z
      · exact absurd z.symm e
      · rw [List.set_comm _ _ e, wipeE_none z]
def NoIo (B : Ba) (vs : List Nat) : Prop := ∀ p ∈ B.io, p.1 ∉ vs
section
variable {X : Cx} {B : Ba} {W₀ : WX} {n : Nm} {k : Nat} {cf : CF} {g : G} {F H : Hp} {T M : List (V × W)} {σ : St} {ρ ρ1 : Env}
theorem Rel.wipe : ∀ {vs : List Nat}, RL X B F H T σ ρ → NoIo B vs → RL X B F H T (L2.wipe σ vs) (wipeE ρ vs)
  | [], h, _ => h
  | v :: vs, h, io => Rel.forget (Rel.wipe (vs := vs) h fun p hp z => io p hp (List.mem_cons_of_mem _ z)) (fun p hp z => io p hp (by rw [z]; exact List.mem_cons_self)) none
theorem Rel.unwipe1 {i : Nat} (h : RL X B F H T (σ.set i none) ρ) (e : ρ.set i none = ρ) : RL X B F H T σ ρ := by
  refine ⟨by simpa using h.len, fun j x ej => ?_, ?_, fun p hp => ?_⟩
  · obtain ⟨v, hv⟩ := h.dfd j x ej
    by_cases q : i = j
    · subst q
      rw [List.getElem?_set] at hv
      simp at hv
    · rw [List.getElem?_set_ne q] at hv
      exact ⟨v, hv⟩
  · have q := h.rx
    rw [← e, live_setN] at q
    rw [← e]
    exact q
  · have q := h.io p hp
    by_cases z : i = p.1
    · rw [List.getElem?_set] at q
      simp [z] at q
    · rw [List.getElem?_set_ne z] at q
      exact q
theorem Rel.unwipe : ∀ {vs : List Nat}, RL X B F H T (L2.wipe σ vs) ρ → (∀ v ∈ vs, ρ.set v none = ρ) → RL X B F H T σ ρ
  | [], h, _ => h
  | v :: vs, h, e => Rel.unwipe (vs := vs) (Rel.unwipe1 (σ := L2.wipe σ vs) h (e v List.mem_cons_self)) fun u hu => e u (List.mem_cons_of_mem _ hu)
/-- a list that is held is appended to -/
theorem Rel.appT {u : V} {y : W} {a : Addr} {os : List O} (h : RL X B F H ((u, y) :: (.ref a, .own (.l os)) :: T) σ ρ) (hy : y.isIo = false) :
    ∃ vs, H a = some (.lst vs) ∧ vs.length = os.length ∧ RL X B F (upd H a (.lst (vs ++ [u]))) ((.ref a, .own (.l (os ++ [y.o]))) :: T) σ ρ := by
  have h' : RL X B F H ((.ref a, .own (.l os)) :: ([(u, y)] ++ T)) σ ρ := Rel.perm h (.swap _ _ _)
  obtain ⟨A, q⟩ := h'.rx.hd_or
  have q : OR X.K F H (.ref a) (.l os) A := q
  cases q with
  | @l _ vs _ A0 hp r0 =>
    refine ⟨vs, hp, r0.length, h.len, h.dfd, ?_, h.io⟩
    have rx : Rx X.K B F H ((.ref a, .own (.l os)) :: ([(u, y)] ++ (T ++ live σ ρ))) := h'.rx
    refine Rx.chg (x := .own (.l os)) (o' := .l (os ++ [y.o])) rx (.inr ⟨os, rfl⟩) (fun q hq => by rw [List.mem_singleton.mp hq]; exact hy) fun A A1 r b n => ?_
    cases r with
    | @l _ ws _ A0 hw r =>
      rw [hp] at hw
      cases hw
      have nn := List.nodup_append.mp n
      have np := List.nodup_cons.mp nn.1
      have b' := b.ors
      have n1 : ∀ c ∈ A0 ++ A1, c ≠ a := fun c hc z => by
        subst z
        rcases List.mem_append.mp hc with z | z
        · exact np.1 z
        · exact nn.2.2 c List.mem_cons_self c z rfl
      refine ⟨a :: (A0 ++ A1), .l upd_same ((r.append b').congr (Same.refl F) fun c hc => upd_ne (n1 c hc)), n, fun c hc => List.mem_append.mp hc, fun c hc => upd_ne fun z => hc (by rw [z]; exact List.mem_cons_self), fun c hc => ?_⟩
      by_cases z : c = a
      · rw [z, upd_same]; exact fun q => nomatch q
      · rw [upd_ne z]
        obtain ⟨ys, q⟩ := (OR.l (K := X.K) (F := F) hp r).there c hc
        rw [q]; exact fun q => nomatch q

/-! ### targets -/
def gNs : List Nat → TGs
  | [] => gNil
  | i :: is => gCons (gName i) (gNs is)
def gT (K : PySem.W.Frag) : Tg → TG
  | .n i => gName i
  | .t is => gTup K is.length (gNs is)
theorem stB_inv (y : Hy X B W₀ n k cf g) {i : Nat} {x : Str} (h : stB n i x = true) : X.N[i]? = some x ∧ Loc X.env.scope x ∧ (X.fn x = true ∨ X.env.scope.names.lookup x = some .local) ∧ NoIo B [i] := by
  unfold stB at h
  rw [Bool.and_eq_true, Bool.and_eq_true] at h
  obtain ⟨h1, h2⟩ := y.st x h.1.2
  refine ⟨by rw [y.eN]; exact of_decide_eq_true h.1.1, h1, h2, fun p hp z => ?_⟩
  have q := y.io p hp
  rw [List.mem_singleton.mp z] at q
  have z := h.2
  rw [q] at z
  cases z
theorem names_pg (y : Hy X B W₀ n k cf g) : ∀ {is : List Nat} {es : List Expr}, namesB n is es = true → PGs X es (gNs is) ∧ (assignEach es X.env).length = is.length ∧ (assignEach es X.env).findIdx? (·.1) = none ∧ NoIo B is
  | [], [], _ => ⟨pgs_nil, rfl, rfl, fun _ _ z => by cases z⟩
  | [], _ :: _, h => by simp [namesB] at h
  | _ :: _, [], h => by simp [namesB] at h
  | i :: is, e :: es, h => by
    cases e <;> first | (simp [namesB] at h; done) | skip
    unfold namesB at h
    rw [Bool.and_eq_true] at h
    obtain ⟨h1, h2, h3, h4⟩ := stB_inv y h.1
    obtain ⟨g1, g2, g3, g4⟩ := names_pg y h.2
    refine ⟨pgs_cons (pg_name y.nd h1 h2 h3) g1 rfl, ?_, ?_, fun p hp z => ?_⟩
    · show (assignEach es X.env).length + 1 = _
      rw [g2]; rfl
    · show ((false, assign _ X.env) :: assignEach es X.env).findIdx? (·.1) = none
      rw [List.findIdx?_cons, g3]
      rfl
    · rcases List.mem_cons.mp z with q | q
      · exact h4 p hp (by rw [q]; exact List.mem_singleton.mpr rfl)
      · exact g4 p hp q
theorem tg_pg (y : Hy X B W₀ n k cf g) {tg : Tg} {e : Expr} (h : tg.chk n e = true) : PG X e (gT X.K tg) ∧ NoIo B tg.slots := by
  cases tg with
  | n i =>
    cases e <;> first | (simp [Tg.chk] at h; done) | skip
    obtain ⟨h1, h2, h3, h4⟩ := stB_inv y h
    exact ⟨pg_name y.nd h1 h2 h3, h4⟩
  | t is =>
    cases e <;> first | (simp [Tg.chk] at h; done) | skip
    obtain ⟨g1, g2, g3, g4⟩ := names_pg y h
    exact ⟨pg_tup y.calm g1 g2 g3, g4⟩
theorem Rel.store' {v : V} {x : W} {i : Nat} (h : RL X B F H ((v, x) :: T) σ ρ) (hio : NoIo B [i]) : RL X B F H T (σ.set i (some v)) (ρ.set i (some x)) := by
  by_cases l : i < σ.length
  · exact Rel.store h l fun p hp z => hio p hp (by rw [z]; exact List.mem_singleton.mpr rfl)
  · rw [List.set_eq_of_length_le (by omega), List.set_eq_of_length_le (by rw [h.len]; omega)]
    exact h.drop
theorem names_ok {vs : List Nat} {Q : St → Hp → Prop} {ρ' : Env} : ∀ {is : List Nat} {ds : List D} {xs : List V} {σ : St} {ρ : Env}, Rps X.K F xs ds → is.length = ds.length → NoIo B is → (∀ i ∈ is, i ∈ vs) → RL X B F H T σ ρ →
    (is.zip ds).foldl (fun ρ p => ρ.set p.1 (some (.fz p.2))) ρ = ρ' → (∀ σ', RL X B F H T σ' ρ' → wipe σ' vs = wipe σ vs → Q σ' H) → gNs is xs σ H Q
  | [], ds, xs, σ, ρ, rp, hl, io, hi, r, e, q => by
    cases ds with
    | cons d ds => simp at hl
    | nil =>
      cases rp
      subst e
      exact ⟨rfl, q σ r rfl⟩
  | i :: is, ds, xs, σ, ρ, rp, hl, io, hi, r, e, q => by
    cases ds with
    | nil => simp at hl
    | cons d ds =>
      cases rp with
      | @cons x xs _ _ h t =>
        refine ⟨x, xs, rfl, ?_⟩
        have r1 : RL X B F H T (σ.set i (some x)) (ρ.set i (some (.fz d))) := Rel.store' (r.addfz h) fun p hp z => io p hp (by rw [List.mem_singleton.mp z]; exact List.mem_cons_self)
        refine names_ok t (by simpa using hl) (fun p hp z => io p hp (List.mem_cons_of_mem _ z)) (fun j hj => hi j (List.mem_cons_of_mem _ hj)) r1 e fun σ' r' w => q σ' r' ?_
        rw [w]
        exact wipe_set (hi i List.mem_cons_self)
theorem tg_ok {vs : List Nat} {tg : Tg} {d : D} {x : V} {ρ' : Env} {Q : St → Hp → Prop} (r : RL X B F H ((x, .fz d) :: T) σ ρ) (e : setTg tg d ρ = some ρ') (io : NoIo B tg.slots) (hi : ∀ i ∈ tg.slots, i ∈ vs)
    (q : ∀ σ', RL X B F H T σ' ρ' → wipe σ' vs = wipe σ vs → Q σ' H) : gT X.K tg x σ H Q := by
  cases tg with
  | n i =>
    have e : some (ρ.set i (some (.fz d))) = some ρ' := e
    cases e
    exact q _ (Rel.store' r io) (wipe_set (hi i (List.mem_singleton.mpr rfl)))
  | t is =>
    unfold setTg at e
    split at e
    · rename_i e1; cases e1
    · rename_i is' ds' e1
      cases e1
      split at e
      · rename_i hl
        obtain ⟨a, xs, rfl, hq, hs⟩ := (r.hd_fz : Rp X.K F x (.tuple ds')).tupV
        refine ⟨a, xs, rfl, sqT_mono r.sub hq, by rw [rps_len hs]; exact hl.symm, ?_⟩
        exact names_ok hs hl io hi r.drop (Option.some.inj e) q
      · cases e
    · cases e

/-! ### comprehensions -/
theorem R.bind_assoc {α β γ : Type} (r : R α) (f : α → Env → R β) (g : β → Env → R γ) : (r.bind f).bind g = r.bind fun a ρ => (f a ρ).bind g := by cases r <;> rfl
theorem calm_bind {α β γ δ : Type} {rel : α → Env → β → Hp → Hp → Prop} {rel' : δ → Env → γ → Hp → Hp → Prop} {Q : γ → Hp → Prop} {Q' : β → Hp → Prop} {r : R α} {ε : Type} {K : α → Env → R ε} {fin : ε → Env → R δ} {T' : List (V × W)} {σ' : St}
    (h : FinA X B W₀ T σ rel' Q (((r.bind K).calm).bind fin)) (hf : ∀ a ρ1 b F1 H1, rel a ρ1 b F1 H1 → FinA X B W₀ T σ rel' Q (((K a ρ1).calm).bind fin) → Q' b H1) : FinA X B (fun _ _ _ _ => False) T' σ' rel Q' r := by
  cases r with
  | ok a ρ1 => exact fun b F1 H1 hr => hf a ρ1 b F1 H1 hr h
  | ex x ρ1 => exact h.elim
  | bad => exact h.elim
theorem Hy.blk (y : Hy X B W₀ n k cf g) {scope : Scope} (s : Shared) (H : Hp) (C : Addr) (cl : List (Str × Addr)) (fp : List Addr) :
    Hy (X.blk s H scope (compEnvC scope cl C X.env) fp) B (fun _ _ _ _ => False) (blkN n scope) k cf g := by
  have hsc : (X.blk s H scope (compEnvC scope cl C X.env) fp).env.scope = relS scope X.env.scope := rfl
  refine ⟨y.eN, by rw [hsc, y.eS]; rfl, y.nd, y.calm, y.room, takes0, PassesOwn.never, fun x hx => ?_, y.io, y.fn, y.con, y.dic, y.blt⟩
  rw [hsc]
  have hx : stSc scope x = true := hx
  unfold stSc at hx
  split at hx
  · rename_i e
    have q : (relS scope X.env.scope).names.lookup x = some .local := lookup_relS_keep (by intro z; cases z) e
    exact ⟨.inl q, .inr q⟩
  · rename_i e
    have q : (relS scope X.env.scope).names.lookup x = some .cell := lookup_relS_keep (by intro z; cases z) e
    refine ⟨.inr q, .inl ?_⟩
    show (scope.names.lookup x == some .cell) = true
    rw [e]
    rfl
  · cases hx
def lcB (tg : Tg) (mt : Env → R Bool) (me : Env → R Z) (d : D) (ρ : Env) : R (Option O) := (setTgR tg d ρ).bind fun _ ρ1 => (mt ρ1).bind fun b ρ2 =>
  if b then (me ρ2).bind fun z ρ3 => (nonBw z ρ3).bind fun x ρ4 => .ok (some x.o) ρ4 else .ok none ρ2
theorem PTs.mono {es : List Expr} {t t' : TT} (h : PTs X es t) (q : ∀ σ H Q, t' σ H Q → t σ H Q) : PTs X es t' := ⟨fun pins s σ H Q I w => h.run pins s σ H Q I (q σ H Q w)⟩
theorem yes_pts : PTs X [] (tT X B W₀ fun ρ => .ok true ρ) := PTs.mono pts_nil fun σ H Q ⟨F, T, ρ, r, f⟩ => (f : FinA X B W₀ T σ (TRl X B T σ) Q (.ok true ρ)) true F H ⟨rfl, r⟩
theorem own_noio (y : Hy X B W₀ n k cf g) {own : List (Str × Nat)} (hio : own.all (fun p => !n.io.contains p.2) = true) : NoIo B (own.map (·.2)) := fun p hp z => by
  obtain ⟨q, hq, e⟩ := List.mem_map.mp z
  have h1 := y.io p hp
  have h2 := List.all_eq_true.mp hio q hq
  rw [e, h1] at h2
  cases h2
theorem lc_t {vs : List Nat} {tg : Tg} {mi : Env → R (List D)} {mt : Env → R Bool} {me : Env → R Z} (io : NoIo B vs) (ios : NoIo B tg.slots) (hsl : ∀ i ∈ tg.slots, i ∈ vs) (σ : L2.St) (H : Hp) (Q : VK)
    (h : tE X B W₀ (fun ρ => (mi ρ).bind fun ds ρ1 => ((lcLoop (lcB tg mt me) vs ds [] (wipeE ρ1 vs)).calm).bind fun os ρ2 => .ok (.w (.own (.l os))) ρ2) σ H Q) :
    tLc (tI X B W₀ mi) (gT X.K tg) (tT X B (fun _ _ _ _ => False) mt) (tE X B (fun _ _ _ _ => False) me) vs σ H Q := by
  obtain ⟨F, T, ρ, r, f⟩ := h
  refine ⟨F, T, ρ, r, fin_bind0 f fun ds ρ1 J F1 H1 hir f1 => ?_⟩
  obtain ⟨TT, ok, r1⟩ := hir
  intro a ha
  refine ⟨fun i m H => ∃ F ρ acc, m = ds.length - i ∧ (∀ v ∈ vs, ρ.set v none = ρ) ∧ RL X B F H ((.ref a, .own (.l acc)) :: (TT ++ T)) (wipe σ vs) ρ ∧
      FinA X B W₀ T σ (ZR X B T σ) Q (((lcLoop (lcB tg mt me) vs (ds.drop i) acc ρ).calm).bind fun os ρ2 => .ok (.w (.own (.l os))) ρ2), ?_, ?_⟩
  · refine ⟨ds.length, F1, wipeE ρ1 vs, [], by simp, fun v hv => wipeE_none hv, ?_, by rw [List.drop_zero]; exact f1⟩
    exact Rel.newLst (M := []) (Rel.wipe r1 io) (fun p hp => nomatch hp) ha
  · rintro i m H2 ⟨F2, ρ2, acc, hm, hw, r2, f2⟩
    have r3 : RL X B F2 H2 (TT ++ ((.ref a, .own (.l acc)) :: T)) (wipe σ vs) ρ2 := Rel.perm r2 List.perm_middle.symm
    by_cases hl : ds.length ≤ i
    · refine .inl ⟨(ok _ _ _ _ _ _ i r3).1 hl, ?_⟩
      rw [List.drop_eq_nil_of_le hl] at f2
      have f2 : FinA X B W₀ T σ (ZR X B T σ) Q (.ok (.w (.own (.l acc))) ρ2) := f2
      exact f2 (.ref a) F2 H2 ⟨rfl, Rel.drops (M := TT) (Rel.perm (Rel.unwipe r2 hw) List.perm_middle.symm)⟩
    · have hl' : i < ds.length := by omega
      have ed : ds[i]? = some ds[i] := List.getElem?_eq_getElem hl'
      obtain ⟨go, yld⟩ := (ok _ _ _ _ _ _ i r3).2 _ ed
      rw [List.drop_eq_getElem_cons hl'] at f2
      generalize ds[i] = d at f2 yld ed
      refine .inr ⟨go, fun H' => ∃ F ρ acc, (∀ v ∈ vs, ρ.set v none = ρ) ∧ RL X B F H' ((.ref a, .own (.l acc)) :: (TT ++ T)) (wipe σ vs) ρ ∧
        FinA X B W₀ T σ (ZR X B T σ) Q (((lcLoop (lcB tg mt me) vs (ds.drop (i + 1)) acc ρ).calm).bind fun os ρ2 => .ok (.w (.own (.l os))) ρ2), fun H' ⟨F, ρ, acc, h1, h2, h3⟩ => ⟨ds.length - (i + 1), by omega, F, ρ, acc, rfl, h1, h2, h3⟩, fun x H' hy => ?_⟩
      obtain ⟨F3, r4⟩ := yld x H' hy
      have f2 : FinA X B W₀ T σ (ZR X B T σ) Q ((((lcB tg mt me d ρ2).bind fun o ρ1 => match o with
        | some o => if acc.length < sizeLine then lcLoop (lcB tg mt me) vs (ds.drop (i + 1)) (acc ++ [o]) (wipeE ρ1 vs) else .bad
        | none => lcLoop (lcB tg mt me) vs (ds.drop (i + 1)) acc (wipeE ρ1 vs)).calm).bind fun os ρ2 => .ok (.w (.own (.l os))) ρ2) := f2
      unfold lcB at f2
      rw [R.bind_assoc] at f2
      cases est : setTg tg d ρ2 with
      | none =>
        simp only [setTgR, est] at f2
        exact f2.elim
      | some ρ3 =>
        simp only [setTgR, est] at f2
        refine tg_ok (vs := vs) r4 est ios hsl fun σ2 r5 hw2 => ⟨by rw [hw2, wipe_wipe], ?_⟩
        rw [wipe_wipe] at hw2
        have f3 : FinA X B W₀ T σ (ZR X B T σ) Q (((((mt ρ3).bind fun b ρ2 =>
          if b then (me ρ2).bind fun z ρ3 => (nonBw z ρ3).bind fun x ρ4 => .ok (some x.o) ρ4 else .ok none ρ2).bind fun o ρ1 => match o with
          | some o => if acc.length < sizeLine then lcLoop (lcB tg mt me) vs (ds.drop (i + 1)) (acc ++ [o]) (wipeE ρ1 vs) else .bad
          | none => lcLoop (lcB tg mt me) vs (ds.drop (i + 1)) acc (wipeE ρ1 vs)).calm).bind fun os ρ2 => .ok (.w (.own (.l os))) ρ2) := f2
        rw [R.bind_assoc] at f3
        refine ⟨F3, _, ρ3, r5, calm_bind f3 fun b ρ4 b' F4 H4 hr f4 => ?_⟩
        obtain ⟨eb, r6⟩ := hr
        rw [eb]
        cases b with
        | false =>
          rw [if_neg Bool.false_ne_true] at f4 ⊢
          refine ⟨F4, wipeE ρ4 vs, acc, fun v hv => wipeE_none hv, ?_, f4⟩
          rw [← hw2]
          exact Rel.perm (Rel.wipe r6 io) List.perm_middle
        | true =>
          rw [if_pos rfl] at f4 ⊢
          rw [R.bind_assoc] at f4
          refine ⟨F4, _, ρ4, r6, calm_bind f4 fun z ρ5 v F5 H5 zr f5 => ?_⟩
          cases z with
          | bw o => exact f5.elim
          | w x =>
            obtain ⟨hx, r7⟩ := zr
            have f6 : FinA X B W₀ T σ (ZR X B T σ) Q (((if acc.length < sizeLine then lcLoop (lcB tg mt me) vs (ds.drop (i + 1)) (acc ++ [x.o]) (wipeE ρ5 vs) else .bad).calm).bind fun os ρ2 => .ok (.w (.own (.l os))) ρ2) := f5
            split at f6
            · rename_i hacc
              have r8 : RL X B F5 H5 ((v, x) :: (.ref a, .own (.l acc)) :: (TT ++ T)) σ2 ρ5 := Rel.perm r7 (List.perm_middle.cons _)
              obtain ⟨ws, h1, h2, r9⟩ := Rel.appT r8 hx
              refine ⟨ws, h1, by rw [h2]; exact hacc, F5, wipeE ρ5 vs, acc ++ [x.o], fun v hv => wipeE_none hv, ?_, f6⟩
              rw [← hw2]
              exact Rel.wipe r9 io
            · exact f6.elim
theorem lc_pe (y : Hy X B W₀ n k cf g) {own : List (Str × Nat)} {scope : Scope} {tg : Tg} {tgt iter elt : Expr} {ifs : List Expr} {pos : Pos} {mi : Env → R (List D)} {mt : Env → R Bool} {me : Env → R Z}
    (hblk : blkC n.N n.sc scope own = true) (hio : own.all (fun p => !n.io.contains p.2) = true) (hsl : ∀ i ∈ tg.slots, i ∈ own.map (·.2)) (htg : tg.chk (blkN n scope) tgt = true)
    (hi : PI X tgt iter (tI X B W₀ mi)) (hns : notSet iter = true)
    (ht : ∀ X', Hy X' B (fun _ _ _ _ => False) (blkN n scope) k cf g → PTs X' ifs (tT X' B (fun _ _ _ _ => False) mt))
    (he : ∀ X', Hy X' B (fun _ _ _ _ => False) (blkN n scope) k cf g → PE X' elt (tE X' B (fun _ _ _ _ => False) me)) :
    PE X (.ListComp elt [⟨tgt, iter, ifs, 0⟩] scope pos) (tE X B W₀ fun ρ => (mi ρ).bind fun ds ρ1 => ((lcLoop (lcB tg mt me) (own.map (·.2)) ds [] (wipeE ρ1 (own.map (·.2)))).calm).bind fun os ρ2 => .ok (.w (.own (.l os))) ρ2) := by
  have io := own_noio y hio
  have ios : NoIo B tg.slots := fun p hp z => io p hp (hsl _ z)
  have hb : BlkOk X.N X.env.scope scope own := blkOk_by (by rw [y.eN, y.eS]; exact hblk)
  have hfs : ∀ x, foldedSetIterable iter X.env x = pure x := by cases iter <;> first | (simp [notSet] at hns; done) | (intro _; rfl)
  exact PE.mono (pe_lc (g := gT X.K tg) (tt := tT X B (fun _ _ _ _ => False) mt) (te := tE X B (fun _ _ _ _ => False) me) y.calm y.nd hi hb
    (fun s H C cl fp => (tg_pg (y.blk s H C cl fp) htg).1) (fun s H C cl fp => ht _ (y.blk s H C cl fp)) (fun s H C cl fp => he _ (y.blk s H C cl fp)) hfs) (lc_t io ios hsl)
/-- name = [..], the swapped form -/
theorem PS.mono {st : Stmt} {t t' : TS} (h : PS X st t) (q : ∀ D σ H, t' D σ H → t D σ H) : PS X st t' := ⟨fun pins s σ H D I w => h.run pins s σ H D I (q D σ H w)⟩
theorem lc_ps (y : Hy X B W₀ n k cf g) {own : List (Str × Nat)} {scope : Scope} {tg : Tg} {tgt iter elt : Expr} {ifs : List Expr} {pos spos py : Pos} {i : Nat} {x : Str} {mi : Env → R (List D)} {mt : Env → R Bool} {me : Env → R Z}
    (hblk : blkC n.N n.sc scope own = true) (hio : own.all (fun p => !n.io.contains p.2) = true) (hsl : ∀ i ∈ tg.slots, i ∈ own.map (·.2)) (htg : tg.chk (blkN n scope) tgt = true)
    (hi : PI X tgt iter (tI X B W₀ mi)) (hns : notSet iter = true)
    (ht : ∀ X', Hy X' B (fun _ _ _ _ => False) (blkN n scope) k cf g → PTs X' ifs (tT X' B (fun _ _ _ _ => False) mt))
    (he : ∀ X', Hy X' B (fun _ _ _ _ => False) (blkN n scope) k cf g → PE X' elt (tE X' B (fun _ _ _ _ => False) me))
    (hy : X.N[i]? = some x) (hyl : X.env.scope.names.lookup x = some .local) (hsw : swapsWith (.ListComp elt [⟨tgt, iter, ifs, 0⟩] scope pos) (some (.Name x py)) spos.line X.env = pure true) :
    PS X (.Assign [.Name x py] (.ListComp elt [⟨tgt, iter, ifs, 0⟩] scope pos) spos) (tAsg (tE X B W₀ fun ρ => (mi ρ).bind fun ds ρ1 => ((lcLoop (lcB tg mt me) (own.map (·.2)) ds [] (wipeE ρ1 (own.map (·.2)))).calm).bind fun os ρ2 => .ok (.w (.own (.l os))) ρ2) (gName i)) := by
  have io := own_noio y hio
  have ios : NoIo B tg.slots := fun p hp z => io p hp (hsl _ z)
  have hb : BlkOk X.N X.env.scope scope own := blkOk_by (by rw [y.eN, y.eS]; exact hblk)
  have hfs : ∀ x, foldedSetIterable iter X.env x = pure x := by cases iter <;> first | (simp [notSet] at hns; done) | (intro _; rfl)
  exact PS.mono (ps_setLc (g := gT X.K tg) (tt := tT X B (fun _ _ _ _ => False) mt) (te := tE X B (fun _ _ _ _ => False) me) y.calm y.nd hy hyl hsw hi hb
    (fun s H C cl fp => (tg_pg (y.blk s H C cl fp) htg).1) (fun s H C cl fp => ht _ (y.blk s H C cl fp)) (fun s H C cl fp => he _ (y.blk s H C cl fp)) hfs) fun D σ H h => lc_t io ios hsl σ H _ h
end
end Co

set_option Elab.async false
set_option linter.all false
set_option maxRecDepth 100000
set_option maxHeartbeats 8000000
namespace Co
open PySem PySem.Spec PyProof.Rows L2
section
variable {k : Nat} {cf : CF} {g : G}
theorem and3 {a b c : Bool} (h : (a && b && c) = true) : a = true ∧ b = true ∧ c = true := by
  rw [Bool.and_eq_true, Bool.and_eq_true] at h; exact ⟨h.1.1, h.1.2, h.2⟩
theorem and2 {a b : Bool} (h : (a && b) = true) : a = true ∧ b = true := by
  rw [Bool.and_eq_true] at h; exact h
theorem and4 {a b c d : Bool} (h : (a && b && c && d) = true) : a = true ∧ b = true ∧ c = true ∧ d = true := by
  rw [Bool.and_eq_true] at h; exact ⟨(and3 h.1).1, (and3 h.1).2.1, (and3 h.1).2.2, h.2⟩
theorem andB_pe {X : Cx} {B : Ba} {W₀ : WX} {n : Nm} {b : E} {op : BoolOp} {eb : Expr} {rest : List Expr} {pos : Pos} (ih : ∀ {ex : Expr}, b.chk n ex = true → PE X ex (tE X B W₀ (b.ev cf g)))
    (h : andC (b.chk n) op eb rest pos = true) : PE X (.BoolOp op (eb :: rest) pos) (tE X B W₀ (b.ev cf g)) := by
  unfold andC at h
  split at h
  · exact pe_one (ih h)
  · exact ih h
theorem bnd_po {X : Cx} {B : Ba} {W₀ : WX} {n : Nm} {b : E} {eo : Option Expr} (ih : ∀ {ex : Expr}, b.chk n ex = true → PE X ex (tE X B W₀ (b.ev cf g))) (h : bndC b (b.chk n) eo = true) : PO X eo (tP X B W₀ (bndM b.isNoneK (b.ev cf g))) := by
  cases eo with
  | none =>
    have q : b.isNoneK = true := h
    rw [q]
    exact part_none
  | some e =>
    obtain ⟨q1, q2⟩ := and2 (show (b.chk n e && !b.isNoneK) = true from h)
    have q3 : b.isNoneK = false := by simpa using q2
    rw [q3]
    exact part_some (ih q1)
theorem Es.star1 {n : Nm} {es : Es} {ee : Expr} {ees : List Expr} (h : es.chk n (ee :: ees) = true) {env : PySem.Env} : starEach (ee :: ees) env = (false, eval ee env) :: starEach ees env ∧ (starEach ees env).any (·.1) = false := by
  cases es with
  | nil => simp [Es.chk] at h
  | cons e es =>
    rw [Es.chk] at h
    obtain ⟨h1, h2⟩ := and2 h
    refine ⟨?_, Es.star h2⟩
    unfold argC at h1
    split at h1
    · rfl
    · exact Co.star1 h1
theorem PW.mono {X : Cx} {e : Expr} {t t' : TT} (h : PW X e t) (q : ∀ σ H Q, t' σ H Q → t σ H Q) : PW X e t' := ⟨fun wh pins s σ H Q I w => h.run wh pins s σ H Q I (q σ H Q w)⟩
theorem PT.pw {X : Cx} {op : BoolOp} {ea eb : Expr} {rest : List Expr} {pos : Pos} {t : TT} (h : PT X (.BoolOp op (ea :: eb :: rest) pos) t) : PW X (.BoolOp op (ea :: eb :: rest) pos) t := by
  refine ⟨fun wh pins s σ H Q I w => ?_⟩
  have q := h.run pins s σ H Q I w
  have e : ∀ w2, isTrue (.BoolOp op (ea :: eb :: rest) pos) X.env wh = isTrue (.BoolOp op (ea :: eb :: rest) pos) X.env w2 := by
    intro w2
    cases op <;> rfl
  rw [e]
  exact q
theorem andC_pw {X : Cx} {B : Ba} {W₀ : WX} {n : Nm} {b : T} {op : BoolOp} {eb : Expr} {rest : List Expr} {pos : Pos} (ih : ∀ {ex : Expr}, b.chk n ex = true → PT X ex (tT X B W₀ (b.tst cf g)))
    (h : andC (b.chk n) op eb rest pos = true) (ho : op = .And ∨ op = .Or) : PW X (.BoolOp op (eb :: rest) pos) (tT X B W₀ (b.tst cf g)) := by
  unfold andC at h
  split at h
  · rcases ho with e | e
    · subst e; exact pw_and1 (ih h)
    · subst e; exact pw_or1 (ih h)
  · rename_i hr
    cases rest with
    | nil => exact absurd rfl hr
    | cons e es => exact PT.pw (ih h)
theorem andT_pt {X : Cx} {B : Ba} {W₀ : WX} {ma mb : Env → R Bool} {ea eb : Expr} {rest : List Expr} {pos : Pos} (h : PT X ea (tT X B W₀ ma)) (h2 : PW X (.BoolOp .And (eb :: rest) pos) (tT X B W₀ mb)) :
    PT X (.BoolOp .And (ea :: eb :: rest) pos) (tT X B W₀ fun ρ => (ma ρ).bind fun c ρ1 => if c then mb ρ1 else .ok false ρ1) :=
  PT.mono (pw_and h h2).pt fun σ H Q ⟨F, T, ρ, r, f⟩ => ⟨F, T, ρ, r, fin_bind0 f fun c ρ1 c' F1 H1 hr f1 => by
    obtain ⟨e, r1⟩ := hr
    rw [e]
    cases c with
    | true => exact ⟨F1, T, ρ1, r1, f1⟩
    | false => exact f1 false F1 H1 ⟨rfl, r1⟩⟩
theorem orT_pt {X : Cx} {B : Ba} {W₀ : WX} {ma mb : Env → R Bool} {ea eb : Expr} {rest : List Expr} {pos : Pos} (h : PT X ea (tT X B W₀ ma)) (h2 : PW X (.BoolOp .Or (eb :: rest) pos) (tT X B W₀ mb)) :
    PT X (.BoolOp .Or (ea :: eb :: rest) pos) (tT X B W₀ fun ρ => (ma ρ).bind fun c ρ1 => if c then .ok true ρ1 else mb ρ1) :=
  PT.mono (pw_or h h2).pt fun σ H Q ⟨F, T, ρ, r, f⟩ => ⟨F, T, ρ, r, fin_bind0 f fun c ρ1 c' F1 H1 hr f1 => by
    obtain ⟨e, r1⟩ := hr
    rw [e]
    cases c with
    | true => exact f1 true F1 H1 ⟨rfl, r1⟩
    | false => exact ⟨F1, T, ρ1, r1, f1⟩⟩
mutual
theorem E.snd : ∀ (e : E) {X : Cx} {B : Ba} {W₀ : WX} {n : Nm} {ex : Expr}, Hy X B W₀ n k cf g → e.chk n ex = true → PE X ex (tE X B W₀ (e.ev cf g))
  | .v i, X, B, W₀, n, ex, y, h => by
    cases ex <;> first | (simp [E.chk] at h; done) | skip
    exact PE.mono (y.var h) fun σ H Q q => ok_v q
  | .rd i, X, B, W₀, n, ex, y, h => by
    cases ex <;> first | (simp [E.chk] at h; done) | skip
    exact PE.mono (y.var h) fun σ H Q q => ok_rd q
  | .io i, X, B, W₀, n, ex, y, h => by
    cases ex <;> (simp [E.chk] at h; done)
  | .g x, X, B, W₀, n, ex, y, h => by
    cases ex <;> first | (simp [E.chk] at h; done) | skip
    exact g_pe y h
  | .k c, X, B, W₀, n, ex, y, h => by
    cases ex <;> first | (simp [E.chk] at h; done) | skip
    obtain ⟨v, h1, h2⟩ := const_ok h
    exact PE.mono h2 fun σ H Q q => tC_ok h1 q
  | .bin o a b, X, B, W₀, n, ex, y, h => by
    cases ex <;> first | (simp [E.chk] at h; done) | skip
    rw [E.chk] at h
    obtain ⟨h1, h2, h3⟩ := and3 h
    rw [isBinO_eq h1]
    exact two_bin (opr_bin o) (fst_ok y h2 (E.snd a y h2)) (E.snd b y h3) fun Q F H T σ ρ va vb za zb a1 a2 a3 a4 => bin_ok o a1 a2 a3 a4
  | .cmp o a b, X, B, W₀, n, ex, y, h => by
    cases ex <;> first | (simp [E.chk] at h; done) | skip
    rename_i ea ops es pos
    rcases ops with _ | ⟨op, _ | ⟨op2, ops⟩⟩ <;> first | (simp [E.chk] at h; done) | skip
    rcases es with _ | ⟨eb, _ | ⟨eb2, es⟩⟩ <;> first | (simp [E.chk] at h; done) | skip
    rw [E.chk] at h
    obtain ⟨h1, h2, h3, h4⟩ := and4 h
    rw [isCmpO_eq h1]
    exact cmp_pe y.room h2 (fst_ok y h3 (E.snd a y h3)) (E.snd b y h4)
  | .chain o1 o2 a b c, X, B, W₀, n, ex, y, h => by
    cases ex <;> first | (simp [E.chk] at h; done) | skip
    rename_i ea ops es pos
    rcases ops with _ | ⟨op, _ | ⟨op2, _ | ⟨op3, ops⟩⟩⟩ <;> first | (simp [E.chk] at h; done) | skip
    rcases es with _ | ⟨eb, _ | ⟨eb2, _ | ⟨eb3, es⟩⟩⟩ <;> first | (simp [E.chk] at h; done) | skip
    rw [E.chk] at h
    obtain ⟨h', h6⟩ := and2 h
    obtain ⟨h'', h5⟩ := and2 h'
    obtain ⟨h1, h2, h3, h4⟩ := and4 h''
    rw [isCmpO_eq h1, isCmpO_eq h2]
    exact chain_pe y.room h3 (E.snd a y h4) (E.snd b y h5) (E.snd c y h6)
  | .andE a b, X, B, W₀, n, ex, y, h => by
    cases ex <;> first | (simp [E.chk] at h; done) | skip
    rename_i op es pos
    cases op <;> first | (simp [E.chk] at h; done) | skip
    rcases es with _ | ⟨ea, _ | ⟨eb, rest⟩⟩ <;> first | (simp [E.chk] at h; done) | skip
    rw [E.chk] at h
    obtain ⟨h1, h2⟩ := and2 h
    exact and_pe (E.snd a y h1) (andB_pe (fun hb => E.snd b y hb) h2)
  | .orE a b, X, B, W₀, n, ex, y, h => by
    cases ex <;> first | (simp [E.chk] at h; done) | skip
    rename_i op es pos
    cases op <;> first | (simp [E.chk] at h; done) | skip
    rcases es with _ | ⟨ea, _ | ⟨eb, rest⟩⟩ <;> first | (simp [E.chk] at h; done) | skip
    rw [E.chk] at h
    obtain ⟨h1, h2⟩ := and2 h
    exact or_pe (E.snd a y h1) (andB_pe (fun hb => E.snd b y hb) h2)
  | .nt a, X, B, W₀, n, ex, y, h => by
    cases ex <;> first | (simp [E.chk] at h; done) | skip
    rename_i op e1 pos
    cases op <;> first | (simp [E.chk] at h; done) | skip
    exact nt_pe (E.snd a y h)
  | .ng a, X, B, W₀, n, ex, y, h => by
    cases ex <;> first | (simp [E.chk] at h; done) | skip
    rename_i op e1 pos
    cases op <;> first | (simp [E.chk] at h; done) | skip
    exact ng_pe (E.snd a y h)
  | .ife t a b, X, B, W₀, n, ex, y, h => by
    cases ex <;> first | (simp [E.chk] at h; done) | skip
    rw [E.chk] at h
    obtain ⟨h1, h2, h3⟩ := and3 h
    exact ife_pe (T.snd t y h1) (E.snd a y h2) (E.snd b y h3)
  | .tup es, X, B, W₀, n, ex, y, h => by
    cases ex <;> first | (simp [E.chk] at h; done) | skip
    exact tup_pe (Es.snd es y h)
  | .lst es, X, B, W₀, n, ex, y, h => by
    cases ex <;> first | (simp [E.chk] at h; done) | skip
    exact lst_pe (Es.snd es y h)
  | .ix a b, X, B, W₀, n, ex, y, h => by
    cases ex <;> first | (simp [E.chk] at h; done) | skip
    rw [E.chk] at h
    obtain ⟨h1, h2, h3⟩ := and3 h
    exact ix_pe h1 (fst_ok y h2 (E.snd a y h2)) (E.snd b y h3)
  | .sl a lo hi, X, B, W₀, n, ex, y, h => by
    cases ex <;> first | (simp [E.chk] at h; done) | skip
    rename_i ea es pos
    cases es <;> first | (simp [E.chk] at h; done) | skip
    rename_i elo ehi st pos
    cases st <;> first | (simp [E.chk] at h; done) | skip
    rw [E.chk] at h
    obtain ⟨h1, h2, h3⟩ := and3 h
    exact sl_pe (fst_ok y h1 (E.snd a y h1)) (bnd_po (fun q => E.snd lo y q) h2) (bnd_po (fun q => E.snd hi y q) h3)
  | .call f es, X, B, W₀, n, ex, y, h => by
    cases ex <;> first | (simp [E.chk] at h; done) | skip
    rename_i fn args kws pos
    cases fn <;> first | (simp [E.chk] at h; done) | skip
    rcases kws with _ | ⟨kw, kws⟩ <;> first | (simp [E.chk] at h; done) | skip
    rcases args with _ | ⟨ee, ees⟩ <;> first | (simp [E.chk] at h; done) | skip
    rw [E.chk] at h
    obtain ⟨h1, h2, h3⟩ := and3 h
    exact call_pe y h2 h1 (fun env => (Es.star1 h3).1) (fun env => (Es.star1 h3).2) (Es.snd es y h3)
  | .call0 f, X, B, W₀, n, ex, y, h => by
    cases ex <;> first | (simp [E.chk] at h; done) | skip
    rename_i fn args kws pos
    cases fn <;> first | (simp [E.chk] at h; done) | skip
    rcases kws with _ | ⟨kw, kws⟩ <;> first | (simp [E.chk] at h; done) | skip
    rcases args with _ | ⟨ee, ees⟩ <;> first | (simp [E.chk] at h; done) | skip
    rw [E.chk] at h
    obtain ⟨h1, h2⟩ := and2 h
    exact call0_pe y h2 h1
  | .own e, X, B, W₀, n, ex, y, h => E.snd e y h
  | .callk f ks pm kes, X, B, W₀, n, ex, y, h => by
    cases ex <;> first | (simp [E.chk] at h; done) | skip
    rename_i fn args kws pos
    cases fn <;> first | (simp [E.chk] at h; done) | skip
    rcases args with _ | ⟨ee, ees⟩ <;> first | (simp [E.chk] at h; done) | skip
    rw [E.chk] at h
    obtain ⟨h', h5⟩ := and2 h
    obtain ⟨h1, h2, h3, h4⟩ := and4 h'
    exact callk_pe y h2 h3 h1 (of_decide_eq_true h4) (Es.sndK kes y h5)
  | .b1 f a, X, B, W₀, n, ex, y, h => by
    cases ex <;> first | (simp [E.chk] at h; done) | skip
    rename_i fn args kws pos
    cases fn <;> first | (simp [E.chk] at h; done) | skip
    rcases kws with _ | ⟨kw, kws⟩ <;> first | (simp [E.chk] at h; done) | skip
    rcases args with _ | ⟨ee, _ | ⟨e2, ees⟩⟩ <;> first | (simp [E.chk] at h; done) | skip
    rw [E.chk] at h
    obtain ⟨h1, h2⟩ := and2 h
    obtain ⟨e1, g1, d1, d2⟩ := gB_inv h1
    exact b1_pe y.calm (y.gl g1) (y.blt _ (by rw [e1]; cases f <;> decide +kernel)) e1 d2 d1 (fun env => star1 h2) (E.snd a y h2)
  | .sset a, X, B, W₀, n, ex, y, h => by
    cases ex <;> first | (simp [E.chk] at h; done) | skip
    rename_i fn args kws pos
    cases fn <;> first | (simp [E.chk] at h; done) | skip
    rcases kws with _ | ⟨kw, kws⟩ <;> first | (simp [E.chk] at h; done) | skip
    rcases args with _ | ⟨ee, _ | ⟨e2, ees⟩⟩ <;> first | (simp [E.chk] at h; done) | skip
    cases ee <;> first | (simp [E.chk] at h; done) | skip
    rename_i fn2 args2 kws2 pos2
    cases fn2 <;> first | (simp [E.chk] at h; done) | skip
    rcases kws2 with _ | ⟨kw, kws2⟩ <;> first | (simp [E.chk] at h; done) | skip
    rcases args2 with _ | ⟨ee, _ | ⟨e2, ees⟩⟩ <;> first | (simp [E.chk] at h; done) | skip
    rw [E.chk] at h
    obtain ⟨h1, h2, h3⟩ := and3 h
    exact sset_pe y h1 h2 (fun env => star1 h3) (E.snd a y h3)
  | .b2 f a b, X, B, W₀, n, ex, y, h => by
    cases ex <;> first | (simp [E.chk] at h; done) | skip
    rename_i fn args kws pos
    cases fn <;> first | (simp [E.chk] at h; done) | skip
    rcases kws with _ | ⟨kw, kws⟩ <;> first | (simp [E.chk] at h; done) | skip
    rcases args with _ | ⟨ee, _ | ⟨e2, _ | ⟨e3, ees⟩⟩⟩ <;> first | (simp [E.chk] at h; done) | skip
    rw [E.chk] at h
    obtain ⟨h1, h2, h3⟩ := and3 h
    obtain ⟨e1, g1, d1, d2⟩ := gB_inv h1
    exact b2_pe y.calm (y.gl g1) (y.blt _ (by rw [e1]; cases f <;> decide +kernel)) e1 d2 d1 (fun env => star1 h2) (fun env => star1 h3) (E.snd a y h2) (E.snd b y h3)
  | .isi a tys, X, B, W₀, n, ex, y, h => by
    cases ex <;> first | (simp [E.chk] at h; done) | skip
    rename_i fn args kws pos
    cases fn <;> first | (simp [E.chk] at h; done) | skip
    rcases kws with _ | ⟨kw, kws⟩ <;> first | (simp [E.chk] at h; done) | skip
    rcases args with _ | ⟨ee, _ | ⟨e2, _ | ⟨e3, ees⟩⟩⟩ <;> first | (simp [E.chk] at h; done) | skip
    rw [E.chk] at h
    obtain ⟨h1, hl, h2, h3⟩ := and4 h
    unfold tysC at h3
    split at h3
    · exact isiT_pe y h1 (fun env es => star1 h2) h3 (of_decide_eq_true hl) (E.snd a y h2)
    · rcases tys with _ | ⟨t, _ | ⟨t2, ts⟩⟩
      · simp [tyNames] at h3
      · cases e2 <;> first | (simp [tyNames] at h3; done) | skip
        unfold tyNames at h3
        exact isi1_pe y h1 (fun env es => star1 h2) (and2 h3).1 (E.snd a y h2)
      · cases e2 <;> (simp [tyNames] at h3; done)
  | .gin x neg a, X, B, W₀, n, ex, y, h => by
    cases ex <;> first | (simp [E.chk] at h; done) | skip
    rename_i ea ops es pos
    rcases ops with _ | ⟨op, _ | ⟨op2, ops⟩⟩ <;> first | (simp [E.chk] at h; done) | skip
    rcases es with _ | ⟨eb, _ | ⟨eb2, es⟩⟩ <;> first | (simp [E.chk] at h; done) | skip
    cases eb <;> first | (simp [E.chk] at h; done) | skip
    rw [E.chk] at h
    obtain ⟨h1, h2, h3, h4⟩ := and4 h
    rw [isCmpO_eq h1]
    exact gin_pe y h2 h3 (E.snd a y h4)
  | .gix x a, X, B, W₀, n, ex, y, h => by
    cases ex <;> first | (simp [E.chk] at h; done) | skip
    rename_i ea eb pos
    cases ea <;> first | (simp [E.chk] at h; done) | skip
    rw [E.chk] at h
    obtain ⟨h1, h2, h3, h4⟩ := and4 h
    exact gix_pe y h1 h2 h3 (E.snd a y h4)
  | .m1 m a b, X, B, W₀, n, ex, y, h => by
    cases ex <;> first | (simp [E.chk] at h; done) | skip
    rename_i fn args kws pos
    cases fn <;> first | (simp [E.chk] at h; done) | skip
    rcases kws with _ | ⟨kw, kws⟩ <;> first | (simp [E.chk] at h; done) | skip
    rcases args with _ | ⟨ee, _ | ⟨e2, ees⟩⟩ <;> first | (simp [E.chk] at h; done) | skip
    rw [E.chk] at h
    obtain ⟨h', h5⟩ := and2 h
    obtain ⟨h1, h2, h3, h4⟩ := and4 h'
    exact m1_pe (of_decide_eq_true h2) h1 h3 (fun env => star1 h5) (E.snd a y h4) (E.snd b y h5)
  | .lc own tg it c e, X, B, W₀, n, ex, y, h => by
    cases ex <;> first | (simp [E.chk] at h; done) | skip
    rename_i elt gens scope pos
    rcases gens with _ | ⟨⟨tgt, iter, ifs, as⟩, _ | ⟨g2, gens⟩⟩ <;> first | (simp [E.chk] at h; done) | skip
    rcases as with (_ | as) | as
    · replace h : E.chk n (.lc own tg it c e) (.ListComp elt [⟨tgt, iter, ifs, 0⟩] scope pos) = true := h
      rw [E.chk] at h
      obtain ⟨h', h8⟩ := and2 h
      obtain ⟨h', h7⟩ := and2 h'
      obtain ⟨h', h6⟩ := and2 h'
      obtain ⟨h', h5⟩ := and2 h'
      obtain ⟨h1, h2, h3, h4⟩ := and4 h'
      show PE X (.ListComp elt [⟨tgt, iter, ifs, 0⟩] scope pos) _
      refine lc_pe y h1 h2 (fun i hi => ?_) h6 (I.snd it y h4) h3 (fun X' y' => ?_) fun X' y' => E.snd e y' h8
      · have q := List.all_eq_true.mp h5 i hi
        exact List.contains_iff_mem.mp q
      · unfold ifC at h7
        split at h7
        · cases c <;> first | (simp [T.isYes] at h7; done) | skip
          exact yes_pts
        · exact pts_one (T.snd c y' h7)
        · cases h7
    · cases h
    · cases h
theorem Es.snd : ∀ (es : Es) {X : Cx} {B : Ba} {W₀ : WX} {n : Nm} {exs : List Expr}, Hy X B W₀ n k cf g → es.chk n exs = true → PA X exs (tAr X B W₀ (es.ev cf g))
  | .nil, X, B, W₀, n, exs, y, h => by
    rcases exs with _ | ⟨ex, exs⟩ <;> first | (simp [Es.chk] at h; done) | skip
    exact nil_pa
  | .cons e es, X, B, W₀, n, exs, y, h => by
    rcases exs with _ | ⟨ex, exs⟩ <;> first | (simp [Es.chk] at h; done) | skip
    rw [Es.chk] at h
    obtain ⟨h1, h2⟩ := and2 h
    have ih := Es.snd es y h2
    cases e with
    | io i =>
      cases ex <;> first | (simp [argC, E.chk] at h1; done) | skip
      exact io_pa (y.var h1) ih
    | own e => exact ownA_pa (fun env => Co.star1 (e := .own e) h1) (E.snd e y h1) ih
    | _ => exact cons_pa (fun env => Co.star1 h1) (E.snd _ y h1) ih
theorem Es.sndK : ∀ (es : Es) {X : Cx} {B : Ba} {W₀ : WX} {n : Nm} {kws : List Keyword}, Hy X B W₀ n k cf g → es.chk n (kws.map (·.value)) = true → PK X kws (tAr X B W₀ (es.ev cf g))
  | .nil, X, B, W₀, n, kws, y, h => by
    rcases kws with _ | ⟨kw, kws⟩ <;> first | (simp [Es.chk] at h; done) | skip
    exact nil_pk
  | .cons e es, X, B, W₀, n, kws, y, h => by
    rcases kws with _ | ⟨⟨nm, ex, kp⟩, kws⟩ <;> first | (simp [Es.chk] at h; done) | skip
    rw [List.map_cons, Es.chk] at h
    obtain ⟨h1, h2⟩ := and2 h
    have ih := Es.sndK es y h2
    cases e with
    | io i =>
      have h1 : argC n (.io i) ex (E.chk n (.io i) ex) = true := h1
      cases ex <;> first | (simp [argC, E.chk] at h1; done) | skip
      exact io_pk (y.var h1) ih
    | own e => exact ownA_pk (E.snd e y h1) ih
    | _ => exact cons_pk (E.snd _ y h1) ih
theorem T.snd : ∀ (t : T) {X : Cx} {B : Ba} {W₀ : WX} {n : Nm} {ex : Expr}, Hy X B W₀ n k cf g → t.chk n ex = true → PT X ex (tT X B W₀ (t.tst cf g))
  | .yes, X, B, W₀, n, ex, y, h => by
    cases ex <;> (simp [T.chk] at h; done)
  | .val e, X, B, W₀, n, ex, y, h => by
    obtain ⟨h1, h2⟩ := and2 (show (plainT ex && e.chk n ex) = true from h)
    have ih := E.snd e y h2
    refine PT.mono (pt_truth ih (by cases ex <;> first | (intro _; rfl) | (rename_i op _ _; cases op <;> first | (intro _; rfl) | (simp [plainT] at h1; done)) | (simp [plainT] at h1; done))) fun σ H Q ⟨F, T, ρ, r, f⟩ => ⟨F, T, ρ, r, fin_bind0 f fun z ρ1 v F1 H1 zr f1 => ?_⟩
    obtain ⟨b, e, f2⟩ := liftO_fin f1
    exact ⟨b, tru_val zr.rd e, f2 b F1 H1 ⟨rfl, zr.rl⟩⟩
  | .nt t, X, B, W₀, n, ex, y, h => by
    cases ex <;> first | (simp [T.chk] at h; done) | skip
    rename_i op e1 pos
    cases op <;> first | (simp [T.chk] at h; done) | skip
    have ih := T.snd t y h
    refine PT.mono (pt_not ih) fun σ H Q ⟨F, T, ρ, r, f⟩ => ⟨F, T, ρ, r, fin_bind0 f fun b ρ1 b' F1 H1 hr f1 => ?_⟩
    obtain ⟨e, r1⟩ := hr
    rw [e]
    exact f1 _ F1 H1 ⟨rfl, r1⟩
  | .and a b, X, B, W₀, n, ex, y, h => by
    cases ex <;> first | (simp [T.chk] at h; done) | skip
    rename_i op es pos
    cases op <;> first | (simp [T.chk] at h; done) | skip
    rcases es with _ | ⟨ea, _ | ⟨eb, rest⟩⟩ <;> first | (simp [T.chk] at h; done) | skip
    rw [T.chk] at h
    obtain ⟨h1, h2⟩ := and2 h
    exact andT_pt (T.snd a y h1) (andC_pw (fun q => T.snd b y q) h2 (.inl rfl))
  | .or a b, X, B, W₀, n, ex, y, h => by
    cases ex <;> first | (simp [T.chk] at h; done) | skip
    rename_i op es pos
    cases op <;> first | (simp [T.chk] at h; done) | skip
    rcases es with _ | ⟨ea, _ | ⟨eb, rest⟩⟩ <;> first | (simp [T.chk] at h; done) | skip
    rw [T.chk] at h
    obtain ⟨h1, h2⟩ := and2 h
    exact orT_pt (T.snd a y h1) (andC_pw (fun q => T.snd b y q) h2 (.inr rfl))
  | .cmp o a b, X, B, W₀, n, ex, y, h => by
    cases ex <;> first | (simp [T.chk] at h; done) | skip
    rename_i ea ops es pos
    rcases ops with _ | ⟨op, _ | ⟨op2, ops⟩⟩ <;> first | (simp [T.chk] at h; done) | skip
    rcases es with _ | ⟨eb, _ | ⟨eb2, es⟩⟩ <;> first | (simp [T.chk] at h; done) | skip
    rw [T.chk] at h
    obtain ⟨h1, h2, h3, h4⟩ := and4 h
    rw [isCmpO_eq h1]
    exact cmp_pt y.room h2 (fst_ok y h3 (E.snd a y h3)) (E.snd b y h4)
  | .chain o1 o2 a b c, X, B, W₀, n, ex, y, h => by
    cases ex <;> first | (simp [T.chk] at h; done) | skip
    rename_i ea ops es pos
    rcases ops with _ | ⟨op, _ | ⟨op2, _ | ⟨op3, ops⟩⟩⟩ <;> first | (simp [T.chk] at h; done) | skip
    rcases es with _ | ⟨eb, _ | ⟨eb2, _ | ⟨eb3, es⟩⟩⟩ <;> first | (simp [T.chk] at h; done) | skip
    rw [T.chk] at h
    obtain ⟨h', h6⟩ := and2 h
    obtain ⟨h'', h5⟩ := and2 h'
    obtain ⟨h1, h2, h3, h4⟩ := and4 h''
    rw [isCmpO_eq h1, isCmpO_eq h2]
    exact chain_pt y.room h3 (E.snd a y h4) (E.snd b y h5) (E.snd c y h6)
  | .gin x neg a, X, B, W₀, n, ex, y, h => by
    cases ex <;> first | (simp [T.chk] at h; done) | skip
    rename_i ea ops es pos
    rcases ops with _ | ⟨op, _ | ⟨op2, ops⟩⟩ <;> first | (simp [T.chk] at h; done) | skip
    rcases es with _ | ⟨eb, _ | ⟨eb2, es⟩⟩ <;> first | (simp [T.chk] at h; done) | skip
    cases eb <;> first | (simp [T.chk] at h; done) | skip
    rw [T.chk] at h
    obtain ⟨h1, h2, h3, h4⟩ := and4 h
    rw [isCmpO_eq h1]
    exact gin_pt y h2 h3 (E.snd a y h4)
theorem I.snd : ∀ (it : I) {X : Cx} {B : Ba} {W₀ : WX} {n : Nm} {tg ex : Expr}, Hy X B W₀ n k cf g → it.chk n (isTup tg) ex = true → PI X tg ex (tI X B W₀ (it.ev cf g))
  | .seq e, X, B, W₀, n, tg, ex, y, h => seq_pi (E.snd e y (show e.chk n ex = true by simpa [I.chk] using h))
  | .rng1 a, X, B, W₀, n, tg, ex, y, h => by
    cases ex <;> first | (simp [I.chk] at h; done) | skip
    rename_i fn args kws pos
    cases fn <;> first | (simp [I.chk] at h; done) | skip
    rcases args with _ | ⟨ee, _ | ⟨e2, ees⟩⟩ <;> first | (simp [I.chk] at h; done) | skip
    rcases kws with _ | ⟨kw, kws⟩ <;> first | (simp [I.chk] at h; done) | skip
    rw [I.chk] at h
    obtain ⟨h1, h2⟩ := and2 h
    exact rng1_pi y h1 (fun env => star1 h2) (E.snd a y h2)
  | .rng2 a b, X, B, W₀, n, tg, ex, y, h => by
    cases ex <;> first | (simp [I.chk] at h; done) | skip
    rename_i fn args kws pos
    cases fn <;> first | (simp [I.chk] at h; done) | skip
    rcases args with _ | ⟨ee, _ | ⟨e2, _ | ⟨e3, ees⟩⟩⟩ <;> first | (simp [I.chk] at h; done) | skip
    rcases kws with _ | ⟨kw, kws⟩ <;> first | (simp [I.chk] at h; done) | skip
    rw [I.chk] at h
    obtain ⟨h1, h2, h3⟩ := and3 h
    exact rng2_pi y h1 (fun env es => star1 h2) (fun env => star1 h3) (E.snd a y h2) (E.snd b y h3)
  | .rng3 a b c, X, B, W₀, n, tg, ex, y, h => by
    cases ex <;> (simp [I.chk] at h; done)
  | .enum a, X, B, W₀, n, tg, ex, y, h => by
    cases ex <;> first | (simp [I.chk] at h; done) | skip
    rename_i fn args kws pos
    cases fn <;> first | (simp [I.chk] at h; done) | skip
    rcases args with _ | ⟨ee, _ | ⟨e2, ees⟩⟩ <;> first | (simp [I.chk] at h; done) | skip
    rcases kws with _ | ⟨kw, kws⟩ <;> first | (simp [I.chk] at h; done) | skip
    rw [I.chk] at h
    obtain ⟨h1, h2, h3⟩ := and3 h
    cases tg <;> first | (simp [isTup] at h1; done) | skip
    exact enum_pi y h2 (fun env => star1 h3) (E.snd a y h3)
  | .zip a b, X, B, W₀, n, tg, ex, y, h => by
    cases ex <;> first | (simp [I.chk] at h; done) | skip
    rename_i fn args kws pos
    cases fn <;> first | (simp [I.chk] at h; done) | skip
    rcases args with _ | ⟨ee, _ | ⟨e2, _ | ⟨e3, ees⟩⟩⟩ <;> first | (simp [I.chk] at h; done) | skip
    rcases kws with _ | ⟨kw, kws⟩ <;> first | (simp [I.chk] at h; done) | skip
    rw [I.chk] at h
    obtain ⟨h1, h2, h3, h4⟩ := and4 h
    cases tg <;> first | (simp [isTup] at h1; done) | skip
    exact zip_pi y h2 (fun env es => star1 h3) (fun env => star1 h4) (E.snd a y h3) (E.snd b y h4)
end
end
end Co

set_option Elab.async false
set_option linter.all false
set_option maxRecDepth 100000
set_option maxHeartbeats 8000000
namespace Co
open PySem PySem.Spec PyProof.Rows L2
/-! ### statements -/
section
variable (X : Cx) (B : Ba) (W₀ : WX)
def FinS (T : List (V × W)) (D : Ends) : Fl → Prop
  | .nx ρ => ∀ σ F H, RL X B F H T σ ρ → D.nx σ H
  | .rt x ρ => ∀ v σ F H, x.isIo = false → RL X B F H ((v, x) :: T) σ ρ → D.rt v H
  | .bk ρ => ∀ σ F H, RL X B F H T σ ρ → D.bk σ H
  | .ct ρ => ∀ σ F H, RL X B F H T σ ρ → D.ct σ H
  | .ex x ρ => ∀ cls d σ F H, RL X B F H T σ ρ → XR X.K X.mg H x cls d → W₀ cls d σ H
  | .bad => False
def tS (m : Env → Fl) : TS := fun D σ H => ∃ F T ρ, RL X B F H T σ ρ ∧ FinS X B W₀ T D (m ρ)
end
section
variable {X : Cx} {B : Ba} {W₀ : WX} {n : Nm} {k : Nat} {cf : CF} {g : G} {F H : Hp} {T M : List (V × W)} {σ : St} {ρ ρ1 : Env} {D : Ends}
theorem FinS.drops : ∀ {f : Fl}, FinS X B W₀ T D f → FinS X B W₀ (M ++ T) D f
  | .nx ρ, h => fun σ F H r => h σ F H r.drops
  | .rt x ρ, h => fun v σ F H hx r => h v σ F H hx (by
      have q : RL X B F H (M ++ ((v, x) :: T)) σ ρ := Rel.perm r List.perm_middle.symm
      exact q.drops)
  | .bk ρ, h => fun σ F H r => h σ F H r.drops
  | .ct ρ, h => fun σ F H r => h σ F H r.drops
  | .ex x ρ, h => fun cls d σ F H r hx => h cls d σ F H r.drops hx
  | .bad, h => h
theorem fl_bind {α β : Type} {rel : α → Env → β → Hp → Hp → Prop} {Q : β → Hp → Prop} {r : R α} {f : α → Env → Fl}
    (h : FinS X B W₀ T D (Fl.of r f)) (hf : ∀ a ρ1 b F1 H1, rel a ρ1 b F1 H1 → FinS X B W₀ T D (f a ρ1) → Q b H1) : FinA X B W₀ (M ++ T) σ rel Q r := by
  cases r with
  | ok a ρ1 => exact fun b F1 H1 hr => hf a ρ1 b F1 H1 hr h
  | ex x ρ1 => exact fun cls d F1 H1 hr hx => h cls d σ F1 H1 hr.drops hx
  | bad => exact h
theorem fl_bind0 {α β : Type} {rel : α → Env → β → Hp → Hp → Prop} {Q : β → Hp → Prop} {r : R α} {f : α → Env → Fl}
    (h : FinS X B W₀ T D (Fl.of r f)) (hf : ∀ a ρ1 b F1 H1, rel a ρ1 b F1 H1 → FinS X B W₀ T D (f a ρ1) → Q b H1) : FinA X B W₀ T σ rel Q r := fl_bind (M := []) h hf
theorem nonBw_fl {T' : List (V × W)} {z : Z} {v : V} {f : W → Env → Fl} (h : ZR X B T' σ z ρ v F H) (hf : FinS X B W₀ T D (Fl.of (nonBw z ρ) f)) :
    ∃ x, z = .w x ∧ x.isIo = false ∧ RL X B F H ((v, x) :: T') σ ρ ∧ FinS X B W₀ T D (f x ρ) := by
  cases z with
  | w x => exact ⟨x, rfl, h.1, h.2, hf⟩
  | bw o => exact hf.elim
theorem PSs.mono {st : List Stmt} {t t' : TS} (h : PSs X st t) (q : ∀ D σ H, t' D σ H → t D σ H) : PSs X st t' := ⟨fun pins s σ H D I w => h.run pins s σ H D I (q D σ H w)⟩
theorem nil_pss : PSs X [] (tS X B W₀ fun ρ => .nx ρ) := PSs.mono pss_nil fun D σ H ⟨F, T, ρ, r, f⟩ => f σ F H r
theorem cons_pss {st : Stmt} {rest : List Stmt} {m m' : Env → Fl} (h : PS X st (tS X B W₀ m)) (h2 : PSs X rest (tS X B W₀ m')) : PSs X (st :: rest) (tS X B W₀ fun ρ => (m ρ).then m') :=
  PSs.mono (pss_cons h h2) fun D σ H ⟨F, T, ρ, r, f⟩ => ⟨F, T, ρ, r, by
    dsimp only at f
    cases q : m ρ with
    | nx ρ' => rw [q] at f; exact fun σ' F' H' r' => ⟨F', T, ρ', r', f⟩
    | rt x ρ' => rw [q] at f; exact f
    | bk ρ' => rw [q] at f; exact f
    | ct ρ' => rw [q] at f; exact f
    | ex x ρ' => rw [q] at f; exact f
    | bad => rw [q] at f; exact f⟩
/-! ### assignments -/
def asgM (tg : Tg) (m : Env → R Z) (ρ : Env) : Fl := Fl.of (m ρ) fun z ρ1 => Fl.of (nonBw z ρ1) fun x ρ2 => match tg with
    | .n i => .nx (ρ2.set i (some x))
    | t => match setTg t x.dat ρ2 with
      | some ρ3 => .nx ρ3
      | none => .bad
theorem asg_t {tg : Tg} {m : Env → R Z} (io : NoIo B tg.slots) : ∀ D σ H, tS X B W₀ (asgM tg m) D σ H → tAsg (tE X B W₀ m) (gT X.K tg) D σ H := fun D σ H ⟨F, T, ρ, r, f⟩ => ⟨F, T, ρ, r, fl_bind0 f fun z ρ1 v F1 H1 zr f1 => by
  obtain ⟨x, rfl, hx, r1, f2⟩ := nonBw_fl zr f1
  cases tg with
  | n i => exact f2 _ F1 H1 (Rel.store' r1 io)
  | t is =>
    obtain ⟨F2, s2, r2⟩ := Rel.frz r1 hx
    dsimp only at f2
    cases e : setTg (.t is) x.dat ρ1 with
    | none => rw [e] at f2; exact f2.elim
    | some ρ3 =>
      rw [e] at f2
      exact tg_ok (vs := is) r2 e io (fun i hi => hi) fun σ' r' _ => f2 σ' F2 H1 r'⟩
theorem par_ps (y : Hy X B W₀ n k cf g) {i j : Nat} {x z : Str} {ea eb : Expr} {px py pt pos : Pos} {kt k2 pt2} {ma mb : Env → R Z} (hi : stB n i x = true) (hj : stB n j z = true) (hij : i ≠ j)
    (hx : n.sc.names.lookup x = some .local) (hz : n.sc.names.lookup z = some .local) (hs : ∀ (env : PySem.Env) (es : List Expr), starEach (ea :: es) env = (false, eval ea env) :: starEach es env) (hs2 : ∀ env : PySem.Env, starEach [eb] env = [(false, eval eb env)])
    (ha : PE X ea (tE X B W₀ ma)) (hb : PE X eb (tE X B W₀ mb))
    (hw : swappedStores [.Tuple [.Name x px, .Name z py] kt pt] (.Tuple [ea, eb] k2 pt2) X.env = pure (some [x, z])) :
    PS X (.Assign [.Tuple [.Name x px, .Name z py] kt pt] (.Tuple [ea, eb] k2 pt2) pos) (tS X B W₀ fun ρ => Fl.of (ma ρ) fun za ρ1 => Fl.of (nonBw za ρ1) fun xa ρ2 => Fl.of (mb ρ2) fun zb ρ3 => Fl.of (nonBw zb ρ3) fun xb ρ4 => .nx ((ρ4.set i (some xa)).set j (some xb))) := by
  obtain ⟨a1, a2, a3, a4⟩ := stB_inv y hi
  obtain ⟨b1, b2, b3, b4⟩ := stB_inv y hj
  refine PS.mono (ps_par y.calm y.nd a1 b1 hij (by rw [y.eS]; exact hx) (by rw [y.eS]; exact hz) (pa_cons ha (pa_cons hb pa_nil (hs2 _)) (hs _ _)) hw) fun D σ H ⟨F, T, ρ, r, f⟩ => ⟨F, T, ρ, r, fl_bind0 f fun za ρ1 va F1 H1 zr f1 => ?_⟩
  obtain ⟨xa, rfl, hxa, r1, f2⟩ := nonBw_fl zr f1
  refine ⟨F1, (va, xa) :: T, ρ1, r1, fl_bind (M := [(va, xa)]) f2 fun zb ρ2 vb F2 H2 zr2 f3 => ?_⟩
  obtain ⟨xb, rfl, hxb, r2, f4⟩ := nonBw_fl zr2 f3
  refine ⟨va, vb, rfl, f4 _ F2 H2 ?_⟩
  exact Rel.store' (Rel.store' (Rel.perm r2 (.swap _ _ _)) a4) b4
theorem chg_inv {i : Nat} {f : List O → Option (List O)} (h : FinS X B W₀ T D (chg i ρ f)) : ∃ x os os', ρ[i]? = some (some x) ∧ lstOf x = some os ∧ f os = some os' ∧ FinS X B W₀ T D (.nx (ρ.set i (some (x.re (.l os'))))) := by
  unfold chg at h
  split at h
  · rename_i x e
    split at h
    · rename_i os e2
      split at h
      · rename_i os' e3
        exact ⟨x, os, os', e, e2, e3, h⟩
      · exact h.elim
    · exact h.elim
  · exact h.elim
theorem tVar_at {i : Nat} {v : V} {Q : VK} (hv : σ[i]? = some (some v)) (q : Q v H) : tVar i σ H Q := ⟨v, hv, q⟩
theorem isL_inv {i : Nat} {a : Fl} {T' : List (V × W)} (r : RL X B F H T' σ ρ) (h : FinS X B W₀ T D (if isL i ρ then a else .bad)) : ∃ p vs, σ[i]? = some (some (.ref p)) ∧ H p = some (.lst vs) ∧ FinS X B W₀ T D a := by
  split at h
  · rename_i q
    unfold isL at q
    split at q
    · rename_i x e
      obtain ⟨os, e2⟩ := Option.isSome_iff_exists.mp q
      obtain ⟨p, vs, A, hu, hp, ho, hl⟩ := r.ownAt e e2
      exact ⟨p, vs, hu, hp, h⟩
    · cases q
  · exact h.elim
theorem ixN_lt {m j : Nat} {i : Int} (h : ixN m i = some j) : j < m := by
  exact (ixN_seq h).2.1
theorem set_ps (y : Hy X B W₀ n k cf g) {i : Nat} {x : Str} {px sp pos : Pos} {ek ev : Expr} {mk mv : Env → R Z} (hi : nmB n i x = true) (hk : PE X ek (tE X B W₀ mk)) (hv : PE X ev (tE X B W₀ mv)) (hlc : notLc ev = true) (hsl : notSlice ek = true) :
    PS X (.Assign [.Subscript (.Name x px) ek sp] ev pos) (tS X B W₀ fun ρ => Fl.of (mv ρ) fun z ρ1 => Fl.of (nonBw z ρ1) fun x ρ2 => if isL i ρ2 then Fl.of (mk ρ2) fun zk ρ3 => chg i ρ3 (setF zk.dat x) else .bad) := by
  refine PS.mono (ps_asg hv (pg_sub (y.var hi) hk set_list (by cases ek <;> first | (simp [notSlice] at hsl; done) | (intro _; rfl))) (by cases ev <;> first | rfl | (simp [notLc] at hlc; done)) (by cases ev <;> rfl)) fun D σ H ⟨F, T, ρ, r, f⟩ => ⟨F, T, ρ, r, fl_bind0 f fun z ρ1 v F1 H1 zr f1 => ?_⟩
  obtain ⟨w, rfl, hw, r1, f2⟩ := nonBw_fl zr f1
  obtain ⟨p0, vs0, hu, hp0, f2⟩ := isL_inv r1 f2
  refine ⟨.ref p0, hu, F1, (v, w) :: T, ρ1, r1, fl_bind (M := [(v, w)]) f2 fun zk ρ2 vk F2 H2 zr2 f3 => ?_⟩
  obtain ⟨x0, os, os', e1, e2, e3, f4⟩ := chg_inv f3
  have rl := zr2.rl
  obtain ⟨p, vs, A, hu2, hp, ho, hl⟩ := rl.ownAt e1 e2
  rw [hu] at hu2
  cases hu2
  have rk := zr2.rd
  unfold setF at e3
  split at e3
  · rename_i m em
    rw [em] at rk
    cases q : ixN os.length m with
    | none => rw [q] at e3; cases e3
    | some j =>
      rw [q] at e3
      cases e3
      obtain ⟨h1, h2, h3, h4⟩ := ixN_seq q
      refine ⟨p0, vs, m, j, rfl, rk.intV, hp, by rw [hl]; exact q, ?_⟩
      exact f4 σ F2 _ (Rel.setI zr2.rl hw e1 e2 hu hp (ixN_lt q))
  · cases e3
/-! ### methods of lists -/
theorem app_ps (y : Hy X B W₀ n k cf g) {i : Nat} {x : Str} {px ap cp pos : Pos} {ev : Expr} {mv : Env → R Z} (hi : nmB n i x = true) (hl : (ap.endLine == cp.line) = true) (hs : ∀ env : PySem.Env, starEach [ev] env = [(false, eval ev env)]) (hv : PE X ev (tE X B W₀ mv)) :
    PS X (.Expr (.Call (.Attribute (.Name x px) (Str.ofString "append") ap) [ev] [] cp) pos) (tS X B W₀ fun ρ => if isL i ρ then Fl.of (mv ρ) fun z ρ1 => Fl.of (nonBw z ρ1) fun x ρ2 => chg i ρ2 (appF x) else .bad) := by
  have hfew : ((backTo cp (starEach [ev] X.env)).all (fun x => !x.1) && (backToKw cp (keywordEach [] X.env)).all (fun x => x.1.isSome)
      && decide ([ev].length + ([] : List Keyword).length + (if ([] : List Keyword).isEmpty then 0 else 1) < 30)) = true := by rw [hs]; rfl
  refine PS.mono (ps_expr (pe_bm (r := rAppend) F.plainAttrs_list F.slot_list_append F.type_list_append mt_append (y.var hi) (pa_cons hv pa_nil (hs _)) rfl hfew hl (hs _) rfl) rfl) fun D σ H ⟨F, T, ρ, r, f⟩ => ?_
  obtain ⟨p0, vs0, hu, hp0, f2⟩ := isL_inv r f
  refine ⟨.ref p0, hu, .inl ⟨rfl, vs0, .inl (.inl hp0)⟩, F, T, ρ, r, fl_bind0 f2 fun z ρ1 v F1 H1 zr f3 => ?_⟩
  obtain ⟨w, rfl, hw, r1, f4⟩ := nonBw_fl zr f3
  obtain ⟨x0, os, os', e1, e2, e3, f5⟩ := chg_inv f4
  obtain ⟨p, vs, A, hu2, hp, ho, hl2⟩ := r1.ownAt e1 e2
  rw [hu] at hu2
  cases hu2
  unfold appF at e3
  split at e3
  · rename_i hz
    cases e3
    exact ⟨p0, vs, v, rfl, rfl, hp, by rw [hl2]; exact hz, f5 σ F1 _ (Rel.app r1 hw e1 e2 hu hp)⟩
  · cases e3
theorem ext_ps (y : Hy X B W₀ n k cf g) {i : Nat} {x : Str} {px ap cp pos : Pos} {ev : Expr} {mv : Env → R Z} (hi : nmB n i x = true) (hl : (ap.endLine == cp.line) = true) (hs : ∀ env : PySem.Env, starEach [ev] env = [(false, eval ev env)]) (hv : PE X ev (tE X B W₀ mv)) :
    PS X (.Expr (.Call (.Attribute (.Name x px) (Str.ofString "extend") ap) [ev] [] cp) pos) (tS X B W₀ fun ρ => if isL i ρ then Fl.of (mv ρ) fun z ρ1 => Fl.of (nonBw z ρ1) fun x ρ2 => chg i ρ2 (extF x.dat) else .bad) := by
  have hfew : ((backTo cp (starEach [ev] X.env)).all (fun x => !x.1) && (backToKw cp (keywordEach [] X.env)).all (fun x => x.1.isSome)
      && decide ([ev].length + ([] : List Keyword).length + (if ([] : List Keyword).isEmpty then 0 else 1) < 30)) = true := by rw [hs]; rfl
  refine PS.mono (ps_expr (pe_bm (r := rExtend) F.plainAttrs_list F.slot_list_extend F.type_list_extend mt_extend (y.var hi) (pa_cons hv pa_nil (hs _)) rfl hfew hl (hs _) rfl) rfl) fun D σ H ⟨F, T, ρ, r, f⟩ => ?_
  obtain ⟨p0, vs0, hu, hp0, f2⟩ := isL_inv r f
  refine ⟨.ref p0, hu, .inl ⟨rfl, vs0, .inl (.inl hp0)⟩, F, T, ρ, r, fl_bind0 f2 fun z ρ1 v F1 H1 zr f3 => ?_⟩
  obtain ⟨w, rfl, hw, r1, f4⟩ := nonBw_fl zr f3
  obtain ⟨x0, os, os', e1, e2, e3, f5⟩ := chg_inv f4
  obtain ⟨F2, s2, r2⟩ := Rel.frz r1 hw
  obtain ⟨p, vs, A, hu2, hp, ho, hl2⟩ := r1.ownAt e1 e2
  rw [hu] at hu2
  cases hu2
  unfold extF at e3
  split at e3
  · rename_i ds ed
    split at e3
    · rename_i hz
      cases e3
      rw [ed] at r2
      have rp : Rp X.K F2 v (.list ds) := r2.hd_fz
      cases rp with
      | @lst b zs _ hb rs =>
        have hb' : H1 b = some (.lst zs) := r2.sub _ _ hb
        exact ⟨p0, b, vs, zs, rfl, rfl, hp, hb', by rw [hl2, rps_len rs]; exact hz, f5 σ F2 _ (Rel.ext r2.drop e1 e2 hu hp rs)⟩
    · cases e3
  · cases e3
theorem app2_ps (y : Hy X B W₀ n k cf g) {i j : Nat} {x z : Str} {px ap cp pos sp pz : Pos} {ek : Expr} {mk : Env → R Z} (hi : nmB n i x = true) (hj : nmB n j z = true) (hl : (ap.endLine == cp.line) = true) (hsl : notSlice ek = true) (hk : PE X ek (tE X B W₀ mk)) :
    PS X (.Expr (.Call (.Attribute (.Subscript (.Name x px) ek sp) (Str.ofString "append") ap) [.Name z pz] [] cp) pos) (tS X B W₀ fun ρ => if isL i ρ then Fl.of (mk ρ) fun zk ρ1 => match ρ1[j]? with
      | some (some (.fz d)) => chg i ρ1 (app2F zk.dat d)
      | _ => .bad else .bad) := by
  have hpl : PlainIx ek := by cases ek <;> first | (simp [notSlice] at hsl; done) | exact fun _ _ => rfl
  refine PS.mono (ps_expr (pe_bm (r := rAppend) F.plainAttrs_list F.slot_list_append F.type_list_append mt_append (pe_ix ix_list (y.var hi) hk hpl) (pa_cons (y.var hj) pa_nil rfl) rfl rfl hl rfl rfl) rfl) fun D σ H ⟨F, T, ρ, r, f⟩ => ?_
  obtain ⟨p0, vs0, hu, hp0, f2⟩ := isL_inv r f
  refine ⟨.ref p0, hu, F, T, ρ, r, fl_bind0 f2 fun zk ρ1 vk F1 H1 zr f3 => ?_⟩
  have rk := zr.rd
  have r1 := zr.rl
  split at f3
  · rename_i d ej
    obtain ⟨vj, hvj, rpj, r2⟩ := r1.dup ej
    obtain ⟨x0, os, os', e1, e2, e3, f5⟩ := chg_inv f3
    obtain ⟨p, vs, A, hu2, hp, ho, hl2⟩ := r1.ownAt e1 e2
    rw [hu] at hu2
    cases hu2
    unfold app2F at e3
    split at e3
    · rename_i m em
      rw [em] at rk
      cases q : ixN os.length m with
      | none => rw [q] at e3; cases e3
      | some l =>
        rw [q] at e3
        have e3 : (match os[l]? with
          | some (.l ps) => if ps.length < sizeLine then some (os.set l (.l (ps ++ [.d d]))) else none
          | _ => none) = some os' := e3
        split at e3
        · rename_i ps el
          split at e3
          · rename_i hz
            cases e3
            obtain ⟨v2, A2, h1, h2⟩ := atI_or (i := m) ho (by unfold atI; rw [q]; exact el)
            cases h2 with
            | @l b ws _ A3 hb ro =>
              have q2 : ixN vs.length m = some l := by rw [hl2]; exact q
              have h1' : vs[l]? = some (.ref b) := by
                unfold atI at h1
                rw [q2] at h1
                exact h1
              refine ⟨p0, vs, m, .ref b, rfl, rk.intV, .inl (.inl hp), h1, .inl ⟨rfl, ws, .inl (.inl hb)⟩, vj, hvj, b, ws, vj, rfl, rfl, hb, by rw [ro.length]; exact hz, f5 σ F1 _ (Rel.app2 r1 rpj e1 e2 hu hp el h1' hb)⟩
          · cases e3
        · cases e3
    · cases e3
  · exact f3.elim
/-! ### the small ones -/
theorem xp_ps {ev : Expr} {pos : Pos} {mv : Env → R Z} (hlc : notLc ev = true) (hv : PE X ev (tE X B W₀ mv)) : PS X (.Expr ev pos) (tS X B W₀ fun ρ => Fl.of (mv ρ) fun _ ρ1 => .nx ρ1) :=
  PS.mono (ps_expr hv (by cases ev <;> first | rfl | (simp [notLc] at hlc; done))) fun D σ H ⟨F, T, ρ, r, f⟩ => ⟨F, T, ρ, r, fl_bind0 f fun z ρ1 v F1 H1 zr f1 => f1 σ F1 H1 zr.rl⟩
theorem ife_ps {et : Expr} {a b : List Stmt} {pos : Pos} {mt : Env → R Bool} {ma mb : Env → Fl} (ht : PT X et (tT X B W₀ mt)) (ha : PSs X a (tS X B W₀ ma)) (hb : PSs X b (tS X B W₀ mb)) :
    PS X (.If et a b pos) (tS X B W₀ fun ρ => Fl.of (mt ρ) fun c ρ1 => if c then ma ρ1 else mb ρ1) :=
  PS.mono (ps_if ht ha hb) fun D σ H ⟨F, T, ρ, r, f⟩ => ⟨F, T, ρ, r, fl_bind0 f fun c ρ1 c' F1 H1 hr f1 => by
    obtain ⟨e, r1⟩ := hr
    rw [e]
    cases c with
    | true => exact ⟨F1, T, ρ1, r1, f1⟩
    | false => exact ⟨F1, T, ρ1, r1, f1⟩⟩
theorem ret_ps {ev : Expr} {pos : Pos} {mv : Env → R Z} (hv : PE X ev (tE X B W₀ mv)) : PS X (.Return (some ev) pos) (tS X B W₀ fun ρ => Fl.of (mv ρ) fun z ρ1 => Fl.of (nonBw z ρ1) fun x ρ2 => .rt x ρ2) :=
  PS.mono (ps_ret hv) fun D σ H ⟨F, T, ρ, r, f⟩ => ⟨F, T, ρ, r, fl_bind0 f fun z ρ1 v F1 H1 zr f1 => by
    obtain ⟨w, rfl, hw, r1, f2⟩ := nonBw_fl zr f1
    exact f2 v σ F1 H1 hw r1⟩
theorem retN_ps {pos : Pos} : PS X (.Return none pos) (tS X B W₀ fun ρ => .rt (.fz .none) ρ) := PS.mono ps_retN fun D σ H ⟨F, T, ρ, r, f⟩ => f .non σ F H rfl (r.addfz .non)
theorem brk_ps {pos : Pos} : PS X (.Break pos) (tS X B W₀ fun ρ => .bk ρ) := PS.mono ps_break fun D σ H ⟨F, T, ρ, r, f⟩ => f σ F H r
theorem cont_ps {pos : Pos} : PS X (.Continue pos) (tS X B W₀ fun ρ => .ct ρ) := PS.mono ps_continue fun D σ H ⟨F, T, ρ, r, f⟩ => f σ F H r
theorem pass_ps {pos : Pos} : PS X (.Pass pos) (tS X B W₀ fun ρ => .nx ρ) := PS.mono ps_pass fun D σ H ⟨F, T, ρ, r, f⟩ => f σ F H r
theorem doc_ps {x j pos pos'} : PS X (.Expr (.Constant (.str x) j pos) pos') (tS X B W₀ fun ρ => .nx ρ) := PS.mono ps_doc fun D σ H ⟨F, T, ρ, r, f⟩ => f σ F H r
theorem nev_ps {st : Stmt} : PS X st (tS X B W₀ fun _ => .bad) := PS.mono ps_never fun D σ H ⟨F, T, ρ, r, f⟩ => (show False from f)
/-! ### loops -/
theorem for_ps (y : Hy X B W₀ n k cf g) {tg : Tg} {tgt iter : Expr} {body : List Stmt} {pos : Pos} {mi : Env → R (List Co.D)} {mb : Env → Fl} (htg : tg.chk n tgt = true) (hns : notSet iter = true) (hi : PI X tgt iter (tI X B W₀ mi)) (hb : PSs X body (tS X B W₀ mb)) :
    PS X (.For tgt iter body [] pos) (tS X B W₀ fun ρ => Fl.of (mi ρ) fun ds ρ1 => forLoop (fun d ρ => match setTg tg d ρ with
      | some ρ' => mb ρ'
      | none => .bad) ds ρ1) := by
  obtain ⟨hg, io⟩ := tg_pg y htg
  have hfs : ∀ x, foldedSetIterable iter X.env x = pure x := by cases iter <;> first | (simp [notSet] at hns; done) | (intro _; rfl)
  refine PS.mono (ps_for y.pas y.calm hi hg hb hfs) fun D σ H ⟨F, T, ρ, r, f⟩ => ⟨F, T, ρ, r, fl_bind0 f fun ds ρ1 J F1 H1 hir f1 => ?_⟩
  obtain ⟨TT, ok, r1⟩ := hir
  generalize hbd : (fun (d : Co.D) (ρ : Env) => match setTg tg d ρ with
      | some ρ' => mb ρ'
      | none => Fl.bad) = bd at f1
  refine ⟨fun i m σ H => ∃ F ρ, m = ds.length - i ∧ RL X B F H (TT ++ T) σ ρ ∧ FinS X B W₀ T D (forLoop bd (ds.drop i) ρ), ⟨ds.length, F1, ρ1, by simp, r1, by rw [List.drop_zero]; exact f1⟩, ?_⟩
  rintro i m σ2 H2 ⟨F2, ρ2, hm, r2, f2⟩
  by_cases hl : ds.length ≤ i
  · refine .inl ⟨(ok _ _ _ _ _ _ i r2).1 hl, ?_⟩
    rw [List.drop_eq_nil_of_le hl] at f2
    exact f2 σ2 F2 H2 r2.drops
  · have hl' : i < ds.length := by omega
    have ed : ds[i]? = some ds[i] := List.getElem?_eq_getElem hl'
    obtain ⟨go, yld⟩ := (ok _ _ _ _ _ _ i r2).2 _ ed
    rw [List.drop_eq_getElem_cons hl'] at f2
    generalize ds[i] = d at f2 yld ed
    refine .inr ⟨go, fun σ' H' => ∃ F ρ, RL X B F H' (TT ++ T) σ' ρ ∧ FinS X B W₀ T D (forLoop bd (ds.drop (i + 1)) ρ), fun σ' H' ⟨F, ρ, h1, h2⟩ => ⟨ds.length - (i + 1), by omega, F, ρ, rfl, h1, h2⟩, fun x H' hy => ?_⟩
    obtain ⟨F3, r4⟩ := yld x H' hy
    have f2 : FinS X B W₀ T D (match bd d ρ2 with
      | .nx ρ1 => forLoop bd (ds.drop (i + 1)) ρ1
      | .ct ρ1 => forLoop bd (ds.drop (i + 1)) ρ1
      | .bk ρ1 => .nx ρ1
      | r => r) := f2
    rw [← hbd] at f2
    dsimp only at f2
    cases est : setTg tg d ρ2 with
    | none => rw [est] at f2; exact f2.elim
    | some ρ3 =>
      rw [est] at f2
      rw [hbd] at f2
      refine tg_ok (vs := tg.slots) r4 est io (fun i hi => hi) fun σ3 r5 _ => ⟨F3, TT ++ T, ρ3, r5, ?_⟩
      dsimp only at f2
      cases q : mb ρ3 with
      | nx ρ4 => rw [q] at f2; exact fun σ' F' H' r' => ⟨F', ρ4, r', f2⟩
      | ct ρ4 => rw [q] at f2; exact fun σ' F' H' r' => ⟨F', ρ4, r', f2⟩
      | bk ρ4 => rw [q] at f2; exact fun σ' F' H' r' => f2 σ' F' H' r'.drops
      | rt x ρ4 => rw [q] at f2; exact FinS.drops (M := TT) (D := D) (f := .rt x ρ4) f2
      | ex x ρ4 => rw [q] at f2; exact FinS.drops (M := TT) (D := D) (f := .ex x ρ4) f2
      | bad => rw [q] at f2; exact f2
theorem whl_ps (y : Hy X B W₀ n k cf g) {et : Expr} {body : List Stmt} {pos : Pos} {mt : Env → R Bool} {mb : Env → Fl} {fuel : Nat} (ht : PT X et (tT X B W₀ mt)) (hb : PSs X body (tS X B W₀ mb)) :
    PS X (.While et body [] pos) (tS X B W₀ fun ρ => whlLoop mt mb fuel ρ) := by
  refine PS.mono (ps_while y.pas ht hb) fun D σ H ⟨F, T, ρ, r, f⟩ => ?_
  refine ⟨fun m σ H => ∃ F ρ, RL X B F H T σ ρ ∧ FinS X B W₀ T D (whlLoop mt mb m ρ), ⟨fuel, F, ρ, r, f⟩, ?_⟩
  rintro m σ2 H2 ⟨F2, ρ2, r2, f2⟩
  cases m with
  | zero => exact f2.elim
  | succ m =>
    refine ⟨F2, T, ρ2, r2, fl_bind0 (f := fun c ρ1 => if c then match mb ρ1 with
      | .nx ρ2 => whlLoop mt mb m ρ2
      | .ct ρ2 => whlLoop mt mb m ρ2
      | .bk ρ2 => .nx ρ2
      | r => r else .nx ρ1) f2 fun c ρ3 c' F3 H3 hr f3 => ?_⟩
    obtain ⟨e, r3⟩ := hr
    rw [e]
    cases c with
    | false => exact f3 σ2 F3 H3 r3
    | true =>
      rw [if_pos rfl] at f3 ⊢
      refine ⟨fun σ' H' => ∃ F ρ, RL X B F H' T σ' ρ ∧ FinS X B W₀ T D (whlLoop mt mb m ρ), fun σ' H' ⟨F, ρ, h1, h2⟩ => ⟨m, Nat.lt_succ_self m, F, ρ, h1, h2⟩, F3, T, ρ3, r3, ?_⟩
      cases q : mb ρ3 with
      | nx ρ4 => rw [q] at f3; exact fun σ' F' H' r' => ⟨F', ρ4, r', f3⟩
      | ct ρ4 => rw [q] at f3; exact fun σ' F' H' r' => ⟨F', ρ4, r', f3⟩
      | bk ρ4 => rw [q] at f3; exact f3
      | rt x ρ4 => rw [q] at f3; exact f3
      | ex x ρ4 => rw [q] at f3; exact f3
      | bad => rw [q] at f3; exact f3
end
end Co

set_option Elab.async false
set_option linter.all false
set_option maxRecDepth 100000
set_option maxHeartbeats 8000000
namespace Co
open PySem PySem.Spec PyProof.Rows L2
/-! ### whether a statement is what stands there -/
def fnB (sc : Scope) : Bool := match sc.kind with
  | .function => true
  | _ => false
theorem fnB_inv {sc : Scope} (h : fnB sc = true) : sc.kind = .function := by
  unfold fnB at h
  split at h
  · assumption
  · cases h
def swB (sc : Scope) (y : Str) (py : Pos) (scope : Scope) (pos : Pos) : Bool := sc.names.lookup y == some .local && py.line == pos.line && !(scope.names.any fun (n, k) => n == y && (k == .local || k == .cell))
theorem sw_lc {elt : Expr} {gs : List Comprehension} {scope : Scope} {pos py : Pos} {y : Str} {l : Nat} {env : PySem.Env} (hk : env.scope.kind = .function) :
    swapsWith (.ListComp elt gs scope pos) (some (.Name y py)) l env = pure (swB env.scope y py scope pos) := by
  have hb : env.blockKind = .function := by unfold Env.blockKind; rw [hk]; rfl
  unfold swapsWith
  simp only [hb, Expr.pos]
  rfl
def swNm (sc : Scope) (ts : List Expr) : List Str := ts.filterMap fun
  | .Name id pos => if sc.names.lookup id == some .local && pos.line == (ts.head?.map (·.pos.line)).getD 0 then some id else none
  | _ => none
def starE : Expr → Bool
  | .Starred _ _ => true
  | _ => false
def swN (sc : Scope) (ts vs : List Expr) : Option (Option (List Str)) :=
  if (!(ts.length == 2 || ts.length == 3) || vs.length != ts.length) = true then some none else
  if vs.any starE = true then some none else
  if ((swNm sc ts).length != ts.length || (swNm sc ts).eraseDups.length != (swNm sc ts).length) = true then some none else
  if vs.all (foldedForSure 8) = true then some none else
  if vs.all (constantsAlone 8) = true then none else some (some (swNm sc ts))
theorem sws {ts vs : List Expr} {a c} {pa pc : Pos} {env : PySem.Env} {r : Option (List Str)} (hk : env.scope.kind = .function) (h : swN env.scope ts vs = some r) : swappedStores [.Tuple ts a pa] (.Tuple vs c pc) env = pure r := by
  have hb : env.blockKind = .function := by unfold Env.blockKind; rw [hk]; rfl
  unfold swN at h
  unfold swappedStores
  simp only [hb]
  show (if (!(ts.length == 2 || ts.length == 3) || vs.length != ts.length || false) = true then pure none else if vs.any starE = true then pure none else if ((swNm env.scope ts).length != ts.length || (swNm env.scope ts).eraseDups.length != (swNm env.scope ts).length) = true then pure none else if vs.all (foldedForSure 8) = true then pure none else if vs.all (constantsAlone 8) = true then _ else pure (some (swNm env.scope ts))) = pure r
  rw [Bool.or_false]
  split at h
  · rename_i q
    cases h
    rw [if_pos q]
  · rename_i q
    rw [if_neg q]
    split at h
    · rename_i q
      cases h
      rw [if_pos q]
    · rename_i q
      rw [if_neg q]
      split at h
      · rename_i q
        cases h
        rw [if_pos q]
      · rename_i q
        rw [if_neg q]
        split at h
        · rename_i q
          cases h
          rw [if_pos q]
        · rename_i q
          rw [if_neg q]
          split at h
          · cases h
          · rename_i q
            cases h
            rw [if_neg q]
def E.notOwn : E → Bool
  | .own _ => false
  | _ => true
/-- name = [..], the swapped form -/
theorem lcN_ps {k : Nat} {cf : CF} {g : G} {X : Cx} {B : Ba} {W₀ : WX} {n : Nm} {e : E} {i : Nat} {x : Str} {px pos spos : Pos} {elt : Expr} {gs : List Comprehension} {scope : Scope} (y : Hy X B W₀ n k cf g) (hno : e.notOwn = true) (h : e.chk n (.ListComp elt gs scope pos) = true)
    (hy : X.N[i]? = some x) (hyl : X.env.scope.names.lookup x = some .local) (hsw : swapsWith (.ListComp elt gs scope pos) (some (.Name x px)) spos.line X.env = pure true) :
    PS X (.Assign [.Name x px] (.ListComp elt gs scope pos) spos) (tAsg (tE X B W₀ (e.ev cf g)) (gName i)) := by
  cases e <;> first | (simp [E.chk] at h; done) | (cases hno; done) | skip
  rename_i own tg it c e
  rcases gs with _ | ⟨⟨tgt, iter, ifs, as⟩, _ | ⟨g2, gens⟩⟩ <;> first | (simp [E.chk] at h; done) | skip
  rcases as with (_ | as) | as
  · replace h : E.chk n (.lc own tg it c e) (.ListComp elt [⟨tgt, iter, ifs, 0⟩] scope pos) = true := h
    rw [E.chk] at h
    obtain ⟨h', h8⟩ := and2 h
    obtain ⟨h', h7⟩ := and2 h'
    obtain ⟨h', h6⟩ := and2 h'
    obtain ⟨h', h5⟩ := and2 h'
    obtain ⟨h1, h2, h3, h4⟩ := and4 h'
    refine lc_ps y h1 h2 (fun i hi => ?_) h6 (I.snd it y h4) h3 (fun X' y' => ?_) (fun X' y' => E.snd e y' h8) hy hyl hsw
    · have q := List.all_eq_true.mp h5 i hi
      exact List.contains_iff_mem.mp q
    · unfold ifC at h7
      split at h7
      · cases c <;> first | (simp [T.isYes] at h7; done) | skip
        exact yes_pts
      · exact pts_one (T.snd c y' h7)
      · cases h7
  · cases h
  · cases h
/-- what is asked of name = value besides -/
def asgC (n : Nm) (tgt val : Expr) : Bool := match tgt, val with
  | .Name _ _, .ListComp _ _ _ _ => fnB n.sc
  | .Name _ _, e => notLc e
  | .Tuple ts _ _, .Tuple vs _ _ => fnB n.sc && (match swN n.sc ts vs with
    | some none => true
    | _ => false)
  | .Tuple _ _ _, .SetComp _ _ _ _ => false
  | .Tuple _ _ _, .DictComp _ _ _ _ _ => false
  | .Tuple _ _ _, _ => true
  | _, _ => false
def parC (n : Nm) (x z : Str) (ts vs : List Expr) : Bool := fnB n.sc && (match swN n.sc ts vs with
    | some (some [a, b]) => decide (a = x) && decide (b = z)
    | _ => false)
def locB (sc : Scope) (x : Str) : Bool := match sc.names.lookup x with
  | some .local => true
  | _ => false
theorem locB_inv {sc : Scope} {x : Str} (h : locB sc x = true) : sc.names.lookup x = some .local := by
  unfold locB at h
  split at h
  · assumption
  · cases h
def retC (e : E) (f : Expr → Bool) : Option Expr → Bool
  | some x => f x
  | none => e.isNoneK
def asgK (n : Nm) (t : Tg) (f : Expr → Bool) (ts : List Expr) (val : Expr) : Bool := match ts with
  | [tgt] => t.chk n tgt && f val && asgC n tgt val
  | _ => false
def parK (n : Nm) (i j : Nat) (f f2 : Expr → Bool) (ts : List Expr) (val : Expr) : Bool := match ts, val with
  | [.Tuple [.Name x px, .Name z pz] _ _], .Tuple [ea, eb] _ _ => stB n i x && stB n j z && decide (i ≠ j) && locB n.sc x && locB n.sc z && f ea && f2 eb && parC n x z [.Name x px, .Name z pz] [ea, eb]
  | _, _ => false
def setK (n : Nm) (i : Nat) (f f2 : Expr → Bool) (ts : List Expr) (ev : Expr) : Bool := match ts with
  | [.Subscript (.Name x _) ek _] => nmB n i x && notLc ev && notSlice ek && f ev && f2 ek
  | _ => false
def appK (n : Nm) (i : Nat) (nm : Str) (f : Expr → Bool) : Expr → Bool
  | .Call (.Attribute (.Name x _) m ap) [ev] [] cp => decide (m = nm) && (ap.endLine == cp.line) && nmB n i x && f ev
  | _ => false
def app2K (n : Nm) (i j : Nat) (f : Expr → Bool) : Expr → Bool
  | .Call (.Attribute (.Subscript (.Name x _) ek _) m ap) [.Name z _] [] cp => decide (m = Str.ofString "append") && (ap.endLine == cp.line) && nmB n i x && nmB n j z && notSlice ek && f ek
  | _ => false
def noOrelse : List Stmt → Bool
  | [] => true
  | _ => false
def isDoc : Expr → Bool
  | .Constant (.str _) _ _ => true
  | _ => false
mutual
def S.chk (n : Nm) : S → Stmt → Bool
  | .nev, _ => true
  | .asg t e, .Assign ts val _ => e.notOwn && asgK n t (e.chk n) ts val
  | .par i j a b, .Assign ts val _ => parK n i j (a.chk n) (b.chk n) ts val
  | .set i k e, .Assign ts val _ => setK n i (e.chk n) (k.chk n) ts val
  | .app i e, .Expr ev _ => appK n i (Str.ofString "append") (e.chk n) ev
  | .ext i e, .Expr ev _ => appK n i (Str.ofString "extend") (e.chk n) ev
  | .app2 i k j, .Expr ev _ => app2K n i j (k.chk n) ev
  | .xp e, .Expr ev _ => notLc ev && e.chk n ev
  | .ife t a b, .If et ea eb _ => t.chk n et && a.chk n ea && b.chk n eb
  | .for t it b, .For tgt iter body orelse _ => noOrelse orelse && t.chk n tgt && notSet iter && it.chk n (isTup tgt) iter && b.chk n body
  | .whl t b, .While et body orelse _ => noOrelse orelse && t.chk n et && b.chk n body
  | .ret e, .Return oe _ => retC e (e.chk n) oe
  | .brk, .Break _ => true
  | .cont, .Continue _ => true
  | .pass, .Pass _ => true
  | .pass, .Expr e _ => isDoc e
  | _, _ => false
def Ss.chk (n : Nm) : Ss → List Stmt → Bool
  | .nil, [] => true
  | .cons s r, st :: sts => s.chk n st && r.chk n sts
  | _, _ => false
end
section
variable {k : Nat} {cf : CF} {g : G} {fuel : Nat}
mutual
theorem S.snd : ∀ (s : S) {X : Cx} {B : Ba} {W₀ : WX} {n : Nm} {st : Stmt}, Hy X B W₀ n k cf g → s.chk n st = true → PS X st (tS X B W₀ (s.ex cf g fuel))
  | .nev, X, B, W₀, n, st, y, h => nev_ps
  | .asg t e, X, B, W₀, n, st, y, h => by
    cases st <;> first | (revert h; simp [S.chk]; done) | skip
    rename_i ts val pos
    obtain ⟨hno, h⟩ := and2 (show (e.notOwn && asgK n t (e.chk n) ts val) = true from h)
    unfold asgK at h
    split at h
    case h_2 => cases h
    rename_i tgt
    obtain ⟨h1, h2, h3⟩ := and3 h
    obtain ⟨hg, io⟩ := tg_pg y h1
    have he := E.snd e y h2
    have gen : ∀ {X : Cx} {tgt val : Expr} (he : PE X val (tE X B W₀ (e.ev cf g))) (hg : PG X tgt (gT X.K t)), swapsWithSole [tgt] val pos.line X.env = pure false → swappedStores [tgt] val X.env = pure none → (assignEach [tgt] X.env).map (·.2) = [assign tgt X.env] →
        PS X (.Assign [tgt] val pos) (tS X B W₀ (asgM t (e.ev cf g))) := fun he hg a b c => PS.mono (ps_asg he hg a b c) (asg_t io)
    unfold asgC at h3
    split at h3
    · rename_i x px elt gs scope lpos
      have hk : X.env.scope.kind = .function := by rw [y.eS]; exact fnB_inv h3
      cases q : swB X.env.scope x px scope lpos with
      | false => exact gen he hg (by have e1 := sw_lc (elt := elt) (gs := gs) (scope := scope) (pos := lpos) (py := px) (y := x) (l := pos.line) hk; rw [q] at e1; exact e1) rfl rfl
      | true =>
        cases t with
        | t is => simp [Tg.chk] at h1
        | n i =>
          obtain ⟨a1, a2, a3, a4⟩ := stB_inv y h1
          have hl : X.env.scope.names.lookup x = some .local := by
            unfold swB at q
            rw [Bool.and_eq_true, Bool.and_eq_true] at q
            exact eq_of_beq q.1.1
          exact PS.mono (lcN_ps y hno h2 a1 hl (by rw [sw_lc hk, q])) (asg_t (tg := .n i) io)
    · have hs : swapsWithSole [Expr.Name ‹Str› ‹Pos›] val pos.line X.env = pure false := by
        cases val <;> first | rfl | (simp [notLc] at h3; done)
      exact gen he hg hs (by cases val <;> rfl) rfl
    · rename_i ts a pa vs c pc
      obtain ⟨h4, h5⟩ := and2 h3
      have hk : X.env.scope.kind = .function := by rw [y.eS]; exact fnB_inv h4
      refine gen he hg rfl ?_ rfl
      split at h5
      · rename_i q
        exact sws hk (by rw [y.eS]; exact q)
      · cases h5
    · cases h3
    · cases h3
    · rename_i n1 n2 n3
      exact gen he hg (by cases val <;> first | rfl | exact (n2 _ _ _ _ rfl).elim | exact (n3 _ _ _ _ _ rfl).elim) (by cases val <;> first | rfl | exact (n1 _ _ _ rfl).elim) rfl
    · cases h3
  | .par i j a b, X, B, W₀, n, st, y, h => by
    cases st <;> first | (revert h; simp [S.chk]; done) | skip
    rename_i ts val pos
    have h : parK n i j (a.chk n) (b.chk n) ts val = true := h
    unfold parK at h
    split at h
    case h_2 => cases h
    rename_i x px z pz kt pt ea eb k2 pt2
    obtain ⟨h', h8⟩ := and2 h
    obtain ⟨h', h7⟩ := and2 h'
    obtain ⟨h', h6⟩ := and2 h'
    obtain ⟨h', h5⟩ := and2 h'
    obtain ⟨h1, h2, h3, h4⟩ := and4 h'
    unfold parC at h8
    obtain ⟨h9, h10⟩ := and2 h8
    have hk : X.env.scope.kind = .function := by rw [y.eS]; exact fnB_inv h9
    refine par_ps y h1 h2 (of_decide_eq_true h3) (locB_inv h4) (locB_inv h5) (fun env es => star1 h6) (fun env => star1 h7) (E.snd a y h6) (E.snd b y h7) ?_
    split at h10
    · rename_i a1 b1 q
      obtain ⟨q1, q2⟩ := and2 h10
      have e1 := of_decide_eq_true q1
      have e2 := of_decide_eq_true q2
      subst e1 e2
      exact sws hk (by rw [y.eS]; exact q)
    · cases h10
  | .set i kk e, X, B, W₀, n, st, y, h => by
    cases st <;> first | (revert h; simp [S.chk]; done) | skip
    rename_i ts val pos
    have h : setK n i (e.chk n) (kk.chk n) ts val = true := h
    unfold setK at h
    split at h
    case h_2 => cases h
    obtain ⟨h', h5⟩ := and2 h
    obtain ⟨h1, h2, h3, h4⟩ := and4 h'
    exact set_ps y h1 (E.snd kk y h5) (E.snd e y h4) h2 h3
  | .app i e, X, B, W₀, n, st, y, h => by
    cases st <;> first | (revert h; simp [S.chk]; done) | skip
    rename_i ex pos
    have h : appK n i (Str.ofString "append") (e.chk n) ex = true := h
    unfold appK at h
    split at h
    case h_2 => cases h
    obtain ⟨h1, h2, h3, h4⟩ := and4 h
    have e1 := of_decide_eq_true h1
    subst e1
    exact app_ps y h3 h2 (fun env => star1 h4) (E.snd e y h4)
  | .ext i e, X, B, W₀, n, st, y, h => by
    cases st <;> first | (revert h; simp [S.chk]; done) | skip
    rename_i ex pos
    have h : appK n i (Str.ofString "extend") (e.chk n) ex = true := h
    unfold appK at h
    split at h
    case h_2 => cases h
    obtain ⟨h1, h2, h3, h4⟩ := and4 h
    have e1 := of_decide_eq_true h1
    subst e1
    exact ext_ps y h3 h2 (fun env => star1 h4) (E.snd e y h4)
  | .app2 i kk j, X, B, W₀, n, st, y, h => by
    cases st <;> first | (revert h; simp [S.chk]; done) | skip
    rename_i ex pos
    have h : app2K n i j (kk.chk n) ex = true := h
    unfold app2K at h
    split at h
    case h_2 => cases h
    obtain ⟨h', h6⟩ := and2 h
    obtain ⟨h', h5⟩ := and2 h'
    obtain ⟨h1, h2, h3, h4⟩ := and4 h'
    have e1 := of_decide_eq_true h1
    subst e1
    exact app2_ps y h3 h4 h2 h5 (E.snd kk y h6)
  | .xp e, X, B, W₀, n, st, y, h => by
    cases st <;> first | (revert h; simp [S.chk]; done) | skip
    rw [S.chk] at h
    obtain ⟨h1, h2⟩ := and2 h
    exact xp_ps h1 (E.snd e y h2)
  | .ife t a b, X, B, W₀, n, st, y, h => by
    cases st <;> first | (revert h; simp [S.chk]; done) | skip
    rw [S.chk] at h
    obtain ⟨h1, h2, h3⟩ := and3 h
    exact ife_ps (T.snd t y h1) (Ss.snd a y h2) (Ss.snd b y h3)
  | .for t it b, X, B, W₀, n, st, y, h => by
    cases st <;> first | (revert h; simp [S.chk]; done) | skip
    rename_i tgt iter body orelse pos
    rw [S.chk] at h
    obtain ⟨h', h4⟩ := and2 h
    obtain ⟨h0, h1, h2, h3⟩ := and4 h'
    have h0 : orelse = [] := by cases orelse <;> first | rfl | cases h0
    subst h0
    exact for_ps y h1 h2 (I.snd it y h3) (Ss.snd b y h4)
  | .whl t b, X, B, W₀, n, st, y, h => by
    cases st <;> first | (revert h; simp [S.chk]; done) | skip
    rename_i et body orelse pos
    rw [S.chk] at h
    obtain ⟨h0, h1, h2⟩ := and3 h
    have h0 : orelse = [] := by cases orelse <;> first | rfl | cases h0
    subst h0
    exact whl_ps y (T.snd t y h1) (Ss.snd b y h2)
  | .ret e, X, B, W₀, n, st, y, h => by
    cases st <;> first | (revert h; simp [S.chk]; done) | skip
    rename_i oe pos
    rw [S.chk] at h
    cases oe with
    | some ex => exact ret_ps (E.snd e y h)
    | none =>
      have h : e.isNoneK = true := h
      have q : e = .k .none := by
        unfold E.isNoneK at h
        split at h
        · rfl
        · cases h
      subst q
      exact retN_ps
  | .raise c es, X, B, W₀, n, st, y, h => by
    cases st <;> (revert h; simp [S.chk]; done)
  | .tri b hs, X, B, W₀, n, st, y, h => by
    cases st <;> (revert h; simp [S.chk]; done)
  | .brk, X, B, W₀, n, st, y, h => by
    cases st <;> first | (revert h; simp [S.chk]; done) | skip
    exact brk_ps
  | .cont, X, B, W₀, n, st, y, h => by
    cases st <;> first | (revert h; simp [S.chk]; done) | skip
    exact cont_ps
  | .pass, X, B, W₀, n, st, y, h => by
    cases st <;> first | (revert h; simp [S.chk]; done) | exact pass_ps | skip
    rename_i ex pos
    have h : isDoc ex = true := h
    unfold isDoc at h
    split at h
    · exact doc_ps
    · cases h
theorem Ss.snd : ∀ (ss : Ss) {X : Cx} {B : Ba} {W₀ : WX} {n : Nm} {sts : List Stmt}, Hy X B W₀ n k cf g → ss.chk n sts = true → PSs X sts (tS X B W₀ (ss.ex cf g fuel))
  | .nil, X, B, W₀, n, sts, y, h => by
    rcases sts with _ | ⟨st, sts⟩ <;> first | (simp [Ss.chk] at h; done) | skip
    exact nil_pss
  | .cons s r, X, B, W₀, n, sts, y, h => by
    rcases sts with _ | ⟨st, sts⟩ <;> first | (simp [Ss.chk] at h; done) | skip
    rw [Ss.chk] at h
    obtain ⟨h1, h2⟩ := and2 h
    exact cons_pss (S.snd s y h1) (Ss.snd r y h2)
end
end
end Co

set_option Elab.async false
set_option linter.all false
set_option maxRecDepth 100000
set_option maxHeartbeats 8000000
namespace Co
open PySem PySem.Spec PyProof.Rows L2
/-! ### a call's entry and its end -/
theorem fits_skip {j : Nat} {io : List Nat} : ∀ {ws : List W} {m : Nat}, j < m → fits (j :: io) m ws = fits io m ws
  | [], _, _ => rfl
  | x :: ws, m, h => by
    have e : (j :: io).contains m = io.contains m := by
      have q : (m == j) = false := by simpa using Nat.ne_of_gt h
      rw [List.contains_cons, q, Bool.false_or]
    have ih := fits_skip (j := j) (io := io) (ws := ws) (m := m + 1) (Nat.lt_succ_of_lt h)
    cases x <;> simp only [fits, e, ih]
theorem outsOf_set {ρ : Env} {j : Nat} : ∀ {io : List Nat}, j ∉ io → outsOf (ρ.set j none) io = outsOf ρ io
  | [], _ => rfl
  | i :: io, h => by
    have h1 : j ≠ i := fun e => h (by rw [e]; exact List.mem_cons_self)
    have ih := outsOf_set (ρ := ρ) (j := j) (io := io) fun z => h (List.mem_cons_of_mem _ z)
    simp only [outsOf, List.getElem?_set_ne h1, ih]
theorem outs_live {σ : St} : ∀ {ws : List W} {vs : List V} {j : Nat} {io : List Nat} {ρ : Env} {os : List O}, vs.length = ws.length → fits io j ws = true → io.Pairwise (· < ·) → (∀ i ∈ io, j ≤ i ∧ i < j + ws.length) → outsOf ρ io = some os →
    (∀ i v, vs[i]? = some v → j + i ∈ io → σ[j + i]? = some (some v)) → ∃ ρ', (live σ ρ).Perm (outsV vs ws os ++ live σ ρ')
  | [], vs, j, io, ρ, os, hl, hf, hp, hb, ho, hv => by
    cases vs with
    | cons v vs => simp at hl
    | nil =>
      cases io with
      | nil => cases ho; exact ⟨ρ, .refl _⟩
      | cons i io => have := hb i List.mem_cons_self; simp at this; omega
  | x :: ws, vs, j, io, ρ, os, hl, hf, hp, hb, ho, hv => by
    cases vs with
    | nil => simp at hl
    | cons v vs =>
      have hl' : vs.length = ws.length := by simpa using hl
      have skip : ∀ {io : List Nat}, j ∉ io → (∀ i ∈ io, j ≤ i ∧ i < j + (x :: ws).length) → (∀ i ∈ io, j + 1 ≤ i ∧ i < j + 1 + ws.length) := fun hj hb i hi => by
        have q := hb i hi
        have ne : i ≠ j := fun e => hj (e ▸ hi)
        simp at q
        omega
      have own : (∀ os o, outsV (v :: vs) (x :: ws) (o :: os) = (v, .io o) :: outsV vs ws os) → io.contains j = true → fits io (j + 1) ws = true → ∃ ρ', (live σ ρ).Perm (outsV (v :: vs) (x :: ws) os ++ live σ ρ') := by
        intro hx hc hf2
        cases io with
        | nil => simp at hc
        | cons i io =>
          have hp' := List.pairwise_cons.mp hp
          have ij : i = j := by
            have q := hb i List.mem_cons_self
            rcases List.mem_cons.mp (List.contains_iff_mem.mp hc) with z | z
            · exact z.symm
            · have := hp'.1 j z
              omega
          subst ij
          have nj : i ∉ io := fun z => absurd (hp'.1 i z) (Nat.lt_irrefl _)
          unfold outsOf at ho
          split at ho
          · rename_i o e
            cases q : outsOf ρ io with
            | none => rw [q] at ho; cases ho
            | some os' =>
              rw [q] at ho
              cases ho
              have hv0 : σ[i]? = some (some v) := hv 0 v rfl List.mem_cons_self
              rw [fits_skip (Nat.lt_succ_self i)] at hf2
              obtain ⟨ρ', hρ⟩ := outs_live hl' hf2 hp'.2 (skip nj fun k hk => hb k (List.mem_cons_of_mem _ hk)) (ρ := ρ.set i none) (os := os') (by rw [outsOf_set nj]; exact q)
                fun k u hu hk => by
                  have ek : i + (k + 1) = i + 1 + k := by omega
                  have z := hv (k + 1) u (by simpa using hu) (List.mem_cons_of_mem _ (by rw [ek]; exact hk))
                  rw [ek] at z
                  exact z
              refine ⟨ρ', (live_none hv0 e).trans ?_⟩
              rw [hx]
              exact hρ.cons _
          · cases ho
      cases x with
      | fz d =>
        obtain ⟨h1, h2⟩ := and2 hf
        have nj : j ∉ io := fun z => by
          rw [List.contains_iff_mem.mpr z] at h1
          cases h1
        show ∃ ρ', (live σ ρ).Perm (outsV vs ws os ++ live σ ρ')
        exact outs_live (ws := ws) (vs := vs) (io := io) hl' h2 hp (skip nj hb) ho fun k u hu hk => by
          have : j + (k + 1) = j + 1 + k := by omega
          have z := hv (k + 1) u (by simpa using hu) (by rw [this]; exact hk)
          rw [this] at z
          exact z
      | own o =>
        obtain ⟨h1, h2⟩ := and2 hf
        exact own (fun _ _ => rfl) h1 h2
      | io o =>
        obtain ⟨h1, h2⟩ := and2 hf
        exact own (fun _ _ => rfl) h1 h2
/-- at the entry -/
theorem live_start : ∀ {vs : List V} {ws : List W} {m m' : Nat}, vs.length = ws.length → live (vs.map some ++ List.replicate m none) (ws.map (some ∘ toIo) ++ List.replicate m' none) = vs.zip (ws.map toIo)
  | [], [], m, m', _ => by
    simp only [List.map_nil, List.nil_append, List.zip_nil_left]
    induction m generalizing m' with
    | zero => cases m' <;> rfl
    | succ m ih =>
      cases m' with
      | zero => rfl
      | succ m' => exact ih (m' := m')
  | [], _ :: _, _, _, h => by simp at h
  | _ :: _, [], _, _, h => by simp at h
  | v :: vs, x :: ws, m, m', h => by
    have ih := live_start (vs := vs) (ws := ws) (m := m) (m' := m') (by simpa using h)
    show (v, toIo x) :: live (vs.map some ++ List.replicate m none) (ws.map (some ∘ toIo) ++ List.replicate m' none) = _
    rw [ih]
    rfl
theorem bag_io {K : PySem.W.Frag} {F H : Hp} {B : Ba} : ∀ {vs : List V} {ws : List W} {A : List Addr}, Bag K Ba0 F H (vs.zip ws) A → (∀ a ∈ A, a ∈ B.P) → Bag K B F H (vs.zip (ws.map toIo)) A
  | [], ws, A, h, _ => by cases h; exact .nil
  | _ :: _, [], A, h, _ => by cases h; exact .nil
  | v :: vs, x :: ws, A, h, hA => by
    cases x with
    | fz d =>
      cases h with
      | fz r t => exact .fz r (bag_io t hA)
    | own o =>
      cases h with
      | own r n t => exact .io r (fun a ha => .inr (hA a (List.mem_append_left _ ha))) (bag_io t fun a ha => hA a (List.mem_append_right _ ha))
    | io o =>
      cases h with
      | io r n t => exact .io r (fun a ha => .inr (hA a (List.mem_append_left _ ha))) (bag_io t fun a ha => hA a (List.mem_append_right _ ha))
def ioL (vs : List V) (io : List Nat) : List (Nat × V) := io.filterMap fun i => (vs[i]?).map fun v => (i, v)
theorem ioL_mem {vs : List V} {io : List Nat} {p : Nat × V} (h : p ∈ ioL vs io) : p.1 ∈ io ∧ vs[p.1]? = some p.2 := by
  obtain ⟨i, hi, e⟩ := List.mem_filterMap.mp h
  cases q : vs[i]? with
  | none => rw [q] at e; cases e
  | some v => rw [q] at e; cases e; exact ⟨hi, q⟩
theorem start_at {N : List Str} {vs : List V} {i : Nat} {v : V} (h : vs[i]? = some v) : (L2.start N vs)[i]? = some (some v) := by
  unfold L2.start
  have l := (List.getElem?_eq_some_iff.mp h).1
  rw [List.getElem?_append_left (by simpa using l), List.getElem?_map, h]
  rfl
theorem Dfd.start {N : List Str} {vs : List V} {ws : List W} (hl : vs.length = ws.length) : Dfd (L2.start N vs) (startE N.length ws) := fun i x e => by
  unfold startE at e
  by_cases l : i < ws.length
  · exact ⟨vs[i]'(by omega), start_at (List.getElem?_eq_getElem (by omega))⟩
  · rw [List.getElem?_append_right (by simpa using l), List.getElem?_replicate] at e
    split at e <;> cases e
theorem Rel.entry {X : Cx} {N : List Str} {F H : Hp} {vs : List V} {ws : List W} {A : List Addr} {io : List Nat} (h : Given X.K F H vs ws A) (hN : vs.length ≤ N.length) :
    RL X ⟨H, F, A, ioL vs io⟩ F H [] (L2.start N vs) (startE N.length ws) := by
  obtain ⟨len, bag, nd, fr, sub⟩ := h
  refine ⟨?_, Dfd.start len, ⟨⟨A, ?_, nd, fr⟩, sub, fun a o e _ => e, fun a e => e, fun a _ => rfl⟩, fun p hp => ?_⟩
  · unfold startE L2.start
    simp
    omega
  · show Bag X.K _ F H (live _ _) A
    unfold L2.start startE
    rw [live_start len]
    exact bag_io bag fun a ha => ha
  · exact start_at (ioL_mem hp).2
theorem Rx.reio {K : PySem.W.Frag} {H0 F0 F H : Hp} {A : List Addr} {io io' : List (Nat × V)} {L : List (V × W)} (h : Rx K ⟨H0, F0, A, io⟩ F H L) : Rx K ⟨H0, F0, A, io'⟩ F H L := by
  obtain ⟨⟨A1, b, n, f⟩, s, k, dm, ol⟩ := h
  refine ⟨⟨A1, ?_, n, f⟩, s, k, dm, ol⟩
  clear n f s k dm ol
  induction b with
  | nil => exact .nil
  | fz r t ih => exact .fz r ih
  | own r n t ih => exact .own r n ih
  | io r n t ih => exact .io r n ih
/-! ### functions -/
abbrev KC := List (Str × List Str × List Nat)
def nmF (d : Fn) (sc : Scope) (fs ds : List Str) (kc : KC) : Nm := ⟨d.N, sc, stSc sc, d.io, fs, ds, kc⟩
/-- what the text's own part says -/
structure Md (K : PySem.W.Frag) (w : World) (mg : Str → Option Value) (g : G) (ds : List Str) : Prop where
  con : ∀ x d, g.con x = some d → ∃ u v, mg x = some u ∧ RelV v u ∧ ∀ F, Rp K F v d
  dic : ∀ x, ds.contains x = true → ∃ kvs d es m, g.dic x = some kvs ∧ mg x = some (.ref d) ∧ KDict K w d es m ∧ ∀ z, ∃ r, PySem.W.nsIn K d z = some r ∧ match kvs.lookup z with
    | none => r = none
    | some e => ∃ u v, r = some u ∧ RelV v u ∧ ∀ F, Rp K F v e
  blt : ∀ x ∈ blts, mg x = none
def FnR (P : Program) (w : World) (K : PySem.W.Frag) (mg : Str → Option Value) (base : Heap) (k : Nat) (cf : CF) (fs : List Str) (kc : KC) : Prop :=
  ∀ f, fs.contains f = true → ∃ fa fd ps, mg f = some (.ref fa) ∧ PySem.W.keepIn K (.ref fa) = true ∧ Binds K fd ps [] ∧ FnOk P w K mg base (L2.CX P w) k fa fd ps (spC K mg cf f) ∧ ∀ ks perm, kc.contains (f, ks, perm) = true → KB0 K fd ps ks perm
/-- a table's function and its text -/
structure FnT (K : PySem.W.Frag) (mg : Str → Option Value) (d : Fn) (fs ds : List Str) (kc : KC) : Prop where
  ex : ∃ (x qual : Str) (st : Stmt) (fa : Addr) (fd : FuncData), mg d.name = some (.ref fa) ∧ Fun K x qual st fa fd ∧ Binds K fd d.ps [] ∧ FnScope d.N d.ps (defScope st) ∧ d.body.chk (nmF d (defScope st) fs ds kc) (defBody st) = true ∧ ∀ ks perm, kc.contains (d.name, ks, perm) = true → KB0 K fd d.ps ks perm
  io : d.io.Pairwise (· < ·)
  iob : ∀ i ∈ d.io, i < d.ps.length
section
variable {P : Program} {w : World} {K : PySem.W.Frag} {mg : Str → Option Value} {base : Heap} {tab : Str → Option Fn} {g : G} {fuel : Nat} {fs ds : List Str} {kc : KC}
theorem fn_step {k n : Nat} (M : Md K w mg g ds) (ih : FnR P w K mg base k (callN tab g fuel n) fs kc) {d : Fn} (ht : tab d.name = some d) {x qual : Str} {st : Stmt} {fa : Addr} {fd : FuncData} (F : Fun K x qual st fa fd) (S : FnScope d.N d.ps (defScope st))
    (hc : d.body.chk (nmF d (defScope st) fs ds kc) (defBody st) = true) (hp : d.io.Pairwise (· < ·)) (hb : ∀ i ∈ d.io, i < d.ps.length) : FnOk P w K mg base (L2.CX P w) (k + 1) fa fd d.ps (spC K mg (callN tab g fuel (n + 1)) d.name) := by
  have hpl : d.ps.length ≤ d.N.length := by have := congrArg List.length S.pre; rw [List.length_take] at this; omega
  have un : ∀ {vs : List V} {H : Hp} {Q : VK} {E : XK}, spC K mg (callN tab g fuel (n + 1)) d.name vs H Q E → ∃ F ws A, Given K F H vs ws A ∧ ws.length = d.ps.length ∧ fits d.io 0 ws = true ∧ (match finish d.io (d.body.ex (callN tab g fuel n) g fuel (startE d.N.length ws)) with
      | .ret x os => x.isIo = false ∧ ∀ v F' H', Rx K ⟨H, F, A, []⟩ F' H' ((v, x) :: outsV vs ws os) → Q v H'
      | .ex xn => ∀ cls d F' H', Rx K ⟨H, F, A, []⟩ F' H' [] → XR K mg H' xn cls d → E cls d H'
      | .bad => False) := by
    rintro vs H Q E ⟨F0, ws, A, gv, h⟩
    have e : callN tab g fuel (n + 1) d.name ws = if ws.length = d.ps.length ∧ fits d.io 0 ws = true then finish d.io (d.body.ex (callN tab g fuel n) g fuel (startE d.N.length ws)) else .bad := by
      show (match tab d.name with
        | some d => if ws.length = d.ps.length ∧ fits d.io 0 ws = true then finish d.io (d.body.ex (callN tab g fuel n) g fuel (startE d.N.length ws)) else .bad
        | none => .bad) = _
      rw [ht]
    rw [e] at h
    by_cases c : ws.length = d.ps.length ∧ fits d.io 0 ws = true
    · rw [if_pos c] at h
      exact ⟨F0, ws, A, gv, c.1, c.2, h⟩
    · rw [if_neg c] at h
      exact h.elim
  refine F.okX S (fun vs H Q E h => ?_) (fun cdv A outer s H vs Q E hr h => ?_)
  · obtain ⟨F0, ws, A, gv, h1, _, _⟩ := un h
    rw [gv.len, h1]
  · obtain ⟨F0, ws, A0, gv, h1, h2, h3⟩ := un h
    generalize hX : cxOf (L2.CX P w) P w K mg base d.N qual (defScope st) fa cdv A outer s H E = X
    have y : Hy X ⟨H, F0, A0, ioL vs d.io⟩ (fun cls dd _ H' => E cls dd H') (nmF d (defScope st) fs ds kc) k (callN tab g fuel n) g := by
      subst hX
      refine ⟨rfl, rfl, S.nd, rfl, hr, takes_of rfl rfl rfl rfl, passes_of rfl, fun x hx => ?_, fun p hp => ?_, ih, M.con, M.dic, M.blt⟩
      · have hx : stSc (defScope st) x = true := hx
        refine ⟨?_, .inl rfl⟩
        unfold stSc at hx
        split at hx
        · exact .inl ‹_›
        · exact .inr ‹_›
        · cases hx
      · exact List.contains_iff_mem.mpr (ioL_mem hp).1
    refine ⟨_, Ss.snd (fuel := fuel) d.body y hc, F0, [], startE d.N.length ws, ?_, ?_⟩
    · have q := Rel.entry (X := X) (N := d.N) (io := d.io) (F := F0) (H := H) (vs := vs) (ws := ws) (A := A0) (by subst hX; exact gv) (by rw [gv.len, h1]; exact hpl)
      exact q
    · have out : ∀ {ρ : Env} {os : List O} {σ' : St} {F' H' : Hp} {v : V} {x : W}, outsOf ρ d.io = some os → x.isIo = false → RL X ⟨H, F0, A0, ioL vs d.io⟩ F' H' [(v, x)] σ' ρ → Rx K ⟨H, F0, A0, []⟩ F' H' ((v, x) :: outsV vs ws os) := by
        intro ρ os σ' F' H' v x ho hx r
        obtain ⟨ρ', p⟩ := outs_live (σ := σ') (j := 0) (gv.len) h2 hp (fun i hi => ⟨Nat.zero_le _, by rw [Nat.zero_add, h1]; exact hb i hi⟩) ho fun i u hu hi => by
          rw [Nat.zero_add] at hi ⊢
          exact r.io (i, u) (List.mem_filterMap.mpr ⟨i, hi, by rw [hu]; rfl⟩)
        have rx : Rx X.K ⟨H, F0, A0, ioL vs d.io⟩ F' H' ((v, x) :: live σ' ρ) := r.rx
        have rx2 := rx.perm ((p.cons (v, x)).trans (List.perm_append_comm (l₁ := (v, x) :: outsV vs ws os) (l₂ := live σ' ρ')))
        have rx3 := (Rx.drops rx2).reio (io' := [])
        subst hX
        exact rx3
      cases e : d.body.ex (callN tab g fuel n) g fuel (startE d.N.length ws) with
      | nx ρ =>
        rw [e] at h3
        unfold finish at h3
        intro σ' F' H' r
        cases ho : outsOf ρ d.io with
        | none => simp only [ho] at h3
        | some os =>
          simp only [ho] at h3
          exact h3.2 .non F' H' (out ho rfl (r.addfz .non))
      | rt x ρ =>
        rw [e] at h3
        unfold finish at h3
        intro v σ' F' H' hx r
        cases ho : outsOf ρ d.io with
        | none => simp only [ho] at h3
        | some os =>
          simp only [ho, hx] at h3
          exact h3.2 v F' H' (out ho hx r)
      | bk ρ => rw [e] at h3; exact h3.elim
      | ct ρ => rw [e] at h3; exact h3.elim
      | ex xn ρ =>
        rw [e] at h3
        intro cls dd σ' F' H' r hx
        have rx : Rx X.K ⟨H, F0, A0, ioL vs d.io⟩ F' H' ([] ++ live σ' ρ) := r.rx
        have rx2 := (Rx.drops (L := live σ' ρ) (L' := []) (by simpa using rx)).reio (io' := [])
        subst hX
        exact h3 cls dd F' H' rx2 hx
      | bad => rw [e] at h3; exact h3.elim
/-- all the table's functions -/
theorem all_ok (M : Md K w mg g ds) (hT : ∀ f, fs.contains f = true → ∃ d, tab f = some d ∧ d.name = f ∧ FnT K mg d fs ds kc) : ∀ n, FnR P w K mg base n (callN tab g fuel n) fs kc
  | 0 => fun f hf => by
    obtain ⟨d, ht, hn, T⟩ := hT f hf
    obtain ⟨x, qual, st, fa, fd, hm, F, hbd, S, hc, hkb⟩ := T.ex
    refine ⟨fa, fd, d.ps, by rw [← hn]; exact hm, F.kp, hbd, ⟨fun vs H Q E h => ?_, fun A outer s H args us vs Q E hr he hbt hv h => ?_⟩, by rw [← hn]; exact hkb⟩
    · obtain ⟨_, _, _, _, h⟩ := h
      exact h.elim
    · obtain ⟨_, _, _, _, h⟩ := h
      exact h.elim
  | n + 1 => fun f hf => by
    obtain ⟨d, ht, hn, T⟩ := hT f hf
    subst hn
    obtain ⟨x, qual, st, fa, fd, hm, F, hbd, S, hc, hkb⟩ := T.ex
    exact ⟨fa, fd, d.ps, hm, F.kp, hbd, fn_step M (all_ok M hT n) ht F S hc T.io T.iob, hkb⟩
end
end Co

set_option Elab.async false
set_option linter.all false
set_option maxRecDepth 100000
set_option maxHeartbeats 8000000
namespace Co
open PySem PySem.Spec PyProof.Rows L2
section
variable {P : Program} {w : World} {K : PySem.W.Frag} {mg : Str → Option Value} {base : Heap} {tab : Str → Option Fn} {g : G} {fuel : Nat} {fs ds : List Str} {kc : KC}
/-- the script as the core sees it -/
def scrD (ns : List Int) : D := .dict [(.none, .list (ns.map .int))]
def spLaw (K : PySem.W.Frag) : Sp := fun vs H Q _ => ∃ (a : Addr) (ns : List Int), vs = [.ref a] ∧ SqL K H a (ns.map V.int) ∧ ns.length ≤ 63 ∧ ∀ v H', v = V.bl true → Q v H'
theorem law_ok {n : Nat} (M : Md K w mg g ds) (hT : ∀ f, fs.contains f = true → ∃ d, tab f = some d ∧ d.name = f ∧ FnT K mg d fs ds kc) {d : Fn} (ht : tab d.name = some d) (hps : d.ps = (["script"] : List Str)) (hio : d.io = []) {x qual : Str} {st : Stmt} {fa : Addr} {fd : FuncData}
    (F : Fun K x qual st fa fd) (S : FnScope d.N d.ps (defScope st)) (hc : d.body.chk (nmF d (defScope st) fs ds kc) (defBody st) = true)
    (hlaw : ∀ ns : List Int, ns.length ≤ 63 → callN tab g fuel (n + 1) d.name [.fz (scrD ns)] = .ret (.fz (.bool true)) []) (base : Heap) : FnOk P w K mg base (L2.CX P w) (n + 1) fa fd (["script"] : List Str) (spLaw K) := by
  have h := fn_step (P := P) (base := base) M (all_ok (fuel := fuel) M hT n) ht F S hc (by rw [hio]; exact .nil) (by rw [hio]; intro i hi; cases hi)
  rw [hps] at h
  refine h.imp fun vs H Q E q => ?_
  obtain ⟨a, ns, rfl, hs, hl, q⟩ := q
  refine ⟨H, [.fz (scrD ns)], [], ⟨rfl, .fz (.scr ns hs) .nil, List.nodup_nil, (fun a ha => by cases ha), Same.refl H⟩, ?_⟩
  rw [hlaw ns hl]
  refine ⟨rfl, fun v F' H' rx => q v H' ?_⟩
  have rx : Rx K ⟨H, H, [], []⟩ F' H' [(v, .fz (.bool true))] := rx
  exact rx.hd_fz.blV
/-- a function of the table, from what stands in the heap -/
theorem mkT {h : Heap} (X : K.In h) (G : h.Ns mainGlobals mg) {d : Fn} {nm : Str} (hn : nm = d.name) {st : Stmt} {f : Addr} {oc kV dc pm cd ct : Value} {od an : Option Addr} {sl : Array (Option Value)}
    (a : PySem.W.nsIn K mainGlobals nm = some (some (.ref f))) (l : K.lookup f = some ⟨oc, od, .func (PySem.W.fnOf nm nm (defArgs st) (defBody st) (defScope st) .none kV dc pm an cd ct), sl⟩) (c : PySem.W.codeIn K cd nm = true) (k : PySem.W.keepIn K (.ref f) = true)
    (hb : ∀ (kV doc pm : Value) (an : Option Addr) (cdv ct : Value) (us : List Value), us.length = d.ps.length → bindArgs (PySem.W.fnOf nm nm (defArgs st) (defBody st) (defScope st) .none kV doc pm an cdv ct) ⟨us, []⟩ = pure (d.ps.zip us))
    (S : FnScope d.N d.ps (defScope st)) (hc : d.body.chk (nmF d (defScope st) fs ds kc) (defBody st) = true) (hio : d.io.Pairwise (· < ·)) (hiob : ∀ i ∈ d.io, i < d.ps.length)
    (hkb : ∀ (kV dc pm : Value) (an : Option Addr) (cd ct : Value) ks perm, kc.contains (nm, ks, perm) = true → ∀ ws : List Value, ws.length = ks.length → bindArgs (PySem.W.fnOf nm nm (defArgs st) (defBody st) (defScope st) .none kV dc pm an cd ct) ⟨[], ks.zip ws⟩ = pure (d.ps.zip (permL perm ws))) : FnT K mg d fs ds kc := by
  subst hn
  have F := fun_mk (x := d.name) (qual := d.name) (st := st) l c k
  exact ⟨⟨_, _, _, _, _, PySem.W.mg_of X G a, F, F.binds hb, S, hc, fun ks perm h s ws _ hl => .of_eq (hkb _ _ _ _ _ _ ks perm h ws hl)⟩, hio, hiob⟩
/-! ### what the top has written -/
/-- a written dict's entries -/
inductive DR (K : PySem.W.Frag) : List DictEntry → List (Str × D) → Prop
  | nil : DR K [] []
  | cons {e : DictEntry} {r : List DictEntry} {x : Str} {t : Tok} {d : D} {kvs : List (Str × D)} : e.key = .str x t → (∃ v, RelV v e.val ∧ ∀ F, Rp K F v d) → DR K r kvs → DR K (e :: r) ((x, d) :: kvs)
theorem DR.int {e : DictEntry} {r : List DictEntry} {x : Str} {t t' : Tok} {i : Int} {kvs : List (Str × D)} (h : e.key = .str x t) (h2 : e.val = .int i t') (k : DR K r kvs) : DR K (e :: r) ((x, .int i) :: kvs) := .cons h ⟨.int i, ⟨t', h2⟩, fun _ => .int i⟩ k
theorem DR.str {e : DictEntry} {r : List DictEntry} {x z : Str} {t t' : Tok} {kvs : List (Str × D)} (h : e.key = .str x t) (h2 : e.val = .str z t') (k : DR K r kvs) : DR K (e :: r) ((x, .str z) :: kvs) := .cons h ⟨.str z, ⟨t', h2⟩, fun _ => .str z⟩ k
theorem DR.find {es : List DictEntry} {kvs : List (Str × D)} (h : DR K es kvs) (z : Str) : ∃ r, (match es.find? (·.key.isStr z) with
      | some e => some (some e.val)
      | none => if es.any (·.refKey) then none else some none) = some r ∧ match kvs.lookup z with
    | none => r = none
    | some e => ∃ u v, r = some u ∧ RelV v u ∧ ∀ F, Rp K F v e := by
  have key : (match es.find? (·.key.isStr z) with
      | some e => ∃ d, kvs.lookup z = some d ∧ ∃ v, RelV v e.val ∧ ∀ F, Rp K F v d
      | none => kvs.lookup z = none) ∧ es.any (·.refKey) = false := by
    induction h with
    | nil => exact ⟨rfl, rfl⟩
    | @cons e r x t d kvs hk hv _ ih =>
      have ek : e.key.isStr z = (x == z) := by rw [hk]; rfl
      have er : e.refKey = false := by unfold DictEntry.refKey; rw [hk]
      refine ⟨?_, by rw [List.any_cons, er, ih.2]; rfl⟩
      rw [List.find?_cons, ek]
      cases q : (x == z) with
      | true =>
        have qz : x = z := by simpa using q
        subst qz
        refine ⟨d, ?_, hv⟩
        simp [List.lookup_cons]
      | false =>
        have qz : (z == x) = false := by
          have : x ≠ z := by simpa using q
          simpa using this.symm
        have e2 : List.lookup z ((x, d) :: kvs) = List.lookup z kvs := by simp [List.lookup_cons, qz]
        rw [e2]
        exact ih.1
  obtain ⟨k1, k2⟩ := key
  cases q : es.find? (·.key.isStr z) with
  | some e =>
    rw [q] at k1
    obtain ⟨d, h1, v, h2, h3⟩ := k1
    rw [h1]
    exact ⟨some e.val, rfl, e.val, v, rfl, h2, h3⟩
  | none =>
    rw [q] at k1
    rw [k1]
    exact ⟨none, by rw [k2]; rfl, rfl⟩
theorem DR.ns {d : Addr} {es : Array DictEntry} {m : Nat} {kvs : List (Str × D)} (D0 : KDict K w d es m) (h : DR K es.toList kvs) (z : Str) : ∃ r, PySem.W.nsIn K d z = some r ∧ match kvs.lookup z with
    | none => r = none
    | some e => ∃ u v, r = some u ∧ RelV v u ∧ ∀ F, Rp K F v e := by
  obtain ⟨r, h1, h2⟩ := h.find z
  refine ⟨r, ?_, h2⟩
  unfold PySem.W.nsIn
  rw [D0.at_]
  exact h1
theorem md_of {h : Heap} {gcon : List (Str × D)} {gdic : List (Str × List (Str × D))} (X : K.In h) (G : h.Ns mainGlobals mg)
    (hc : ∀ p ∈ gcon, ∃ u v, PySem.W.nsIn K mainGlobals p.1 = some (some u) ∧ RelV v u ∧ ∀ F, Rp K F v p.2)
    (hd : ∀ x ∈ ds, ∃ kvs d es m, gdic.lookup x = some kvs ∧ PySem.W.nsIn K mainGlobals x = some (some (.ref d)) ∧ KDict K w d es m ∧ DR K es.toList kvs)
    (hb : ∀ x ∈ blts, PySem.W.nsIn K mainGlobals x = some none) : Md K w mg ⟨fun x => gcon.lookup x, fun x => gdic.lookup x⟩ ds := by
  refine ⟨fun x d e => ?_, fun x hx => ?_, fun x hx => PySem.W.mg_none_of X G (hb x hx)⟩
  · obtain ⟨u, v, h1, h2, h3⟩ := hc (x, d) (PySem.mem_of_lookup e)
    exact ⟨u, v, PySem.W.mg_of X G h1, h2, h3⟩
  · obtain ⟨kvs, d, es, m, h1, h2, h3, h4⟩ := hd x (List.contains_iff_mem.mp hx)
    exact ⟨kvs, d, es, m, h1, PySem.W.mg_of X G h2, h3, fun z => h4.ns h3 z⟩
theorem con_int {x : Str} {i : Int} {t : Tok} (a : PySem.W.nsIn K mainGlobals x = some (some (.int i t))) : ∃ u v, PySem.W.nsIn K mainGlobals x = some (some u) ∧ RelV v u ∧ ∀ F, Rp K F v (.int i) := ⟨_, .int i, a, ⟨t, rfl⟩, fun _ => .int i⟩
theorem con_str {x z : Str} {t : Tok} (a : PySem.W.nsIn K mainGlobals x = some (some (.str z t))) : ∃ u v, PySem.W.nsIn K mainGlobals x = some (some u) ∧ RelV v u ∧ ∀ F, Rp K F v (.str z) := ⟨_, .str z, a, ⟨t, rfl⟩, fun _ => .str z⟩
/-- the law's own end -/
theorem law_end {n : Nat} {h : Heap} (X : K.In h) (G : h.Ns mainGlobals mg) (M : Md K w mg g ds) (hT : ∀ f, fs.contains f = true → ∃ d, tab f = some d ∧ d.name = f ∧ FnT K mg d fs ds kc) {d : Fn} {nm : Str} (hn : nm = d.name) {fa : Addr} (hfa : mg nm = some (.ref fa)) (ht : tab d.name = some d) (hps : d.ps = (["script"] : List Str)) (hio : d.io = []) {st : Stmt} {f : Addr}
    {oc kV dc pm cd ct : Value} {od an : Option Addr} {sl : Array (Option Value)}
    (a : PySem.W.nsIn K mainGlobals nm = some (some (.ref f))) (l : K.lookup f = some ⟨oc, od, .func (PySem.W.fnOf nm nm (defArgs st) (defBody st) (defScope st) .none kV dc pm an cd ct), sl⟩) (c : PySem.W.codeIn K cd nm = true) (k : PySem.W.keepIn K (.ref f) = true)
    (hb : ∀ (kV doc pm : Value) (an : Option Addr) (cdv ct : Value) (s : Shared) (v : Value), BindsTo s (PySem.W.fnOf nm nm (defArgs st) (defBody st) (defScope st) .none kV doc pm an cdv ct) ⟨[v], []⟩ [("script", v)])
    (S : FnScope d.N d.ps (defScope st)) (hc : d.body.chk (nmF d (defScope st) fs ds kc) (defBody st) = true)
    (hlaw : ∀ ns : List Int, ns.length ≤ 63 → callN tab g fuel (n + 1) d.name [.fz (scrD ns)] = .ret (.fz (.bool true)) []) :
    ∃ fd : FuncData, (∀ (s : Shared) (v : Value), BindsTo s fd ⟨[v], []⟩ [("script", v)]) ∧ ∀ base : Heap, K.In base → base.Ns mainGlobals mg → FnOk P w K mg base (L2.CX P w) (n + 1) fa fd (["script"] : List Str) (spLaw K) := by
  subst hn
  have e := hfa.symm.trans (PySem.W.mg_of X G a)
  cases e
  have F := fun_mk (x := d.name) (qual := d.name) (st := st) l c k
  exact ⟨_, hb _ _ _ _ _ _, fun base _ _ => law_ok M hT ht hps hio F S hc hlaw base⟩
end
end Co

set_option Elab.async false
set_option linter.all false
set_option maxRecDepth 100000
set_option maxHeartbeats 8000000
namespace Co
open PySem
section
variable {α β γ : Type}
theorem R.bind_ok (a : α) (ρ : Env) (f : α → Env → R β) : (R.ok a ρ).bind f = f a ρ := rfl
theorem R.bind_bad (f : α → Env → R β) : (R.bad : R α).bind f = .bad := rfl
theorem R.bind_ex (x : Xn) (ρ : Env) (f : α → Env → R β) : (R.ex x ρ : R α).bind f = .ex x ρ := rfl
theorem R.bind_ite {c : Prop} [Decidable c] (a b : R α) (f : α → Env → R β) : (if c then a else b).bind f = if c then a.bind f else b.bind f := by split <;> rfl
theorem R.calm_ok (a : α) (ρ : Env) : (R.ok a ρ).calm = .ok a ρ := rfl
theorem Fl.of_ok (a : α) (ρ : Env) (f : α → Env → Fl) : Fl.of (.ok a ρ) f = f a ρ := rfl
theorem Fl.of_bad (f : α → Env → Fl) : Fl.of (.bad : R α) f = .bad := rfl
theorem Fl.of_ite {c : Prop} [Decidable c] (a b : R α) (f : α → Env → Fl) : Fl.of (if c then a else b) f = if c then Fl.of a f else Fl.of b f := by split <;> rfl
theorem Fl.then_nx (ρ : Env) (f : Env → Fl) : (Fl.nx ρ).then f = f ρ := rfl
theorem Fl.then_rt (x : W) (ρ : Env) (f : Env → Fl) : (Fl.rt x ρ).then f = .rt x ρ := rfl
theorem Fl.then_bad (f : Env → Fl) : Fl.bad.then f = .bad := rfl
theorem Fl.then_ite {c : Prop} [Decidable c] (a b : Fl) (f : Env → Fl) : (if c then a else b).then f = if c then a.then f else b.then f := by split <;> rfl
theorem nonBw_w (x : W) (ρ : Env) : nonBw (.w x) ρ = .ok x ρ := rfl
theorem liftO_some (a : α) (ρ : Env) : liftO (some a) ρ = .ok a ρ := rfl
theorem ofD_some (a : D) (ρ : Env) : ofD (some a) ρ = .ok (.w (.fz a)) ρ := rfl
theorem ofO_some (a : W) (ρ : Env) : ofO (some a) ρ = .ok (.w a) ρ := rfl
theorem two_none {ma mb : Env → R Z} {f : Z → Z → Env → R α} {ρ : Env} : two none ma mb f ρ = (ma ρ).bind fun za ρ1 => (nonBw za ρ1).bind fun xa ρ2 => (mb ρ2).bind fun zb ρ3 => f (.w xa) zb ρ3 := rfl
theorem two_some {i : Nat} {ma mb : Env → R Z} {f : Z → Z → Env → R α} {ρ : Env} : two (some i) ma mb f ρ = (rdZ i ρ).bind fun _ ρ0 => (mb ρ0).bind fun zb ρ1 => (rdZ i ρ1).bind fun za ρ2 => f za zb ρ2 := rfl
theorem rdZ_fz {i : Nat} {ρ : Env} {d : D} (h : ρ[i]? = some (some (.fz d))) : rdZ i ρ = .ok (.w (.fz d)) ρ := by unfold rdZ; rw [h]
theorem ixF_fz (d : D) (b : Z) (ρ : Env) : ixF (.w (.fz d)) b ρ = ofD (ixD d b.dat) ρ := rfl
theorem ixF_bw (os : List O) (i : Int) (ρ : Env) : ixF (.bw (.l os)) (.w (.fz (.int i))) ρ = match L2.atI os i with
      | some (.d x) => .ok (.w (.fz x)) ρ
      | some o => .ok (.bw o) ρ
      | none => .bad := rfl
theorem cmpF_fz (o : CmpO) (d e : D) (ρ : Env) : cmpF o (.w (.fz d)) (.w (.fz e)) ρ = ofD ((cmpD o d e).map .bool) ρ := rfl
theorem cmpT_fz (o : CmpO) (d e : D) (ρ : Env) : cmpT o (.w (.fz d)) (.w (.fz e)) ρ = liftO (cmpD o d e) ρ := rfl
theorem binF_fz (o : BinO) (d e : D) (ρ : Env) : binF o (.w (.fz d)) (.w (.fz e)) ρ = ofO (binD o d e) ρ := rfl
theorem cmp_lt (i j : Int) : cmpD .lt (.int i) (.int j) = some (decide (i < j)) := rfl
theorem cmp_le (i j : Int) : cmpD .le (.int i) (.int j) = some (decide (i ≤ j)) := rfl
theorem cmp_gt (i j : Int) : cmpD .gt (.int i) (.int j) = some (decide (j < i)) := rfl
theorem cmp_ge (i j : Int) : cmpD .ge (.int i) (.int j) = some (decide (j ≤ i)) := rfl
theorem at0 {x : α} {xs : List α} : L2.atI (x :: xs) 0 = some x := by simp [L2.atI, L2.ixN]
theorem at1 {x y : α} {xs : List α} : L2.atI (x :: y :: xs) 1 = some y := by
  have h : (1 : Int) < (((x :: y :: xs).length : Nat) : Int) := by simp only [List.length_cons]; omega
  unfold L2.atI L2.ixN
  rw [if_pos (by decide), if_pos h]
  rfl
theorem at2 {x y z : α} {xs : List α} : L2.atI (x :: y :: z :: xs) 2 = some z := by
  have h : (2 : Int) < (((x :: y :: z :: xs).length : Nat) : Int) := by simp only [List.length_cons]; omega
  unfold L2.atI L2.ixN
  rw [if_pos (by decide), if_pos h]
  rfl
theorem ixT (xs : List D) (i : Int) : ixD (.tuple xs) (.int i) = L2.atI xs i := rfl
theorem ixLs (xs : List D) (i : Int) : ixD (.list xs) (.int i) = L2.atI xs i := rfl
theorem wdat (d : D) : (W.fz d).dat = d := rfl
theorem Z.dat_fz (d : D) : (Z.w (.fz d)).dat = d := rfl
theorem eq_str (a b : Str) : cmpD .eq (.str a) (.str b) = if PyData.strOk a && PyData.strOk b then some (a == b) else none := by
  show (if eqOk (.str a) (.str b) then some (PyData.eqv (.str a) (.str b)) else none) = _
  have : eqOk (.str a) (.str b) = (PyData.strOk a && PyData.strOk b) := by
    show ((PyData.strOk a && PyData.strOk b) && decide (min (PyData.depth (.str a)) (PyData.depth (.str b)) ≤ 64)) = _
    have : min (PyData.depth (.str a)) (PyData.depth (.str b)) ≤ 64 := by simp [PyData.depth]
    rw [decide_eq_true this, Bool.and_true]
  rw [this]
  rfl
/-- a call's answer -/
def dcA (as : List Arg) (ws : List W) (ρ : Env) : RC → R Z
  | .ret x os => if x.isIo then .bad else .ok (.w x) (putOuts as ws os ρ)
  | .ex x => .ex x ρ
  | .bad => .bad
theorem doCall_eq (cf : CF) (f : Str) (as : List Arg) (ρ ρ1 : Env) (ws : List W) (h : argsW as ρ = some (ws, ρ1)) (hk : oneKind ws = true) : doCall cf f as ρ = dcA as ws ρ1 (cf f ws) := by
  unfold doCall
  rw [h]
  simp only [hk]
  cases cf f ws <;> rfl
theorem dc1 (cf : CF) (f : Str) (d : D) (ρ : Env) : doCall cf f [.a (.fz d)] ρ = dcA [.a (.fz d)] [.fz d] ρ (cf f [.fz d]) := doCall_eq cf f _ ρ ρ _ rfl rfl
theorem dc2 (cf : CF) (f : Str) (d e : D) (ρ : Env) : doCall cf f [.a (.fz d), .a (.fz e)] ρ = dcA [.a (.fz d), .a (.fz e)] [.fz d, .fz e] ρ (cf f [.fz d, .fz e]) := doCall_eq cf f _ ρ ρ _ rfl rfl
theorem dc3 (cf : CF) (f : Str) (d e k : D) (ρ : Env) : doCall cf f [.a (.fz d), .a (.fz e), .a (.fz k)] ρ = dcA [.a (.fz d), .a (.fz e), .a (.fz k)] [.fz d, .fz e, .fz k] ρ (cf f [.fz d, .fz e, .fz k]) := doCall_eq cf f _ ρ ρ _ rfl rfl
theorem dc4 (cf : CF) (f : Str) (d e k l : D) (ρ : Env) : doCall cf f [.a (.fz d), .a (.fz e), .a (.fz k), .a (.fz l)] ρ = dcA [.a (.fz d), .a (.fz e), .a (.fz k), .a (.fz l)] [.fz d, .fz e, .fz k, .fz l] ρ (cf f [.fz d, .fz e, .fz k, .fz l]) := doCall_eq cf f _ ρ ρ _ rfl rfl
theorem dcA_fz1 (a : W) (ws : List W) (ρ : Env) (e : D) (os : List O) : dcA [.a a] [.fz e] ρ (.ret (.fz e) os) = .ok (.w (.fz e)) ρ := rfl
theorem dcA_nil (as : List Arg) (ws : List W) (ρ : Env) (x : W) (hx : x.isIo = false) (h : putOuts as ws [] ρ = ρ) : dcA as ws ρ (.ret x []) = .ok (.w x) ρ := by
  show (if x.isIo then R.bad else R.ok (Z.w x) (putOuts as ws [] ρ)) = _
  rw [hx, h]
  rfl
theorem dca1 (x : W) (e v : D) (ρ : Env) : dcA [.a x] [.fz e] ρ (.ret (.fz v) []) = .ok (.w (.fz v)) ρ := rfl
theorem dca2 (x y : W) (e f v : D) (ρ : Env) : dcA [.a x, .a y] [.fz e, .fz f] ρ (.ret (.fz v) []) = .ok (.w (.fz v)) ρ := rfl
theorem dca3 (x y z : W) (e f g v : D) (ρ : Env) : dcA [.a x, .a y, .a z] [.fz e, .fz f, .fz g] ρ (.ret (.fz v) []) = .ok (.w (.fz v)) ρ := rfl
theorem dca4 (x y z w : W) (e f g h v : D) (ρ : Env) : dcA [.a x, .a y, .a z, .a w] [.fz e, .fz f, .fz g, .fz h] ρ (.ret (.fz v) []) = .ok (.w (.fz v)) ρ := rfl
theorem dcaO1 (x : W) (e : D) (v : O) (ρ : Env) : dcA [.a x] [.fz e] ρ (.ret (.own v) []) = .ok (.w (.own v)) ρ := rfl
theorem dcaO2 (x y : W) (e f : D) (v : O) (ρ : Env) : dcA [.a x, .a y] [.fz e, .fz f] ρ (.ret (.own v) []) = .ok (.w (.own v)) ρ := rfl
theorem po1 (a b : W) (ρ : Env) : putOuts [.a a] [b] [] ρ = ρ := rfl
theorem po2 (a b c d : W) (ρ : Env) : putOuts [.a a, .a b] [c, d] [] ρ = ρ := rfl
theorem po3 (a b c d e f : W) (ρ : Env) : putOuts [.a a, .a b, .a c] [d, e, f] [] ρ = ρ := rfl
theorem po4 (a b c d e f g h : W) (ρ : Env) : putOuts [.a a, .a b, .a c, .a d] [e, f, g, h] [] ρ = ρ := rfl
theorem io_fz (d : D) : (W.fz d).isIo = false := rfl
theorem lc_nil (b : D → Env → R (Option O)) (vs : List Nat) (acc : List O) (ρ : Env) : lcLoop b vs [] acc ρ = .ok acc ρ := rfl
theorem lc_cons (b : D → Env → R (Option O)) (vs : List Nat) (d : D) (ds : List D) (acc : List O) (ρ : Env) : lcLoop b vs (d :: ds) acc ρ = (b d ρ).bind fun o ρ1 => match o with
    | some o => if acc.length < sizeLine then lcLoop b vs ds (acc ++ [o]) (wipeE ρ1 vs) else .bad
    | none => lcLoop b vs ds acc (wipeE ρ1 vs) := rfl
theorem fin_rt (x : D) (ρ : Env) : finish [] (.rt (.fz x) ρ) = .ret (.fz x) [] := rfl
theorem fin_own (x : O) (ρ : Env) : finish [] (.rt (.own x) ρ) = .ret (.own x) [] := rfl
/-- a comprehension whose element is one call, over items whose answers are known -/
theorem lc_map {cf : CF} {g : G} {i : Nat} {it : I} {e : E} {nm : Str} {ρ0 ρ : Env} {ds : List D} {es : List O} (hit : it.ev cf g ρ0 = .ok ds ρ) (hl : ds.length ≤ 1000000)
    (h : ∀ d e', (d, e') ∈ ds.zip es → ∃ x, e.ev cf g ((ρ.set i none).set i (some (.fz d))) = .ok (.w x) ((ρ.set i none).set i (some (.fz d))) ∧ x.o = e') (hle : ds.length = es.length) :
    (E.lc [(nm, i)] (.n i) it .yes e).ev cf g ρ0 = .ok (.w (.own (.l es))) (ρ.set i none) := by
  have key : ∀ (ds : List D) (es acc : List O), acc.length + ds.length ≤ 1000000 → ds.length = es.length → (∀ d e', (d, e') ∈ ds.zip es → ∃ x, e.ev cf g ((ρ.set i none).set i (some (.fz d))) = .ok (.w x) ((ρ.set i none).set i (some (.fz d))) ∧ x.o = e') →
      lcLoop (fun d ρ => (setTgR (.n i) d ρ).bind fun _ ρ1 => ((T.yes).tst cf g ρ1).bind fun b ρ2 =>
        if b then (e.ev cf g ρ2).bind fun z ρ3 => (nonBw z ρ3).bind fun x ρ4 => .ok (some x.o) ρ4 else .ok none ρ2) [i] ds acc (ρ.set i none) = .ok (acc ++ es) (ρ.set i none) := by
    intro ds
    induction ds with
    | nil =>
      intro es acc ha hl h
      cases es with
      | nil => simp [lcLoop]
      | cons _ _ => simp at hl
    | cons d ds ih =>
      intro es acc ha hl h
      cases es with
      | nil => simp at hl
      | cons e' es =>
        obtain ⟨x, h1, h2⟩ := h d e' (by simp)
        rw [lc_cons]
        have hb : ((setTgR (.n i) d (ρ.set i none)).bind fun _ ρ1 => ((T.yes).tst cf g ρ1).bind fun b ρ2 =>
          if b then (e.ev cf g ρ2).bind fun z ρ3 => (nonBw z ρ3).bind fun x ρ4 => .ok (some x.o) ρ4 else .ok none ρ2) = .ok (some x.o) ((ρ.set i none).set i (some (.fz d))) := by
          show ((e.ev cf g ((ρ.set i none).set i (some (.fz d)))).bind fun z ρ3 => (nonBw z ρ3).bind fun x ρ4 => R.ok (some x.o) ρ4) = _
          rw [h1]
          rfl
        rw [hb]
        show (if acc.length < sizeLine then lcLoop _ [i] ds (acc ++ [x.o]) (wipeE ((ρ.set i none).set i (some (.fz d))) [i]) else .bad) = _
        have hz : acc.length < sizeLine := by
          rw [sizeLine_eq]
          simp at ha
          omega
        rw [if_pos hz]
        have hw : wipeE ((ρ.set i none).set i (some (.fz d))) [i] = ρ.set i none := by
          show ((ρ.set i none).set i (some (.fz d))).set i none = _
          rw [List.set_set, List.set_set]
        rw [hw, h2, ih es (acc ++ [e']) (by simp at ha ⊢; omega) (by simpa using hl) fun d e'' hm => h d e'' (by simp [hm])]
        simp
  show ((it.ev cf g ρ0).bind fun ds ρ1 => ((lcLoop (fun d ρ => (setTgR (.n i) d ρ).bind fun _ ρ1 => ((T.yes).tst cf g ρ1).bind fun b ρ2 =>
        if b then (e.ev cf g ρ2).bind fun z ρ3 => (nonBw z ρ3).bind fun x ρ4 => .ok (some x.o) ρ4 else .ok none ρ2) [i] ds [] (wipeE ρ1 [i])).calm).bind fun os ρ2 => R.ok (Z.w (.own (.l os))) ρ2) = _
  rw [hit]
  show (((lcLoop _ [i] ds [] (ρ.set i none)).calm).bind fun os ρ2 => R.ok (Z.w (.own (.l os))) ρ2) = _
  rw [key ds es [] (by simpa using hl) hle h]
  rfl
theorem plain_map : ∀ ds : List D, plainO (ds.map .d) = some ds
  | [] => rfl
  | d :: ds => by
    show (plainO (ds.map .d)).map (d :: ·) = _
    rw [plain_map ds]
    rfl
theorem frz_map : ∀ ds : List D, O.frzs (ds.map .d) = ds
  | [] => rfl
  | d :: ds => by
    show O.frz (.d d) :: O.frzs (ds.map .d) = _
    rw [frz_map ds]
    rfl
theorem b1_tup (ds : List D) (ρ : Env) : b1F .tuple (.w (.own (.l (ds.map .d)))) ρ = .ok (.w (.fz (.tuple ds))) ρ := by
  show (match (plainO (ds.map .d)).map PyData.list with
    | some x => ofO (b1D .tuple x) ρ
    | none => .bad) = _
  rw [plain_map]
  rfl
theorem addT {xs ys : List D} (h : xs.length + ys.length ≤ 1000) : binD .add (.tuple xs) (.tuple ys) = some (.fz (.tuple (xs ++ ys))) := by
  show (if okLen (xs.length + ys.length) then some (W.fz (.tuple (xs ++ ys))) else none) = _
  have : okLen (xs.length + ys.length) = true := decide_eq_true (by rw [sizeLine_eq]; omega)
  rw [if_pos this]
theorem b1_int (b : Bool) (ρ : Env) : b1F .int (.w (.fz (.bool b))) ρ = .ok (.w (.fz (.int (if b then 1 else 0)))) ρ := rfl
theorem b1_lenT (xs : List D) (ρ : Env) : b1F .len (.w (.fz (.tuple xs))) ρ = .ok (.w (.fz (.int xs.length))) ρ := rfl
theorem lt_i (i j : Int) : cmpD .lt (.int i) (.int j) = some (decide (i < j)) := rfl
theorem map_bool (b : Bool) : (some b).map PyData.bool = some (.bool b) := rfl
theorem atN {α : Type} (xs : List α) (j : Nat) : L2.atI xs (j : Int) = xs[j]? := by
  unfold L2.atI L2.ixN
  rw [if_pos (Int.natCast_nonneg j)]
  by_cases h : (j : Int) < (xs.length : Int)
  · rw [if_pos h]
    simp
  · rw [if_neg h]
    have : xs.length ≤ j := by omega
    simp [this]
theorem addI (i j : Int) : binD .add (.int i) (.int j) = some (.fz (.int (i + j))) := rfl
theorem subI (i j : Int) : binD .sub (.int i) (.int j) = some (.fz (.int (i - j))) := rfl
theorem add_fz (d e : D) (ρ : Env) : binF .add (.w (.fz d)) (.w (.fz e)) ρ = ofO (binD .add d e) ρ := rfl
end
/-! ### the equations, one a form (a comprehension stays as it is) -/
section
variable (cf : CF) (gg : G) (fuel : Nat) (ρ : Env)
theorem ev_v (i : Nat) : E.ev cf gg (.v i) ρ = vZ i ρ := rfl
theorem ev_rd (i : Nat) : E.ev cf gg (.rd i) ρ = rdZ i ρ := rfl
theorem ev_g (x : Str) : E.ev cf gg (.g x) ρ = ofD (gg.con x) ρ := rfl
theorem ev_k (c : D) : E.ev cf gg (.k c) ρ = .ok (.w (.fz c)) ρ := rfl
theorem ev_bin (o : BinO) (a b : E) : E.ev cf gg (.bin o a b) ρ = two (isRd a) (a.ev cf gg) (b.ev cf gg) (binF o) ρ := rfl
theorem ev_cmp (o : CmpO) (a b : E) : E.ev cf gg (.cmp o a b) ρ = two (isRd a) (a.ev cf gg) (b.ev cf gg) (cmpF o) ρ := rfl
theorem ev_chain (o1 o2 : CmpO) (a b c : E) : E.ev cf gg (.chain o1 o2 a b c) ρ = (a.ev cf gg ρ).bind fun za ρ1 => (nonBw za ρ1).bind fun xa ρ2 => (b.ev cf gg ρ2).bind fun zb ρ3 => (nonBw zb ρ3).bind fun xb ρ4 =>
      match cmpD o1 xa.dat xb.dat with
      | some true => (c.ev cf gg ρ4).bind fun zc ρ5 => ofD ((cmpD o2 xb.dat zc.dat).map .bool) ρ5
      | some false => .ok (.w (.fz (.bool false))) ρ4
      | none => .bad := rfl
theorem ev_andE (a b : E) : E.ev cf gg (.andE a b) ρ = (a.ev cf gg ρ).bind fun za ρ1 => (nonBw za ρ1).bind fun xa ρ2 => (liftO (truD xa.dat) ρ2).bind fun c ρ3 => if c then b.ev cf gg ρ3 else .ok (.w xa) ρ3 := rfl
theorem ev_orE (a b : E) : E.ev cf gg (.orE a b) ρ = (a.ev cf gg ρ).bind fun za ρ1 => (nonBw za ρ1).bind fun xa ρ2 => (liftO (truD xa.dat) ρ2).bind fun c ρ3 => if c then .ok (.w xa) ρ3 else b.ev cf gg ρ3 := rfl
theorem ev_nt (a : E) : E.ev cf gg (.nt a) ρ = (a.ev cf gg ρ).bind fun za ρ1 => ofD ((truD za.dat).map fun c => .bool (!c)) ρ1 := rfl
theorem ev_ife (t : T) (a b : E) : E.ev cf gg (.ife t a b) ρ = (t.tst cf gg ρ).bind fun c ρ1 => if c then a.ev cf gg ρ1 else b.ev cf gg ρ1 := rfl
theorem ev_tup (es : Es) : E.ev cf gg (.tup es) ρ = (es.ev cf gg ρ).bind fun as ρ1 => (liftO (onlyW as) ρ1).bind fun ws ρ2 => if okPy ws.length then .ok (.w (.fz (.tuple (ws.map W.dat)))) ρ2 else .bad := rfl
theorem ev_lst (es : Es) : E.ev cf gg (.lst es) ρ = (es.ev cf gg ρ).bind fun as ρ1 => (liftO (onlyW as) ρ1).bind fun ws ρ2 => if okPy ws.length then .ok (.w (.own (.l (ws.map W.o)))) ρ2 else .bad := rfl
theorem ev_ix (a b : E) : E.ev cf gg (.ix a b) ρ = two (isRd a) (a.ev cf gg) (b.ev cf gg) ixF ρ := rfl
theorem ev_sl (a lo hi : E) : E.ev cf gg (.sl a lo hi) ρ = three (isRd a) (a.ev cf gg) (bndM lo.isNoneK (lo.ev cf gg)) (bndM hi.isNoneK (hi.ev cf gg)) slF ρ := rfl
theorem ev_call (f : Str) (es : Es) : E.ev cf gg (.call f es) ρ = (es.ev cf gg ρ).bind fun as ρ1 => doCall cf f as ρ1 := rfl
theorem ev_callk (f : Str) (ks : List Str) (perm : List Nat) (kes : Es) : E.ev cf gg (.callk f ks perm kes) ρ = (kes.ev cf gg ρ).bind fun as ρ1 => (liftO (onlyW as) ρ1).bind fun ws ρ2 => if ws.length = ks.length then R.calm (callK cf f perm (ws.map W.dat) ρ2) else .bad := rfl
theorem ev_own (e : E) : E.ev cf gg (.own e) ρ = e.ev cf gg ρ := rfl
theorem ev_b1 (f : B1) (a : E) : E.ev cf gg (.b1 f a) ρ = (a.ev cf gg ρ).bind fun za ρ1 => b1F f za ρ1 := rfl
theorem ev_b2 (f : B2) (a b : E) : E.ev cf gg (.b2 f a b) ρ = two none (a.ev cf gg) (b.ev cf gg) (fun a b ρ => ofD (b2D f a.dat b.dat) ρ) ρ := rfl
theorem ev_isi (a : E) (tys : List Ty) : E.ev cf gg (.isi a tys) ρ = (a.ev cf gg ρ).bind fun za ρ1 => isiF tys za.dat ρ1 := rfl
theorem ev_gin (x : Str) (neg : Bool) (a : E) : E.ev cf gg (.gin x neg a) ρ = (a.ev cf gg ρ).bind fun za ρ1 => ginF gg x neg za.dat ρ1 := rfl
theorem ev_gix (x : Str) (a : E) : E.ev cf gg (.gix x a) ρ = (a.ev cf gg ρ).bind fun za ρ1 => gixF gg x za.dat ρ1 := rfl
theorem ss_nil : Ss.ex cf gg fuel .nil ρ = .nx ρ := rfl
theorem ss_cons (s : S) (r : Ss) : Ss.ex cf gg fuel (.cons s r) ρ = (S.ex cf gg fuel s ρ).then (Ss.ex cf gg fuel r) := rfl
theorem es_nil : Es.ev cf gg .nil ρ = .ok [] ρ := rfl
theorem ex_asg (i : Nat) (e : E) : S.ex cf gg fuel (.asg (.n i) e) ρ = Fl.of (e.ev cf gg ρ) fun z ρ1 => Fl.of (nonBw z ρ1) fun x ρ2 => .nx (ρ2.set i (some x)) := rfl
theorem ex_par (i j : Nat) (a b : E) : S.ex cf gg fuel (.par i j a b) ρ = Fl.of (a.ev cf gg ρ) fun za ρ1 => Fl.of (nonBw za ρ1) fun xa ρ2 => Fl.of (b.ev cf gg ρ2) fun zb ρ3 => Fl.of (nonBw zb ρ3) fun xb ρ4 => .nx ((ρ4.set i (some xa)).set j (some xb)) := rfl
theorem ex_ife (t : T) (a b : Ss) : S.ex cf gg fuel (.ife t a b) ρ = Fl.of (t.tst cf gg ρ) fun c ρ1 => if c then a.ex cf gg fuel ρ1 else b.ex cf gg fuel ρ1 := rfl
theorem ex_ret (e : E) : S.ex cf gg fuel (.ret e) ρ = Fl.of (e.ev cf gg ρ) fun z ρ1 => Fl.of (nonBw z ρ1) fun x ρ2 => .rt x ρ2 := rfl
end
section
variable (a b c d : D) (ρ : Env)
abbrev tupK (as : List Arg) (ρ : Env) : R Z := (liftO (onlyW as) ρ).bind fun ws ρ2 => if okPy ws.length then .ok (.w (.fz (.tuple (ws.map W.dat)))) ρ2 else .bad
abbrev lstK (as : List Arg) (ρ : Env) : R Z := (liftO (onlyW as) ρ).bind fun ws ρ2 => if okPy ws.length then .ok (.w (.own (.l (ws.map W.o)))) ρ2 else .bad
theorem okpy (n : Nat) (h : n ≤ 1000) : okPy n = true := decide_eq_true (by rw [sizeLine_eq]; omega)
theorem tup0 : ((liftO (onlyW []) ρ).bind fun ws ρ2 => if okPy ws.length then R.ok (Z.w (.fz (.tuple (ws.map W.dat)))) ρ2 else .bad) = .ok (.w (.fz (.tuple []))) ρ := if_pos (e := R.bad) (okpy 0 (by omega))
theorem tup1 : ((liftO (onlyW [.a (.fz a)]) ρ).bind fun ws ρ2 => if okPy ws.length then R.ok (Z.w (.fz (.tuple (ws.map W.dat)))) ρ2 else .bad) = .ok (.w (.fz (.tuple [a]))) ρ := if_pos (e := R.bad) (okpy 1 (by omega))
theorem tup2 : ((liftO (onlyW [.a (.fz a), .a (.fz b)]) ρ).bind fun ws ρ2 => if okPy ws.length then R.ok (Z.w (.fz (.tuple (ws.map W.dat)))) ρ2 else .bad) = .ok (.w (.fz (.tuple [a, b]))) ρ := if_pos (e := R.bad) (okpy 2 (by omega))
theorem tup3 : ((liftO (onlyW [.a (.fz a), .a (.fz b), .a (.fz c)]) ρ).bind fun ws ρ2 => if okPy ws.length then R.ok (Z.w (.fz (.tuple (ws.map W.dat)))) ρ2 else .bad) = .ok (.w (.fz (.tuple [a, b, c]))) ρ := if_pos (e := R.bad) (okpy 3 (by omega))
theorem tup4 : ((liftO (onlyW [.a (.fz a), .a (.fz b), .a (.fz c), .a (.fz d)]) ρ).bind fun ws ρ2 => if okPy ws.length then R.ok (Z.w (.fz (.tuple (ws.map W.dat)))) ρ2 else .bad) = .ok (.w (.fz (.tuple [a, b, c, d]))) ρ := if_pos (e := R.bad) (okpy 4 (by omega))
theorem lst0 : ((liftO (onlyW []) ρ).bind fun ws ρ2 => if okPy ws.length then R.ok (Z.w (.own (.l (ws.map W.o)))) ρ2 else .bad) = .ok (.w (.own (.l []))) ρ := if_pos (e := R.bad) (okpy 0 (by omega))
theorem lst1 : ((liftO (onlyW [.a (.fz a)]) ρ).bind fun ws ρ2 => if okPy ws.length then R.ok (Z.w (.own (.l (ws.map W.o)))) ρ2 else .bad) = .ok (.w (.own (.l [.d a]))) ρ := if_pos (e := R.bad) (okpy 1 (by omega))
theorem lst3 : ((liftO (onlyW [.a (.fz a), .a (.fz b), .a (.fz c)]) ρ).bind fun ws ρ2 => if okPy ws.length then R.ok (Z.w (.own (.l (ws.map W.o)))) ρ2 else .bad) = .ok (.w (.own (.l [.d a, .d b, .d c]))) ρ := if_pos (e := R.bad) (okpy 3 (by omega))
end
section
variable (cf : CF) (gg : G) (fuel : Nat) (ρ : Env)
theorem ex_for (t : Tg) (it : I) (b : Ss) : S.ex cf gg fuel (.for t it b) ρ = Fl.of (it.ev cf gg ρ) fun ds ρ1 => forLoop (fun d ρ => match setTg t d ρ with
      | some ρ' => b.ex cf gg fuel ρ'
      | none => .bad) ds ρ1 := rfl
theorem for_inv {body : D → Env → Fl} {Iv : Nat → Env → Prop} : ∀ (ds : List D) (k : Nat) (ρ : Env), Iv k ρ → (∀ i d ρ, ds[i]? = some d → Iv (k + i) ρ → ∃ ρ', body d ρ = .nx ρ' ∧ Iv (k + i + 1) ρ') → ∃ ρ', forLoop body ds ρ = .nx ρ' ∧ Iv (k + ds.length) ρ'
  | [], k, ρ, h, _ => ⟨ρ, rfl, h⟩
  | d :: ds, k, ρ, h, hs => by
    obtain ⟨ρ1, e1, h1⟩ := hs 0 d ρ rfl h
    obtain ⟨ρ2, e2, h2⟩ := for_inv ds (k + 1) ρ1 h1 fun i d' ρ' hd hi => by
      have e : k + 1 + i = k + (i + 1) := by omega
      rw [e] at hi ⊢
      exact hs (i + 1) d' ρ' (by simpa using hd) hi
    refine ⟨ρ2, ?_, by have e : k + 1 + ds.length = k + (d :: ds).length := by simp only [List.length_cons]; omega
                       rw [e] at h2; exact h2⟩
    show (match body d ρ with
      | .nx ρ1 => forLoop body ds ρ1
      | .ct ρ1 => forLoop body ds ρ1
      | .bk ρ1 => .nx ρ1
      | r => r) = _
    rw [e1]
    exact e2
theorem setTg_n (i : Nat) (d : D) : setTg (.n i) d ρ = some (ρ.set i (some (.fz d))) := rfl
theorem rng1_ev (a : E) (z : Z) (ρ1 : Env) (j : Nat) (hj : j ≤ 1000000) (h : a.ev cf gg ρ = .ok z ρ1) (hz : z.dat = .int j) : I.ev cf gg (.rng1 a) ρ = .ok (rngD 0 1 j) ρ1 := by
  show ((a.ev cf gg ρ).bind fun z ρ1 => match z.dat with
      | .int j => if small62 j then .ok (rngD 0 1 j.toNat) ρ1 else .bad
      | _ => .bad) = _
  rw [h]
  show (match z.dat with
      | .int j => if small62 j then R.ok (rngD 0 1 j.toNat) ρ1 else .bad
      | _ => .bad) = _
  rw [hz]
  have : small62 (j : Int) = true := by
    unfold small62
    rw [Bool.and_eq_true]
    exact ⟨decide_eq_true (by omega), decide_eq_true (by omega)⟩
  show (if small62 (j : Int) then R.ok (rngD 0 1 (j : Int).toNat) ρ1 else .bad) = _
  rw [if_pos this]
  rfl
end
end Co

set_option Elab.async false
set_option linter.all false
set_option maxRecDepth 100000
set_option maxHeartbeats 8000000
namespace Co
open PySem
/-! ### statements one by one -/
theorem ss_step {cf : CF} {gg : G} {fu : Nat} {s : S} {r : Ss} {ρ ρ1 : Env} {F : Fl} (h : S.ex cf gg fu s ρ = .nx ρ1) (h2 : Ss.ex cf gg fu r ρ1 = F) : Ss.ex cf gg fu (.cons s r) ρ = F := by
  rw [ss_cons, h]; exact h2
theorem ss_rt {cf : CF} {gg : G} {fu : Nat} {s : S} {r : Ss} {ρ ρ1 : Env} {x : W} (h : S.ex cf gg fu s ρ = .rt x ρ1) : Ss.ex cf gg fu (.cons s r) ρ = .rt x ρ1 := by
  rw [ss_cons, h]; rfl
/-- a loop that may return -/
theorem for_ret {body : D → Env → Fl} {Iv : Nat → Env → Prop} {Q : W → Env → Prop} : ∀ (ds : List D) (k : Nat) (ρ : Env), Iv k ρ → (∀ i d ρ, ds[i]? = some d → Iv (k + i) ρ → (∃ ρ', body d ρ = .nx ρ' ∧ Iv (k + i + 1) ρ') ∨ ∃ x ρ', body d ρ = .rt x ρ' ∧ Q x ρ') → (∃ ρ', forLoop body ds ρ = .nx ρ' ∧ Iv (k + ds.length) ρ') ∨ ∃ x ρ', forLoop body ds ρ = .rt x ρ' ∧ Q x ρ'
  | [], k, ρ, h, _ => .inl ⟨ρ, rfl, h⟩
  | d :: ds, k, ρ, h, hs => by
    have st : ∀ r, body d ρ = r → forLoop body (d :: ds) ρ = match r with
      | .nx ρ1 => forLoop body ds ρ1
      | .ct ρ1 => forLoop body ds ρ1
      | .bk ρ1 => .nx ρ1
      | r => r := by
      intro r e
      show (match body d ρ with
        | .nx ρ1 => forLoop body ds ρ1
        | .ct ρ1 => forLoop body ds ρ1
        | .bk ρ1 => .nx ρ1
        | r => r) = _
      rw [e]
    rcases hs 0 d ρ rfl h with ⟨ρ1, e1, h1⟩ | ⟨x, ρ1, e1, h1⟩
    · have := for_ret ds (k + 1) ρ1 h1 fun i d' ρ' hd hi => by
        have e : k + 1 + i = k + (i + 1) := by omega
        rw [e] at hi ⊢
        exact hs (i + 1) d' ρ' (by simpa using hd) hi
      have e : k + 1 + ds.length = k + (d :: ds).length := by simp only [List.length_cons]; omega
      rw [e] at this
      rw [st _ e1]
      exact this
    · rw [st _ e1]
      exact .inr ⟨x, ρ1, rfl, h1⟩
theorem lst6 (a b c d e f : D) (ρ : Env) : ((liftO (onlyW [.a (.fz a), .a (.fz b), .a (.fz c), .a (.fz d), .a (.fz e), .a (.fz f)]) ρ).bind fun ws ρ2 => if okPy ws.length then R.ok (Z.w (.own (.l (ws.map W.o)))) ρ2 else .bad) = .ok (.w (.own (.l [.d a, .d b, .d c, .d d, .d e, .d f]))) ρ := if_pos (e := R.bad) (okpy 6 (by omega))
theorem callk_ok {cf : CF} {f : Str} {perm : List Nat} {ks : List Str} {as : List Arg} {ws : List W} {ρ : Env} {v : D} {os : List O} (h : onlyW as = some ws) (hl : ws.length = ks.length) (hc : cf f ((permL perm (ws.map W.dat)).map .fz) = .ret (.fz v) os) :
    ((liftO (onlyW as) ρ).bind fun ws ρ2 => if ws.length = ks.length then R.calm (callK cf f perm (ws.map W.dat) ρ2) else .bad) = .ok (.w (.fz v)) ρ := by
  rw [h]
  show (if ws.length = ks.length then R.calm (callK cf f perm (ws.map W.dat) ρ) else .bad) = _
  rw [if_pos hl]
  unfold callK
  rw [hc]
  rfl
/-- a comprehension, by what holds behind each element -/
theorem lc_inv {cf : CF} {g : G} {i : Nat} {it : I} {e : E} {nm : Str} {ρ0 ρ1 : Env} {ds : List D} (Iv : Nat → List O → Env → Prop) (hit : it.ev cf g ρ0 = .ok ds ρ1) (hl : ds.length ≤ 1000000) (h0 : Iv 0 [] (ρ1.set i none))
    (h : ∀ k d acc ρ, ds[k]? = some d → Iv k acc ρ → ∃ x ρ', e.ev cf g (ρ.set i (some (.fz d))) = .ok (.w x) ρ' ∧ Iv (k + 1) (acc ++ [x.o]) (ρ'.set i none)) :
    ∃ os ρ', (E.lc [(nm, i)] (.n i) it .yes e).ev cf g ρ0 = .ok (.w (.own (.l os))) ρ' ∧ Iv ds.length os ρ' := by
  have key : ∀ (xs : List D) (k : Nat) (acc : List O) (ρ : Env), acc.length = k → k + xs.length ≤ 1000000 → (∀ j d, xs[j]? = some d → ds[k + j]? = some d) → Iv k acc ρ →
      ∃ os ρ', lcLoop (fun d ρ => (setTgR (.n i) d ρ).bind fun _ ρ1 => ((T.yes).tst cf g ρ1).bind fun b ρ2 =>
        if b then (e.ev cf g ρ2).bind fun z ρ3 => (nonBw z ρ3).bind fun x ρ4 => .ok (some x.o) ρ4 else .ok none ρ2) [i] xs acc ρ = .ok os ρ' ∧ Iv (k + xs.length) os ρ' := by
    intro xs
    induction xs with
    | nil => intro k acc ρ _ _ _ hi; exact ⟨acc, ρ, rfl, hi⟩
    | cons d xs ih =>
      intro k acc ρ ha hk hd hi
      obtain ⟨x, ρ', h1, h2⟩ := h k d acc ρ (by have := hd 0 d rfl; simpa using this) hi
      have hb : ((setTgR (.n i) d ρ).bind fun _ ρ1 => ((T.yes).tst cf g ρ1).bind fun b ρ2 =>
          if b then (e.ev cf g ρ2).bind fun z ρ3 => (nonBw z ρ3).bind fun x ρ4 => .ok (some x.o) ρ4 else .ok none ρ2) = .ok (some x.o) ρ' := by
        show ((e.ev cf g (ρ.set i (some (.fz d)))).bind fun z ρ3 => (nonBw z ρ3).bind fun x ρ4 => R.ok (some x.o) ρ4) = _
        rw [h1]
        rfl
      obtain ⟨os, ρ2, e1, e2⟩ := ih (k + 1) (acc ++ [x.o]) (ρ'.set i none) (by simp [ha]) (by simp only [List.length_cons] at hk; omega) (fun j d' hj => by
        have := hd (j + 1) d' (by simpa using hj)
        rw [show k + 1 + j = k + (j + 1) by omega]
        exact this) h2
      refine ⟨os, ρ2, ?_, by simp only [List.length_cons]; rw [show k + (xs.length + 1) = k + 1 + xs.length by omega]; exact e2⟩
      rw [lc_cons, hb]
      show (if acc.length < sizeLine then lcLoop _ [i] xs (acc ++ [x.o]) (wipeE ρ' [i]) else .bad) = _
      have hz : acc.length < sizeLine := by
        rw [sizeLine_eq]
        simp only [List.length_cons] at hk
        omega
      rw [if_pos hz]
      exact e1
  obtain ⟨os, ρ', e1, e2⟩ := key ds 0 [] (ρ1.set i none) rfl (by omega) (fun j d hj => by rw [Nat.zero_add]; exact hj) h0
  refine ⟨os, ρ', ?_, by simpa using e2⟩
  show ((it.ev cf g ρ0).bind fun ds ρ1 => ((lcLoop (fun d ρ => (setTgR (.n i) d ρ).bind fun _ ρ1 => ((T.yes).tst cf g ρ1).bind fun b ρ2 =>
        if b then (e.ev cf g ρ2).bind fun z ρ3 => (nonBw z ρ3).bind fun x ρ4 => .ok (some x.o) ρ4 else .ok none ρ2) [i] ds [] (wipeE ρ1 [i])).calm).bind fun os ρ2 => R.ok (Z.w (.own (.l os))) ρ2) = _
  rw [hit]
  show (((lcLoop _ [i] ds [] (ρ1.set i none)).calm).bind fun os ρ2 => R.ok (Z.w (.own (.l os))) ρ2) = _
  rw [e1]
  rfl
/-- a comprehension with a condition -/
theorem lc_filter {cf : CF} {g : G} {i : Nat} {it : I} {c : T} {e : E} {nm : Str} {ρ0 ρ : Env} {ds : List D} {P : D → Bool} {f : D → O} (hit : it.ev cf g ρ0 = .ok ds ρ) (hl : ds.length ≤ 1000000)
    (h : ∀ d ∈ ds, c.tst cf g ((ρ.set i none).set i (some (.fz d))) = .ok (P d) ((ρ.set i none).set i (some (.fz d))) ∧ (P d = true → ∃ x, e.ev cf g ((ρ.set i none).set i (some (.fz d))) = .ok (.w x) ((ρ.set i none).set i (some (.fz d))) ∧ x.o = f d)) :
    (E.lc [(nm, i)] (.n i) it c e).ev cf g ρ0 = .ok (.w (.own (.l ((ds.filter P).map f)))) (ρ.set i none) := by
  have key : ∀ (ds : List D) (acc : List O), acc.length + ds.length ≤ 1000000 → (∀ d ∈ ds, c.tst cf g ((ρ.set i none).set i (some (.fz d))) = .ok (P d) ((ρ.set i none).set i (some (.fz d))) ∧ (P d = true → ∃ x, e.ev cf g ((ρ.set i none).set i (some (.fz d))) = .ok (.w x) ((ρ.set i none).set i (some (.fz d))) ∧ x.o = f d)) →
      lcLoop (fun d ρ => (setTgR (.n i) d ρ).bind fun _ ρ1 => (c.tst cf g ρ1).bind fun b ρ2 =>
        if b then (e.ev cf g ρ2).bind fun z ρ3 => (nonBw z ρ3).bind fun x ρ4 => .ok (some x.o) ρ4 else .ok none ρ2) [i] ds acc (ρ.set i none) = .ok (acc ++ (ds.filter P).map f) (ρ.set i none) := by
    intro ds
    induction ds with
    | nil => intro acc _ _; simp [lcLoop]
    | cons d ds ih =>
      intro acc ha h
      obtain ⟨h1, h2⟩ := h d List.mem_cons_self
      have hw : wipeE ((ρ.set i none).set i (some (.fz d))) [i] = ρ.set i none := by
        show ((ρ.set i none).set i (some (.fz d))).set i none = _
        rw [List.set_set, List.set_set]
      rw [lc_cons]
      cases q : P d with
      | true =>
        obtain ⟨x, h3, h4⟩ := h2 q
        have hb : ((setTgR (.n i) d (ρ.set i none)).bind fun _ ρ1 => (c.tst cf g ρ1).bind fun b ρ2 =>
          if b then (e.ev cf g ρ2).bind fun z ρ3 => (nonBw z ρ3).bind fun x ρ4 => .ok (some x.o) ρ4 else .ok none ρ2) = .ok (some x.o) ((ρ.set i none).set i (some (.fz d))) := by
          show ((c.tst cf g ((ρ.set i none).set i (some (.fz d)))).bind fun b ρ2 => if b then (e.ev cf g ρ2).bind fun z ρ3 => (nonBw z ρ3).bind fun x ρ4 => R.ok (some x.o) ρ4 else .ok none ρ2) = _
          rw [h1, q]
          show ((e.ev cf g ((ρ.set i none).set i (some (.fz d)))).bind fun z ρ3 => (nonBw z ρ3).bind fun x ρ4 => R.ok (some x.o) ρ4) = _
          rw [h3]
          rfl
        rw [hb]
        show (if acc.length < sizeLine then lcLoop _ [i] ds (acc ++ [x.o]) (wipeE ((ρ.set i none).set i (some (.fz d))) [i]) else .bad) = _
        rw [if_pos (by rw [sizeLine_eq]; simp at ha; omega), hw, h4, ih (acc ++ [f d]) (by simp at ha ⊢; omega) fun d' hm => h d' (List.mem_cons_of_mem _ hm), List.filter_cons_of_pos q]
        simp
      | false =>
        have hb : ((setTgR (.n i) d (ρ.set i none)).bind fun _ ρ1 => (c.tst cf g ρ1).bind fun b ρ2 =>
          if b then (e.ev cf g ρ2).bind fun z ρ3 => (nonBw z ρ3).bind fun x ρ4 => .ok (some x.o) ρ4 else .ok none ρ2) = .ok none ((ρ.set i none).set i (some (.fz d))) := by
          show ((c.tst cf g ((ρ.set i none).set i (some (.fz d)))).bind fun b ρ2 => if b then (e.ev cf g ρ2).bind fun z ρ3 => (nonBw z ρ3).bind fun x ρ4 => R.ok (some x.o) ρ4 else .ok none ρ2) = _
          rw [h1, q]
          rfl
        rw [hb]
        show lcLoop _ [i] ds acc (wipeE ((ρ.set i none).set i (some (.fz d))) [i]) = _
        rw [hw, ih acc (by simp at ha; omega) fun d' hm => h d' (List.mem_cons_of_mem _ hm), List.filter_cons_of_neg (by rw [q]; exact Bool.false_ne_true)]
  show ((it.ev cf g ρ0).bind fun ds ρ1 => ((lcLoop (fun d ρ => (setTgR (.n i) d ρ).bind fun _ ρ1 => (c.tst cf g ρ1).bind fun b ρ2 =>
        if b then (e.ev cf g ρ2).bind fun z ρ3 => (nonBw z ρ3).bind fun x ρ4 => .ok (some x.o) ρ4 else .ok none ρ2) [i] ds [] (wipeE ρ1 [i])).calm).bind fun os ρ2 => R.ok (Z.w (.own (.l os))) ρ2) = _
  rw [hit]
  show (((lcLoop _ [i] ds [] (ρ.set i none)).calm).bind fun os ρ2 => R.ok (Z.w (.own (.l os))) ρ2) = _
  rw [key ds [] (by simpa using hl) h]
  rfl
end Co

set_option Elab.async false
set_option linter.all false
set_option maxRecDepth 100000
set_option maxHeartbeats 8000000
namespace K04
open PySem PySem.Spec PyProof.Rows L2 Co
def top (i : Nat) : Stmt := PySem.Challenge.pw_tiedterms_k04_main_put_in_one_behind_the.main.body.getD i (.Pass ⟨0, 0, 0, 0⟩)
/- functions in the core, by gen.py -/
def d_is_number : Fn where
  name := "is_number"
  ps := ["thing"]
  N := ["thing"]
  io := []
  body := (.cons (.ret (.andE (.isi (.rd 0) [.int]) (.nt (.isi (.rd 0) [.bool]))))
    .nil)

def d_is_among : Fn where
  name := "is_among"
  ps := ["thing", "least", "most"]
  N := ["thing", "least", "most"]
  io := []
  body := (.cons (.ret (.andE (.call "is_number" (.cons (.v 0) .nil)) (.chain .le .le (.v 1) (.v 0) (.rd 2))))
    .nil)

def d_is_from : Fn where
  name := "is_from"
  ps := ["thing", "least"]
  N := ["thing", "least"]
  io := []
  body := (.cons (.ret (.andE (.call "is_number" (.cons (.v 0) .nil)) (.cmp .ge (.rd 0) (.rd 1))))
    .nil)

def d_are_among : Fn where
  name := "are_among"
  ps := ["thing", "least", "most"]
  N := ["thing", "least", "most", "own"]
  io := []
  body := (.cons (.ret (.andE (.isi (.rd 0) [.tuple]) (.b1 .all (.lc [("own", 3)] (.n 3) (.seq (.v 0)) .yes (.call "is_among" (.cons (.v 3) (.cons (.v 1) (.cons (.v 2) .nil))))))))
    .nil)

def d_tupled : Fn where
  name := "tupled"
  ps := ["value"]
  N := ["value", "own"]
  io := []
  body := (.cons (.ret (.ife (.val (.isi (.rd 0) [.list, .tuple])) (.b1 .tuple (.lc [("own", 1)] (.n 1) (.seq (.v 0)) .yes (.call "tupled" (.cons (.v 1) .nil)))) (.v 0)))
    .nil)

def d_children : Fn where
  name := "children"
  ps := ["term"]
  N := ["term"]
  io := []
  body := (.cons (.ret (.ife (.cmp .gt (.gix "CHILDREN" (.ix (.rd 0) (.k (.int 0)))) (.k (.int 0))) (.sl (.rd 0) (.k (.int 1)) (.k .none)) (.tup .nil)))
    .nil)

def d_is_term_in : Fn where
  name := "is_term_in"
  ps := ["thing"]
  N := ["thing", "many", "own"]
  io := []
  body := (.cons (.ife (.or (.nt (.val (.isi (.rd 0) [.tuple]))) (.or (.cmp .eq (.rd 0) (.tup .nil)) (.or (.nt (.val (.isi (.ix (.rd 0) (.k (.int 0))) [.str]))) (.gin "CHILDREN" true (.ix (.rd 0) (.k (.int 0))))))) (.cons (.ret (.k (.bool false)))
    .nil) .nil)
    (.cons (.asg (.n 1) (.gix "CHILDREN" (.ix (.rd 0) (.k (.int 0)))))
    (.cons (.ife (.cmp .eq (.rd 1) (.k (.int 0))) (.cons (.ret (.andE (.cmp .eq (.b1 .len (.rd 0)) (.k (.int 2))) (.call "is_from" (.cons (.ix (.rd 0) (.k (.int 1))) (.cons (.k (.int 0)) .nil)))))
    .nil) .nil)
    (.cons (.ret (.andE (.cmp .eq (.b1 .len (.rd 0)) (.bin .add (.rd 1) (.k (.int 1)))) (.b1 .all (.lc [("own", 2)] (.n 2) (.seq (.sl (.rd 0) (.k (.int 1)) (.k .none))) .yes (.call "is_term_in" (.cons (.v 2) .nil))))))
    .nil))))

def d_sure_term : Fn where
  name := "sure_term"
  ps := ["value"]
  N := ["value", "own"]
  io := []
  body := (.cons (.asg (.n 1) (.call "tupled" (.cons (.v 0) .nil)))
    (.cons (.ife (.nt (.val (.call "is_term_in" (.cons (.v 1) .nil)))) (.cons (.nev)
    .nil) .nil)
    (.cons (.ret (.v 1))
    .nil)))

def d_places_in : Fn where
  name := "places_in"
  ps := ["term"]
  N := ["term", "found", "number", "own", "place"]
  io := []
  body := (.cons (.asg (.n 1) (.lst (.cons (.tup .nil) .nil)))
    (.cons (.for (.t [2, 3]) (.enum (.call "children" (.cons (.v 0) .nil))) (.cons (.ext 1 (.lc [("place", 4)] (.n 4) (.seq (.call "places_in" (.cons (.v 3) .nil))) .yes (.bin .add (.tup (.cons (.v 2) .nil)) (.rd 4))))
    .nil))
    (.cons (.ret (.v 1))
    .nil)))

def d_is_place_in : Fn where
  name := "is_place_in"
  ps := ["term", "place"]
  N := ["term", "place", "number"]
  io := []
  body := (.cons (.for (.n 2) (.seq (.v 1)) (.cons (.ife (.nt (.chain .le .lt (.k (.int 0)) (.v 2) (.b1 .len (.call "children" (.cons (.v 0) .nil))))) (.cons (.ret (.k (.bool false)))
    .nil) .nil)
    (.cons (.asg (.n 0) (.ix (.call "children" (.cons (.v 0) .nil)) (.rd 2)))
    .nil)))
    (.cons (.ret (.k (.bool true)))
    .nil))

def d_part_in : Fn where
  name := "part_in"
  ps := ["term", "place"]
  N := ["term", "place", "number"]
  io := []
  body := (.cons (.for (.n 2) (.seq (.v 1)) (.cons (.asg (.n 0) (.ix (.rd 0) (.bin .add (.rd 2) (.k (.int 1)))))
    .nil))
    (.cons (.ret (.v 0))
    .nil))

def d_put_in : Fn where
  name := "put_in"
  ps := ["term", "place", "other"]
  N := ["term", "place", "other", "number"]
  io := []
  body := (.cons (.ife (.cmp .eq (.rd 1) (.tup .nil)) (.cons (.ret (.v 2))
    .nil) .nil)
    (.cons (.asg (.n 3) (.bin .add (.ix (.rd 1) (.k (.int 0))) (.k (.int 1))))
    (.cons (.ret (.bin .add (.bin .add (.sl (.rd 0) (.k .none) (.rd 3)) (.tup (.cons (.call "put_in" (.cons (.ix (.rd 0) (.rd 3)) (.cons (.sl (.rd 1) (.k (.int 1)) (.k .none)) (.cons (.v 2) .nil)))) .nil))) (.sl (.rd 0) (.bin .add (.rd 3) (.k (.int 1))) (.k .none))))
    .nil)))

def d_letters_in : Fn where
  name := "letters_in"
  ps := ["term", "deep"]
  N := ["term", "deep", "found", "own"]
  io := []
  body := (.cons (.ife (.cmp .eq (.ix (.rd 0) (.k (.int 0))) (.k (.str "var"))) (.cons (.ret (.ife (.cmp .ge (.ix (.rd 0) (.k (.int 1))) (.rd 1)) (.lst (.cons (.bin .sub (.ix (.rd 0) (.k (.int 1))) (.rd 1)) .nil)) (.lst .nil)))
    .nil) .nil)
    (.cons (.asg (.n 2) (.lst .nil))
    (.cons (.for (.n 3) (.seq (.call "children" (.cons (.v 0) .nil))) (.cons (.ext 2 (.call "letters_in" (.cons (.v 3) (.cons (.ife (.cmp .eq (.ix (.rd 0) (.k (.int 0))) (.k (.str "fun"))) (.bin .add (.rd 1) (.k (.int 1))) (.v 1)) .nil))))
    .nil))
    (.cons (.ret (.v 2))
    .nil))))

def d_sure_place : Fn where
  name := "sure_place"
  ps := ["term", "place"]
  N := ["term", "place", "own"]
  io := []
  body := (.cons (.asg (.n 2) (.call "tupled" (.cons (.v 1) .nil)))
    (.cons (.ife (.or (.nt (.val (.call "are_among" (.cons (.v 2) (.cons (.k (.int 0)) (.cons (.k (.int 2)) .nil)))))) (.nt (.val (.call "is_place_in" (.cons (.v 0) (.cons (.v 2) .nil)))))) (.cons (.nev)
    .nil) .nil)
    (.cons (.ret (.v 2))
    .nil)))

def d_part_at : Fn where
  name := "part_at"
  ps := ["term", "place"]
  N := ["term", "place", "own"]
  io := []
  body := (.cons (.asg (.n 2) (.call "sure_term" (.cons (.v 0) .nil)))
    (.cons (.ret (.call "part_in" (.cons (.v 2) (.cons (.call "sure_place" (.cons (.v 2) (.cons (.v 1) .nil))) .nil))))
    .nil))

def d_free_letters : Fn where
  name := "free_letters"
  ps := ["term"]
  N := ["term"]
  io := []
  body := (.cons (.ret (.b1 .tuple (.sset (.call "letters_in" (.cons (.call "sure_term" (.cons (.v 0) .nil)) (.cons (.k (.int 0)) .nil))))))
    .nil)

def d_is_closed : Fn where
  name := "is_closed"
  ps := ["term"]
  N := ["term"]
  io := []
  body := (.cons (.ret (.cmp .eq (.call "letters_in" (.cons (.call "sure_term" (.cons (.v 0) .nil)) (.cons (.k (.int 0)) .nil))) (.lst .nil)))
    .nil)

def d_raised_in : Fn where
  name := "raised_in"
  ps := ["term", "number", "least"]
  N := ["term", "number", "least", "more", "own"]
  io := []
  body := (.cons (.ife (.cmp .eq (.ix (.rd 0) (.k (.int 0))) (.k (.str "var"))) (.cons (.ret (.ife (.cmp .ge (.ix (.rd 0) (.k (.int 1))) (.rd 2)) (.tup (.cons (.k (.str "var")) (.cons (.bin .add (.ix (.rd 0) (.k (.int 1))) (.rd 1)) .nil))) (.v 0)))
    .nil) .nil)
    (.cons (.ife (.cmp .eq (.ix (.rd 0) (.k (.int 0))) (.k (.str "num"))) (.cons (.ret (.v 0))
    .nil) .nil)
    (.cons (.asg (.n 3) (.ife (.cmp .eq (.ix (.rd 0) (.k (.int 0))) (.k (.str "fun"))) (.bin .add (.rd 2) (.k (.int 1))) (.v 2)))
    (.cons (.ret (.bin .add (.tup (.cons (.ix (.rd 0) (.k (.int 0))) .nil)) (.b1 .tuple (.lc [("own", 4)] (.n 4) (.seq (.call "children" (.cons (.v 0) .nil))) .yes (.call "raised_in" (.cons (.v 4) (.cons (.v 1) (.cons (.v 3) .nil))))))))
    .nil))))

def d_lets_at : Fn where
  name := "lets_at"
  ps := ["term", "row", "deep"]
  N := ["term", "row", "deep", "letter", "more", "own"]
  io := []
  body := (.cons (.ife (.cmp .eq (.ix (.rd 0) (.k (.int 0))) (.k (.str "var"))) (.cons (.ife (.cmp .lt (.ix (.rd 0) (.k (.int 1))) (.rd 2)) (.cons (.ret (.v 0))
    .nil) .nil)
    (.cons (.asg (.n 3) (.bin .sub (.ix (.rd 0) (.k (.int 1))) (.rd 2)))
    (.cons (.ret (.ife (.cmp .lt (.rd 3) (.b1 .len (.rd 1))) (.call "raised_in" (.cons (.ix (.rd 1) (.rd 3)) (.cons (.v 2) (.cons (.k (.int 0)) .nil)))) (.tup (.cons (.k (.str "var")) (.cons (.bin .sub (.ix (.rd 0) (.k (.int 1))) (.b1 .len (.rd 1))) .nil)))))
    .nil))) .nil)
    (.cons (.ife (.cmp .eq (.ix (.rd 0) (.k (.int 0))) (.k (.str "num"))) (.cons (.ret (.v 0))
    .nil) .nil)
    (.cons (.asg (.n 4) (.ife (.cmp .eq (.ix (.rd 0) (.k (.int 0))) (.k (.str "fun"))) (.bin .add (.rd 2) (.k (.int 1))) (.v 2)))
    (.cons (.ret (.bin .add (.tup (.cons (.ix (.rd 0) (.k (.int 0))) .nil)) (.b1 .tuple (.lc [("own", 5)] (.n 5) (.seq (.call "children" (.cons (.v 0) .nil))) .yes (.call "lets_at" (.cons (.v 5) (.cons (.v 1) (.cons (.v 4) .nil))))))))
    .nil))))

def d_funs_on : Fn where
  name := "funs_on"
  ps := ["term", "many"]
  N := ["term", "many", "lap"]
  io := []
  body := (.cons (.for (.n 2) (.rng1 (.rd 1)) (.cons (.asg (.n 0) (.tup (.cons (.k (.str "fun")) (.cons (.v 0) .nil))))
    .nil))
    (.cons (.ret (.v 0))
    .nil))

def d_sure_count : Fn where
  name := "sure_count"
  ps := ["value", "most"]
  N := ["value", "most"]
  io := []
  body := (.cons (.ife (.or (.nt (.val (.call "is_number" (.cons (.v 0) .nil)))) (.nt (.chain .le .le (.k (.int 0)) (.v 0) (.rd 1)))) (.cons (.nev)
    .nil) .nil)
    (.cons (.ret (.v 0))
    .nil))

def d_sure_terms : Fn where
  name := "sure_terms"
  ps := ["value"]
  N := ["value", "own", "its"]
  io := []
  body := (.cons (.asg (.n 1) (.call "tupled" (.cons (.v 0) .nil)))
    (.cons (.ife (.or (.nt (.val (.isi (.rd 1) [.tuple]))) (.nt (.val (.b1 .all (.lc [("its", 2)] (.n 2) (.seq (.v 1)) .yes (.call "is_term_in" (.cons (.v 2) .nil))))))) (.cons (.nev)
    .nil) .nil)
    (.cons (.ret (.v 1))
    .nil)))

def d_raised : Fn where
  name := "raised"
  ps := ["term", "number", "least"]
  N := ["term", "number", "least", "own", "by"]
  io := []
  body := (.cons (.asg (.n 3) (.call "sure_term" (.cons (.v 0) .nil)))
    (.cons (.asg (.n 4) (.call "sure_count" (.cons (.v 1) (.cons (.g "MOST_MANY") .nil))))
    (.cons (.ret (.call "raised_in" (.cons (.v 3) (.cons (.v 4) (.cons (.call "sure_count" (.cons (.v 2) (.cons (.g "MOST_MANY") .nil))) .nil)))))
    .nil)))

def d_let_in : Fn where
  name := "let_in"
  ps := ["term", "other"]
  N := ["term", "other", "own"]
  io := []
  body := (.cons (.asg (.n 2) (.call "sure_term" (.cons (.v 0) .nil)))
    (.cons (.ret (.call "lets_at" (.cons (.v 2) (.cons (.tup (.cons (.call "sure_term" (.cons (.v 1) .nil)) .nil)) (.cons (.k (.int 0)) .nil)))))
    .nil))

def d_lets_in : Fn where
  name := "lets_in"
  ps := ["term", "row"]
  N := ["term", "row", "own"]
  io := []
  body := (.cons (.asg (.n 2) (.call "sure_term" (.cons (.v 0) .nil)))
    (.cons (.ret (.call "lets_at" (.cons (.v 2) (.cons (.call "sure_terms" (.cons (.v 1) .nil)) (.cons (.k (.int 0)) .nil)))))
    .nil))

def d_closed_up : Fn where
  name := "closed_up"
  ps := ["term"]
  N := ["term", "own"]
  io := []
  body := (.cons (.asg (.n 1) (.call "sure_term" (.cons (.v 0) .nil)))
    (.cons (.ret (.call "funs_on" (.cons (.v 1) (.cons (.bin .add (.b1 .max (.bin .add (.lst (.cons (.ng (.k (.int 1))) .nil)) (.call "letters_in" (.cons (.v 1) (.cons (.k (.int 0)) .nil))))) (.k (.int 1))) .nil))))
    .nil))

def d_stepped : Fn where
  name := "stepped"
  ps := ["term"]
  N := ["term", "number"]
  io := []
  body := (.cons (.ife (.and (.cmp .eq (.ix (.rd 0) (.k (.int 0))) (.k (.str "use"))) (.cmp .eq (.ix (.ix (.rd 0) (.k (.int 1))) (.k (.int 0))) (.k (.str "fun")))) (.cons (.ret (.call "lets_at" (.cons (.ix (.ix (.rd 0) (.k (.int 1))) (.k (.int 1))) (.cons (.tup (.cons (.ix (.rd 0) (.k (.int 2))) .nil)) (.cons (.k (.int 0)) .nil)))))
    .nil) .nil)
    (.cons (.ife (.and (.cmp .isin (.ix (.rd 0) (.k (.int 0))) (.tup (.cons (.k (.str "up")) (.cons (.k (.str "down")) (.cons (.k (.str "if")) .nil))))) (.cmp .eq (.ix (.ix (.rd 0) (.k (.int 1))) (.k (.int 0))) (.k (.str "num")))) (.cons (.asg (.n 1) (.ix (.ix (.rd 0) (.k (.int 1))) (.k (.int 1))))
    (.cons (.ife (.cmp .eq (.ix (.rd 0) (.k (.int 0))) (.k (.str "if"))) (.cons (.ret (.ife (.cmp .eq (.rd 1) (.k (.int 0))) (.ix (.rd 0) (.k (.int 2))) (.ix (.rd 0) (.k (.int 3)))))
    .nil) .nil)
    (.cons (.ret (.ife (.cmp .eq (.ix (.rd 0) (.k (.int 0))) (.k (.str "up"))) (.tup (.cons (.k (.str "num")) (.cons (.bin .add (.rd 1) (.k (.int 1))) .nil))) (.tup (.cons (.k (.str "num")) (.cons (.b2 .max (.k (.int 0)) (.bin .sub (.rd 1) (.k (.int 1)))) .nil)))))
    .nil))) .nil)
    (.cons (.ret (.k .none))
    .nil)))

def d_spots_in : Fn where
  name := "spots_in"
  ps := ["term"]
  N := ["term", "place"]
  io := []
  body := (.cons (.ret (.lc [("place", 1)] (.n 1) (.seq (.call "places_in" (.cons (.v 0) .nil))) (.cmp .isnot (.call "stepped" (.cons (.call "part_in" (.cons (.v 0) (.cons (.v 1) .nil))) .nil)) (.k .none)) (.v 1)))
    .nil)

def d_step_in : Fn where
  name := "step_in"
  ps := ["term", "place"]
  N := ["term", "place"]
  io := []
  body := (.cons (.ret (.call "put_in" (.cons (.v 0) (.cons (.v 1) (.cons (.call "stepped" (.cons (.call "part_in" (.cons (.v 0) (.cons (.v 1) .nil))) .nil)) .nil)))))
    .nil)

def d_step_places : Fn where
  name := "step_places"
  ps := ["term"]
  N := ["term"]
  io := []
  body := (.cons (.ret (.call "spots_in" (.cons (.call "sure_term" (.cons (.v 0) .nil)) .nil)))
    .nil)

def d_step_at : Fn where
  name := "step_at"
  ps := ["term", "place"]
  N := ["term", "place", "own", "told"]
  io := []
  body := (.cons (.asg (.n 2) (.call "sure_term" (.cons (.v 0) .nil)))
    (.cons (.asg (.n 3) (.call "sure_place" (.cons (.v 2) (.cons (.v 1) .nil))))
    (.cons (.ife (.cmp .is (.call "stepped" (.cons (.call "part_in" (.cons (.v 2) (.cons (.v 3) .nil))) .nil)) (.k .none)) (.cons (.nev)
    .nil) .nil)
    (.cons (.ret (.call "step_in" (.cons (.v 2) (.cons (.v 3) .nil))))
    .nil))))

def d__law_box : Fn where
  name := "_law_box"
  ps := ["script", "k"]
  N := ["script", "k", "bit_so"]
  io := []
  body := (.cons (.asg (.n 2) (.ife (.cmp .lt (.rd 1) (.b1 .len (.rd 0))) (.ix (.rd 0) (.rd 1)) (.k (.int 0))))
    (.cons (.ret (.lst (.cons (.bin .mul (.b1 .abs (.rd 2)) (.b1 .int (.cmp .ge (.b1 .abs (.rd 2)) (.bin .pow (.k (.int 10)) (.k (.int 18)))))) (.cons (.bin .add (.bin .add (.bin .mod (.b1 .int (.rd 2)) (.k (.int 2305843009213693951))) (.bin .mul (.k (.int 39373)) (.rd 1))) (.k (.int 9215004))) (.cons (.k (.int 0)) .nil)))))
    .nil))

def d__law_take : Fn where
  name := "_law_take"
  ps := ["tin", "below_so"]
  N := ["tin", "below_so", "drawn_so", "once_so", "wide_so", "twice_so"]
  io := [0]
  body := (.cons (.ife (.cmp .gt (.ix (.rd 0) (.k (.int 0))) (.k (.int 0))) (.cons (.asg (.n 2) (.bin .mod (.b1 .int (.ix (.rd 0) (.k (.int 0)))) (.rd 1)))
    (.cons (.set 0 (.k (.int 0)) (.bin .fdiv (.ix (.rd 0) (.k (.int 0))) (.rd 1)))
    (.cons (.ret (.v 2))
    .nil))) .nil)
    (.cons (.set 0 (.k (.int 2)) (.bin .add (.ix (.rd 0) (.k (.int 2))) (.k (.int 1))))
    (.cons (.asg (.n 3) (.bin .mod (.b1 .int (.bin .mul (.bin .add (.ix (.rd 0) (.k (.int 1))) (.bin .mul (.k (.int 48271)) (.ix (.rd 0) (.k (.int 2))))) (.bin .add (.k (.int 39373)) (.ix (.rd 0) (.k (.int 2)))))) (.k (.int 2147483647))))
    (.cons (.asg (.n 4) (.bin .add (.bin .mod (.b1 .int (.rd 3)) (.k (.int 40009))) (.k (.int 7))))
    (.cons (.asg (.n 5) (.bin .mod (.b1 .int (.bin .mul (.bin .add (.bin .add (.rd 3) (.ix (.rd 0) (.k (.int 2)))) (.bin .fdiv (.ix (.rd 0) (.k (.int 1))) (.k (.int 1000003)))) (.rd 4))) (.k (.int 2147483629))))
    (.cons (.ret (.bin .mod (.b1 .int (.bin .fdiv (.bin .mod (.b1 .int (.bin .add (.bin .mul (.rd 5) (.k (.int 48271))) (.rd 3))) (.k (.int 2147483587))) (.k (.int 64)))) (.rd 1)))
    .nil))))))

def d__law_cells : Fn where
  name := "_law_cells"
  ps := ["script", "most_so"]
  N := ["script", "most_so", "cells_so", "k", "bit_so", "at_so"]
  io := []
  body := (.cons (.asg (.n 2) (.orE (.b1 .list (.sl (.rd 0) (.k .none) (.rd 1))) (.lst (.cons (.k (.int 0)) .nil))))
    (.cons (.for (.t [3, 4]) (.enum (.sl (.rd 0) (.rd 1) (.k (.int 63)))) (.cons (.asg (.n 5) (.bin .mod (.b1 .int (.rd 3)) (.rd 1)))
    (.cons (.set 2 (.rd 5) (.bin .add (.ix (.rd 2) (.rd 5)) (.bin .mul (.rd 4) (.bin .add (.rd 3) (.k (.int 2))))))
    .nil)))
    (.cons (.ret (.v 2))
    .nil)))

def d__law_same : Fn where
  name := "_law_same"
  ps := ["got", "due"]
  N := ["got", "due", "mine", "its"]
  io := []
  body := (.cons (.ife (.val (.isi (.rd 1) [.list, .tuple])) (.cons (.ife (.or (.cmp .ne (.isi (.rd 0) [.list]) (.isi (.rd 1) [.list])) (.cmp .ne (.isi (.rd 0) [.tuple]) (.isi (.rd 1) [.tuple]))) (.cons (.ret (.k (.bool false)))
    .nil) .nil)
    (.cons (.ret (.andE (.cmp .eq (.b1 .len (.rd 0)) (.b1 .len (.rd 1))) (.b1 .all (.lc [("mine", 2), ("its", 3)] (.t [2, 3]) (.zip (.v 0) (.v 1)) .yes (.call "_law_same" (.cons (.v 2) (.cons (.v 3) .nil)))))))
    .nil)) .nil)
    (.cons (.ife (.cmp .is (.rd 1) (.k .none)) (.cons (.ret (.cmp .is (.rd 0) (.k .none)))
    .nil) .nil)
    (.cons (.ife (.val (.isi (.rd 1) [.bool, .str])) (.cons (.ret (.andE (.cmp .eq (.isi (.rd 0) [.bool]) (.isi (.rd 1) [.bool])) (.andE (.cmp .eq (.isi (.rd 0) [.str]) (.isi (.rd 1) [.str])) (.cmp .eq (.rd 0) (.rd 1)))))
    .nil) .nil)
    (.cons (.ret (.andE (.isi (.rd 0) [.int]) (.andE (.nt (.isi (.rd 0) [.bool])) (.cmp .eq (.rd 0) (.rd 1)))))
    .nil))))

def d__law_set : Fn where
  name := "_law_set"
  ps := ["goods_so"]
  N := ["goods_so"]
  io := []
  body := (.cons (.ret (.b1 .tuple (.sset (.rd 0))))
    .nil)

def d__law_kids : Fn where
  name := "_law_kids"
  ps := ["term_so"]
  N := ["term_so"]
  io := []
  body := (.cons (.ret (.ife (.cmp .notin (.ix (.rd 0) (.k (.int 0))) (.tup (.cons (.k (.str "var")) (.cons (.k (.str "num")) .nil)))) (.sl (.rd 0) (.k (.int 1)) (.k .none)) (.tup .nil)))
    .nil)

def d__law_size : Fn where
  name := "_law_size"
  ps := ["term_so"]
  N := ["term_so", "own"]
  io := []
  body := (.cons (.ret (.bin .add (.k (.int 1)) (.b1 .sum (.lc [("own", 1)] (.n 1) (.seq (.call "_law_kids" (.cons (.v 0) .nil))) .yes (.call "_law_size" (.cons (.v 1) .nil))))))
    .nil)

def d__law_deep : Fn where
  name := "_law_deep"
  ps := ["term_so"]
  N := ["term_so", "own"]
  io := []
  body := (.cons (.ret (.b1 .max (.bin .add (.lst (.cons (.k (.int 0)) .nil)) (.lc [("own", 1)] (.n 1) (.seq (.call "_law_kids" (.cons (.v 0) .nil))) .yes (.bin .add (.k (.int 1)) (.call "_law_deep" (.cons (.v 1) .nil)))))))
    .nil)

def d__law_places : Fn where
  name := "_law_places"
  ps := ["term_so"]
  N := ["term_so", "found", "k", "own", "its"]
  io := []
  body := (.cons (.asg (.n 1) (.lst (.cons (.tup .nil) .nil)))
    (.cons (.for (.t [2, 3]) (.enum (.call "_law_kids" (.cons (.v 0) .nil))) (.cons (.ext 1 (.lc [("its", 4)] (.n 4) (.seq (.call "_law_places" (.cons (.v 3) .nil))) .yes (.bin .add (.tup (.cons (.v 2) .nil)) (.rd 4))))
    .nil))
    (.cons (.ret (.v 1))
    .nil)))

def d__law_part : Fn where
  name := "_law_part"
  ps := ["term_so", "spot"]
  N := ["term_so", "spot", "k"]
  io := []
  body := (.cons (.for (.n 2) (.seq (.v 1)) (.cons (.asg (.n 0) (.ix (.rd 0) (.bin .add (.rd 2) (.k (.int 1)))))
    .nil))
    (.cons (.ret (.v 0))
    .nil))

def d__law_free : Fn where
  name := "_law_free"
  ps := ["term_so", "deep_so"]
  N := ["term_so", "deep_so", "found", "own"]
  io := []
  body := (.cons (.ife (.cmp .eq (.ix (.rd 0) (.k (.int 0))) (.k (.str "var"))) (.cons (.ret (.ife (.cmp .ge (.ix (.rd 0) (.k (.int 1))) (.rd 1)) (.lst (.cons (.bin .sub (.ix (.rd 0) (.k (.int 1))) (.rd 1)) .nil)) (.lst .nil)))
    .nil) .nil)
    (.cons (.asg (.n 2) (.lst .nil))
    (.cons (.for (.n 3) (.seq (.call "_law_kids" (.cons (.v 0) .nil))) (.cons (.ext 2 (.call "_law_free" (.cons (.v 3) (.cons (.bin .add (.rd 1) (.b1 .int (.cmp .eq (.ix (.rd 0) (.k (.int 0))) (.k (.str "fun"))))) .nil))))
    .nil))
    (.cons (.ret (.v 2))
    .nil))))

def d__law_let : Fn where
  name := "_law_let"
  ps := ["term_so", "row_so", "deep_so", "more_so"]
  N := ["term_so", "row_so", "deep_so", "more_so", "k", "own"]
  io := []
  body := (.cons (.ife (.or (.cmp .eq (.ix (.rd 0) (.k (.int 0))) (.k (.str "num"))) (.and (.cmp .eq (.ix (.rd 0) (.k (.int 0))) (.k (.str "var"))) (.cmp .lt (.ix (.rd 0) (.k (.int 1))) (.rd 2)))) (.cons (.ret (.v 0))
    .nil) .nil)
    (.cons (.ife (.cmp .eq (.ix (.rd 0) (.k (.int 0))) (.k (.str "var"))) (.cons (.asg (.n 4) (.bin .sub (.ix (.rd 0) (.k (.int 1))) (.rd 2)))
    (.cons (.ife (.cmp .lt (.rd 4) (.b1 .len (.rd 1))) (.cons (.ret (.call "_law_let" (.cons (.ix (.rd 1) (.rd 4)) (.cons (.tup .nil) (.cons (.k (.int 0)) (.cons (.v 2) .nil))))))
    .nil) .nil)
    (.cons (.ret (.tup (.cons (.k (.str "var")) (.cons (.bin .add (.bin .sub (.ix (.rd 0) (.k (.int 1))) (.b1 .len (.rd 1))) (.rd 3)) .nil))))
    .nil))) .nil)
    (.cons (.ret (.bin .add (.tup (.cons (.ix (.rd 0) (.k (.int 0))) .nil)) (.b1 .tuple (.lc [("own", 5)] (.n 5) (.seq (.call "_law_kids" (.cons (.v 0) .nil))) .yes (.call "_law_let" (.cons (.v 5) (.cons (.v 1) (.cons (.bin .add (.rd 2) (.b1 .int (.cmp .eq (.ix (.rd 0) (.k (.int 0))) (.k (.str "fun"))))) (.cons (.v 3) .nil)))))))))
    .nil)))

def d__law_any : Fn where
  name := "_law_any"
  ps := ["tin", "deep_so", "around_so"]
  N := ["tin", "deep_so", "around_so", "lap", "found"]
  io := [0]
  body := (.cons (.for (.n 3) (.rng1 (.k (.int 8))) (.cons (.asg (.n 4) (.call "_law_drawn" (.cons (.io 0) (.cons (.v 1) (.cons (.v 2) .nil)))))
    (.cons (.ife (.cmp .le (.call "_law_size" (.cons (.v 4) .nil)) (.k (.int 36))) (.cons (.ret (.v 4))
    .nil) .nil)
    .nil)))
    (.cons (.ret (.tup (.cons (.k (.str "use")) (.cons (.tup (.cons (.k (.str "fun")) (.cons (.tup (.cons (.k (.str "use")) (.cons (.tup (.cons (.k (.str "var")) (.cons (.k (.int 0)) .nil))) (.cons (.tup (.cons (.k (.str "var")) (.cons (.k (.int 1)) .nil))) .nil)))) .nil))) (.cons (.tup (.cons (.k (.str "up")) (.cons (.tup (.cons (.k (.str "num")) (.cons (.k (.int 2)) .nil))) .nil))) .nil)))))
    .nil))

def d__law_drawn : Fn where
  name := "_law_drawn"
  ps := ["tin", "deep_so", "around_so"]
  N := ["tin", "deep_so", "around_so", "side_so"]
  io := [0]
  body := (.cons (.asg (.n 3) (.ife (.cmp .gt (.rd 1) (.k (.int 0))) (.call "_law_take" (.cons (.io 0) (.cons (.k (.int 9)) .nil))) (.call "_law_take" (.cons (.io 0) (.cons (.k (.int 2)) .nil)))))
    (.cons (.ife (.cmp .eq (.rd 3) (.k (.int 0))) (.cons (.ret (.tup (.cons (.k (.str "num")) (.cons (.call "_law_take" (.cons (.io 0) (.cons (.k (.int 5)) .nil))) .nil))))
    .nil) .nil)
    (.cons (.ife (.cmp .eq (.rd 3) (.k (.int 1))) (.cons (.ret (.tup (.cons (.k (.str "var")) (.cons (.call "_law_take" (.cons (.io 0) (.cons (.bin .add (.rd 2) (.k (.int 3))) .nil))) .nil))))
    .nil) .nil)
    (.cons (.ife (.cmp .lt (.rd 3) (.k (.int 4))) (.cons (.ret (.tup (.cons (.k (.str "fun")) (.cons (.call "_law_drawn" (.cons (.io 0) (.cons (.bin .sub (.rd 1) (.k (.int 1))) (.cons (.bin .add (.rd 2) (.k (.int 1))) .nil)))) .nil))))
    .nil) .nil)
    (.cons (.ife (.cmp .lt (.rd 3) (.k (.int 6))) (.cons (.ret (.tup (.cons (.k (.str "use")) (.cons (.call "_law_drawn" (.cons (.io 0) (.cons (.bin .sub (.rd 1) (.k (.int 1))) (.cons (.v 2) .nil)))) (.cons (.call "_law_drawn" (.cons (.io 0) (.cons (.bin .sub (.rd 1) (.k (.int 1))) (.cons (.v 2) .nil)))) .nil)))))
    .nil) .nil)
    (.cons (.ife (.cmp .lt (.rd 3) (.k (.int 8))) (.cons (.ret (.tup (.cons (.ife (.cmp .eq (.rd 3) (.k (.int 6))) (.k (.str "up")) (.k (.str "down"))) (.cons (.call "_law_drawn" (.cons (.io 0) (.cons (.bin .sub (.rd 1) (.k (.int 1))) (.cons (.v 2) .nil)))) .nil))))
    .nil) .nil)
    (.cons (.ret (.tup (.cons (.k (.str "if")) (.cons (.call "_law_drawn" (.cons (.io 0) (.cons (.bin .sub (.rd 1) (.k (.int 1))) (.cons (.v 2) .nil)))) (.cons (.call "_law_drawn" (.cons (.io 0) (.cons (.bin .sub (.rd 1) (.k (.int 1))) (.cons (.v 2) .nil)))) (.cons (.call "_law_drawn" (.cons (.io 0) (.cons (.bin .sub (.rd 1) (.k (.int 1))) (.cons (.v 2) .nil)))) .nil))))))
    .nil)))))))

def d__law_right : Fn where
  name := "_law_right"
  ps := ["tin"]
  N := ["tin", "term_so", "one_so", "two", "three", "got", "due", "wide_so", "spot", "near", "far", "later_so", "homes_so", "own", "deep_so", "k", "now_so", "lows_so", "shut_so"]
  io := [0]
  body := (.cons (.asg (.t [1, 2, 3, 4]) (.tup (.cons (.call "_law_any" (.cons (.io 0) (.cons (.k (.int 5)) (.cons (.k (.int 0)) .nil)))) (.cons (.call "_law_any" (.cons (.io 0) (.cons (.k (.int 3)) (.cons (.k (.int 0)) .nil)))) (.cons (.call "_law_any" (.cons (.io 0) (.cons (.k (.int 3)) (.cons (.k (.int 0)) .nil)))) (.cons (.call "_law_any" (.cons (.io 0) (.cons (.k (.int 2)) (.cons (.k (.int 0)) .nil)))) .nil))))))
    (.cons (.asg (.n 5) (.lst (.cons (.call "let_in" (.cons (.call "let_in" (.cons (.v 1) (.cons (.v 2) .nil))) (.cons (.v 3) .nil))) (.cons (.call "lets_in" (.cons (.v 1) (.cons (.tup (.cons (.call "let_in" (.cons (.v 2) (.cons (.v 3) .nil))) (.cons (.v 3) .nil))) .nil))) (.cons (.call "lets_in" (.cons (.call "lets_in" (.cons (.v 1) (.cons (.tup (.cons (.v 2) (.cons (.v 4) .nil))) .nil))) (.cons (.tup (.cons (.v 3) .nil)) .nil))) .nil)))))
    (.cons (.asg (.n 6) (.lst (.cons (.call "_law_let" (.cons (.call "_law_let" (.cons (.v 1) (.cons (.tup (.cons (.v 2) .nil)) (.cons (.k (.int 0)) (.cons (.k (.int 0)) .nil))))) (.cons (.tup (.cons (.v 3) .nil)) (.cons (.k (.int 0)) (.cons (.k (.int 0)) .nil))))) (.cons (.ix (.rd 5) (.k (.int 0))) (.cons (.call "lets_in" (.cons (.v 1) (.cons (.tup (.cons (.call "let_in" (.cons (.v 2) (.cons (.v 3) .nil))) (.cons (.call "let_in" (.cons (.v 4) (.cons (.v 3) .nil))) (.cons (.v 3) .nil)))) .nil))) .nil)))))
    (.cons (.ife (.or (.nt (.val (.call "_law_same" (.cons (.bin .add (.sl (.rd 5) (.k .none) (.k (.int 1))) (.sl (.rd 5) (.k (.int 2)) (.k .none))) (.cons (.bin .add (.sl (.rd 6) (.k .none) (.k (.int 1))) (.sl (.rd 6) (.k (.int 2)) (.k .none))) .nil))))) (.nt (.val (.call "_law_same" (.cons (.ix (.rd 5) (.k (.int 1))) (.cons (.ix (.rd 5) (.k (.int 0))) .nil)))))) (.cons (.ret (.k (.bool false)))
    .nil) .nil)
    (.cons (.asg (.n 7) (.call "_law_let" (.cons (.tup (.cons (.k (.str "fun")) (.cons (.v 1) .nil))) (.cons (.tup (.cons (.v 3) .nil)) (.cons (.k (.int 0)) (.cons (.k (.int 0)) .nil))))))
    (.cons (.ife (.and (.cmp .le (.call "_law_size" (.cons (.v 7) .nil)) (.k (.int 80))) (.and (.cmp .le (.call "_law_deep" (.cons (.v 7) .nil)) (.k (.int 15))) (.nt (.val (.call "_law_same" (.cons (.call "let_in" (.cons (.ix (.rd 7) (.k (.int 1))) (.cons (.call "let_in" (.cons (.v 2) (.cons (.v 3) .nil))) .nil))) (.cons (.ix (.rd 5) (.k (.int 0))) .nil))))))) (.cons (.ret (.k (.bool false)))
    .nil) .nil)
    (.cons (.for (.n 8) (.seq (.sl (.call "step_places" (.cons (.v 1) .nil)) (.k .none) (.k (.int 6)))) (.cons (.par 9 10 (.call "let_in" (.cons (.call "step_at" (.cons (.v 1) (.cons (.v 8) .nil))) (.cons (.v 2) .nil))) (.call "step_at" (.cons (.call "let_in" (.cons (.v 1) (.cons (.v 2) .nil))) (.cons (.v 8) .nil))))
    (.cons (.ife (.nt (.val (.call "_law_same" (.cons (.lst (.cons (.v 9) (.cons (.cmp .isin (.rd 8) (.call "step_places" (.cons (.call "let_in" (.cons (.v 1) (.cons (.v 2) .nil))) .nil))) .nil))) (.cons (.lst (.cons (.v 10) (.cons (.k (.bool true)) .nil))) .nil))))) (.cons (.ret (.k (.bool false)))
    .nil) .nil)
    .nil)))
    (.cons (.for (.n 8) (.seq (.sl (.call "step_places" (.cons (.v 2) .nil)) (.k .none) (.k (.int 2)))) (.cons (.asg (.n 11) (.call "let_in" (.cons (.v 1) (.cons (.call "step_at" (.cons (.v 2) (.cons (.v 8) .nil))) .nil))))
    (.cons (.asg (.n 12) (.lst .nil))
    (.cons (.for (.n 13) (.seq (.call "_law_places" (.cons (.v 1) .nil))) (.cons (.asg (.n 14) (.b1 .len (.lc [("k", 15)] (.n 15) (.rng1 (.b1 .len (.rd 13))) (.cmp .eq (.ix (.call "_law_part" (.cons (.v 1) (.cons (.sl (.rd 13) (.k .none) (.rd 15)) .nil))) (.k (.int 0))) (.k (.str "fun"))) (.v 15))))
    (.cons (.ife (.and (.cmp .eq (.ix (.call "_law_part" (.cons (.v 1) (.cons (.v 13) .nil))) (.k (.int 0))) (.k (.str "var"))) (.cmp .eq (.ix (.call "_law_part" (.cons (.v 1) (.cons (.v 13) .nil))) (.k (.int 1))) (.rd 14))) (.cons (.app 12 (.v 13))
    .nil) .nil)
    .nil)))
    (.cons (.asg (.n 16) (.call "let_in" (.cons (.v 1) (.cons (.v 2) .nil))))
    (.cons (.for (.n 13) (.seq (.v 12)) (.cons (.asg (.n 16) (.call "step_at" (.cons (.v 16) (.cons (.bin .add (.rd 13) (.rd 8)) .nil))))
    .nil))
    (.cons (.ife (.nt (.val (.call "_law_same" (.cons (.v 16) (.cons (.v 11) .nil))))) (.cons (.ret (.k (.bool false)))
    .nil) .nil)
    .nil)))))))
    (.cons (.asg (.n 17) (.bin .add (.lc [("k", 15)] (.n 15) (.seq (.call "_law_free" (.cons (.v 1) (.cons (.k (.int 0)) .nil)))) (.cmp .gt (.rd 15) (.k (.int 0))) (.bin .sub (.rd 15) (.k (.int 1)))) (.ife (.cmp .isin (.k (.int 0)) (.call "_law_free" (.cons (.v 1) (.cons (.k (.int 0)) .nil)))) (.call "_law_free" (.cons (.v 2) (.cons (.k (.int 0)) .nil))) (.lst .nil))))
    (.cons (.asg (.n 18) (.call "closed_up" (.cons (.v 1) .nil)))
    (.cons (.asg (.n 5) (.lst (.cons (.call "free_letters" (.cons (.call "let_in" (.cons (.v 1) (.cons (.v 2) .nil))) .nil)) (.cons (.call "let_in" (.cons (.v 18) (.cons (.v 2) .nil))) (.cons (.call "raised" (.cons (.v 18) (.cons (.k (.int 4)) (.cons (.k (.int 0)) .nil)))) (.cons (.call "is_closed" (.cons (.call "lets_in" (.cons (.v 18) (.cons (.tup (.cons (.v 2) (.cons (.v 3) .nil))) .nil))) .nil)) (.cons (.ix (.call "part_at" (.cons (.call "let_in" (.cons (.tup (.cons (.k (.str "fun")) (.cons (.v 1) .nil))) (.cons (.v 2) .nil))) (.cons (.tup .nil) .nil))) (.k (.int 0))) .nil)))))))
    (.cons (.ret (.call "_law_same" (.cons (.v 5) (.cons (.lst (.cons (.call "_law_set" (.cons (.v 17) .nil)) (.cons (.v 18) (.cons (.v 18) (.cons (.k (.bool true)) (.cons (.k (.str "fun")) .nil)))))) .nil))))
    .nil))))))))))))

def d_law : Fn where
  name := "law"
  ps := ["script"]
  N := ["script", "cells_so", "k"]
  io := []
  body := (.cons (.asg (.n 1) (.call "_law_cells" (.cons (.v 0) (.cons (.k (.int 2)) .nil))))
    (.cons (.ret (.b1 .all (.lc [("k", 2)] (.n 2) (.rng1 (.b1 .len (.rd 1))) .yes (.call "_law_right" (.cons (.own (.call "_law_box" (.cons (.v 1) (.cons (.v 2) .nil)))) .nil)))))
    .nil))

def fns : List Fn := [d_is_number, d_is_among, d_is_from, d_are_among, d_tupled, d_children, d_is_term_in, d_sure_term, d_places_in, d_is_place_in, d_part_in, d_put_in, d_letters_in, d_sure_place, d_part_at, d_free_letters, d_is_closed, d_raised_in, d_lets_at, d_funs_on, d_sure_count, d_sure_terms, d_raised, d_let_in, d_lets_in, d_closed_up, d_stepped, d_spots_in, d_step_in, d_step_places, d_step_at, d__law_box, d__law_take, d__law_cells, d__law_same, d__law_set, d__law_kids, d__law_size, d__law_deep, d__law_places, d__law_part, d__law_free, d__law_let, d__law_any, d__law_drawn, d__law_right, d_law]
def tab (x : Str) : Option Fn := fns.find? fun d => d.name == x
def fs : List Str := fns.map (·.name)
def ds : List Str := ["CHILDREN"]
def kc : KC := []
def gcon : List (Str × D) := [("MOST_MANY", (.int 20))]
def gdic : List (Str × List (Str × D)) := [("CHILDREN", [("var", (.int 0)), ("num", (.int 0)), ("fun", (.int 1)), ("use", (.int 2)), ("up", (.int 1)), ("down", (.int 1)), ("if", (.int 3))])]
def g : G := ⟨fun x => gcon.lookup x, fun x => gdic.lookup x⟩

abbrev s_is_number : Stmt := top 4
abbrev s_is_among : Stmt := top 5
abbrev s_is_from : Stmt := top 6
abbrev s_are_among : Stmt := top 7
abbrev s_tupled : Stmt := top 8
abbrev s_children : Stmt := top 11
abbrev s_is_term_in : Stmt := top 12
abbrev s_sure_term : Stmt := top 13
abbrev s_places_in : Stmt := top 14
abbrev s_is_place_in : Stmt := top 15
abbrev s_part_in : Stmt := top 16
abbrev s_put_in : Stmt := top 17
abbrev s_letters_in : Stmt := top 18
abbrev s_sure_place : Stmt := top 19
abbrev s_part_at : Stmt := top 20
abbrev s_free_letters : Stmt := top 21
abbrev s_is_closed : Stmt := top 22
abbrev s_raised_in : Stmt := top 25
abbrev s_lets_at : Stmt := top 26
abbrev s_funs_on : Stmt := top 27
abbrev s_sure_count : Stmt := top 28
abbrev s_sure_terms : Stmt := top 29
abbrev s_raised : Stmt := top 30
abbrev s_let_in : Stmt := top 31
abbrev s_lets_in : Stmt := top 32
abbrev s_closed_up : Stmt := top 33
abbrev s_stepped : Stmt := top 35
abbrev s_spots_in : Stmt := top 36
abbrev s_step_in : Stmt := top 37
abbrev s_step_places : Stmt := top 38
abbrev s_step_at : Stmt := top 39
abbrev s__law_box : Stmt := top 41
abbrev s__law_take : Stmt := top 42
abbrev s__law_cells : Stmt := top 43
abbrev s__law_same : Stmt := top 44
abbrev s__law_set : Stmt := top 45
abbrev s__law_kids : Stmt := top 46
abbrev s__law_size : Stmt := top 47
abbrev s__law_deep : Stmt := top 48
abbrev s__law_places : Stmt := top 49
abbrev s__law_part : Stmt := top 50
abbrev s__law_free : Stmt := top 51
abbrev s__law_let : Stmt := top 52
abbrev s__law_any : Stmt := top 53
abbrev s__law_drawn : Stmt := top 54
abbrev s__law_right : Stmt := top 55
abbrev s_law : Stmt := top 56
theorem c_is_number : d_is_number.body.chk (nmF d_is_number (defScope s_is_number) fs ds kc) (defBody s_is_number) = true := by decide +kernel
theorem sc_is_number : FnScope d_is_number.N d_is_number.ps (defScope s_is_number) := ⟨rfl, rfl, rfl, by decide +kernel, rfl, by decide +kernel, by decide +kernel⟩
theorem c_is_among : d_is_among.body.chk (nmF d_is_among (defScope s_is_among) fs ds kc) (defBody s_is_among) = true := by decide +kernel
theorem sc_is_among : FnScope d_is_among.N d_is_among.ps (defScope s_is_among) := ⟨rfl, rfl, rfl, by decide +kernel, rfl, by decide +kernel, by decide +kernel⟩
theorem c_is_from : d_is_from.body.chk (nmF d_is_from (defScope s_is_from) fs ds kc) (defBody s_is_from) = true := by decide +kernel
theorem sc_is_from : FnScope d_is_from.N d_is_from.ps (defScope s_is_from) := ⟨rfl, rfl, rfl, by decide +kernel, rfl, by decide +kernel, by decide +kernel⟩
theorem c_are_among : d_are_among.body.chk (nmF d_are_among (defScope s_are_among) fs ds kc) (defBody s_are_among) = true := by decide +kernel
theorem sc_are_among : FnScope d_are_among.N d_are_among.ps (defScope s_are_among) := ⟨rfl, rfl, rfl, by decide +kernel, rfl, by decide +kernel, by decide +kernel⟩
theorem c_tupled : d_tupled.body.chk (nmF d_tupled (defScope s_tupled) fs ds kc) (defBody s_tupled) = true := by decide +kernel
theorem sc_tupled : FnScope d_tupled.N d_tupled.ps (defScope s_tupled) := ⟨rfl, rfl, rfl, by decide +kernel, rfl, by decide +kernel, by decide +kernel⟩
theorem c_children : d_children.body.chk (nmF d_children (defScope s_children) fs ds kc) (defBody s_children) = true := by decide +kernel
theorem sc_children : FnScope d_children.N d_children.ps (defScope s_children) := ⟨rfl, rfl, rfl, by decide +kernel, rfl, by decide +kernel, by decide +kernel⟩
theorem c_is_term_in : d_is_term_in.body.chk (nmF d_is_term_in (defScope s_is_term_in) fs ds kc) (defBody s_is_term_in) = true := by decide +kernel
theorem sc_is_term_in : FnScope d_is_term_in.N d_is_term_in.ps (defScope s_is_term_in) := ⟨rfl, rfl, rfl, by decide +kernel, rfl, by decide +kernel, by decide +kernel⟩
theorem c_sure_term : d_sure_term.body.chk (nmF d_sure_term (defScope s_sure_term) fs ds kc) (defBody s_sure_term) = true := by decide +kernel
theorem sc_sure_term : FnScope d_sure_term.N d_sure_term.ps (defScope s_sure_term) := ⟨rfl, rfl, rfl, by decide +kernel, rfl, by decide +kernel, by decide +kernel⟩
theorem c_places_in : d_places_in.body.chk (nmF d_places_in (defScope s_places_in) fs ds kc) (defBody s_places_in) = true := by decide +kernel
theorem sc_places_in : FnScope d_places_in.N d_places_in.ps (defScope s_places_in) := ⟨rfl, rfl, rfl, by decide +kernel, rfl, by decide +kernel, by decide +kernel⟩
theorem c_is_place_in : d_is_place_in.body.chk (nmF d_is_place_in (defScope s_is_place_in) fs ds kc) (defBody s_is_place_in) = true := by decide +kernel
theorem sc_is_place_in : FnScope d_is_place_in.N d_is_place_in.ps (defScope s_is_place_in) := ⟨rfl, rfl, rfl, by decide +kernel, rfl, by decide +kernel, by decide +kernel⟩
theorem c_part_in : d_part_in.body.chk (nmF d_part_in (defScope s_part_in) fs ds kc) (defBody s_part_in) = true := by decide +kernel
theorem sc_part_in : FnScope d_part_in.N d_part_in.ps (defScope s_part_in) := ⟨rfl, rfl, rfl, by decide +kernel, rfl, by decide +kernel, by decide +kernel⟩
theorem c_put_in : d_put_in.body.chk (nmF d_put_in (defScope s_put_in) fs ds kc) (defBody s_put_in) = true := by decide +kernel
theorem sc_put_in : FnScope d_put_in.N d_put_in.ps (defScope s_put_in) := ⟨rfl, rfl, rfl, by decide +kernel, rfl, by decide +kernel, by decide +kernel⟩
theorem c_letters_in : d_letters_in.body.chk (nmF d_letters_in (defScope s_letters_in) fs ds kc) (defBody s_letters_in) = true := by decide +kernel
theorem sc_letters_in : FnScope d_letters_in.N d_letters_in.ps (defScope s_letters_in) := ⟨rfl, rfl, rfl, by decide +kernel, rfl, by decide +kernel, by decide +kernel⟩
theorem c_sure_place : d_sure_place.body.chk (nmF d_sure_place (defScope s_sure_place) fs ds kc) (defBody s_sure_place) = true := by decide +kernel
theorem sc_sure_place : FnScope d_sure_place.N d_sure_place.ps (defScope s_sure_place) := ⟨rfl, rfl, rfl, by decide +kernel, rfl, by decide +kernel, by decide +kernel⟩
theorem c_part_at : d_part_at.body.chk (nmF d_part_at (defScope s_part_at) fs ds kc) (defBody s_part_at) = true := by decide +kernel
theorem sc_part_at : FnScope d_part_at.N d_part_at.ps (defScope s_part_at) := ⟨rfl, rfl, rfl, by decide +kernel, rfl, by decide +kernel, by decide +kernel⟩
theorem c_free_letters : d_free_letters.body.chk (nmF d_free_letters (defScope s_free_letters) fs ds kc) (defBody s_free_letters) = true := by decide +kernel
theorem sc_free_letters : FnScope d_free_letters.N d_free_letters.ps (defScope s_free_letters) := ⟨rfl, rfl, rfl, by decide +kernel, rfl, by decide +kernel, by decide +kernel⟩
theorem c_is_closed : d_is_closed.body.chk (nmF d_is_closed (defScope s_is_closed) fs ds kc) (defBody s_is_closed) = true := by decide +kernel
theorem sc_is_closed : FnScope d_is_closed.N d_is_closed.ps (defScope s_is_closed) := ⟨rfl, rfl, rfl, by decide +kernel, rfl, by decide +kernel, by decide +kernel⟩
theorem c_raised_in : d_raised_in.body.chk (nmF d_raised_in (defScope s_raised_in) fs ds kc) (defBody s_raised_in) = true := by decide +kernel
theorem sc_raised_in : FnScope d_raised_in.N d_raised_in.ps (defScope s_raised_in) := ⟨rfl, rfl, rfl, by decide +kernel, rfl, by decide +kernel, by decide +kernel⟩
theorem c_lets_at : d_lets_at.body.chk (nmF d_lets_at (defScope s_lets_at) fs ds kc) (defBody s_lets_at) = true := by decide +kernel
theorem sc_lets_at : FnScope d_lets_at.N d_lets_at.ps (defScope s_lets_at) := ⟨rfl, rfl, rfl, by decide +kernel, rfl, by decide +kernel, by decide +kernel⟩
theorem c_funs_on : d_funs_on.body.chk (nmF d_funs_on (defScope s_funs_on) fs ds kc) (defBody s_funs_on) = true := by decide +kernel
theorem sc_funs_on : FnScope d_funs_on.N d_funs_on.ps (defScope s_funs_on) := ⟨rfl, rfl, rfl, by decide +kernel, rfl, by decide +kernel, by decide +kernel⟩
theorem c_sure_count : d_sure_count.body.chk (nmF d_sure_count (defScope s_sure_count) fs ds kc) (defBody s_sure_count) = true := by decide +kernel
theorem sc_sure_count : FnScope d_sure_count.N d_sure_count.ps (defScope s_sure_count) := ⟨rfl, rfl, rfl, by decide +kernel, rfl, by decide +kernel, by decide +kernel⟩
theorem c_sure_terms : d_sure_terms.body.chk (nmF d_sure_terms (defScope s_sure_terms) fs ds kc) (defBody s_sure_terms) = true := by decide +kernel
theorem sc_sure_terms : FnScope d_sure_terms.N d_sure_terms.ps (defScope s_sure_terms) := ⟨rfl, rfl, rfl, by decide +kernel, rfl, by decide +kernel, by decide +kernel⟩
theorem c_raised : d_raised.body.chk (nmF d_raised (defScope s_raised) fs ds kc) (defBody s_raised) = true := by decide +kernel
theorem sc_raised : FnScope d_raised.N d_raised.ps (defScope s_raised) := ⟨rfl, rfl, rfl, by decide +kernel, rfl, by decide +kernel, by decide +kernel⟩
theorem c_let_in : d_let_in.body.chk (nmF d_let_in (defScope s_let_in) fs ds kc) (defBody s_let_in) = true := by decide +kernel
theorem sc_let_in : FnScope d_let_in.N d_let_in.ps (defScope s_let_in) := ⟨rfl, rfl, rfl, by decide +kernel, rfl, by decide +kernel, by decide +kernel⟩
theorem c_lets_in : d_lets_in.body.chk (nmF d_lets_in (defScope s_lets_in) fs ds kc) (defBody s_lets_in) = true := by decide +kernel
theorem sc_lets_in : FnScope d_lets_in.N d_lets_in.ps (defScope s_lets_in) := ⟨rfl, rfl, rfl, by decide +kernel, rfl, by decide +kernel, by decide +kernel⟩
theorem c_closed_up : d_closed_up.body.chk (nmF d_closed_up (defScope s_closed_up) fs ds kc) (defBody s_closed_up) = true := by decide +kernel
theorem sc_closed_up : FnScope d_closed_up.N d_closed_up.ps (defScope s_closed_up) := ⟨rfl, rfl, rfl, by decide +kernel, rfl, by decide +kernel, by decide +kernel⟩
theorem c_stepped : d_stepped.body.chk (nmF d_stepped (defScope s_stepped) fs ds kc) (defBody s_stepped) = true := by decide +kernel
theorem sc_stepped : FnScope d_stepped.N d_stepped.ps (defScope s_stepped) := ⟨rfl, rfl, rfl, by decide +kernel, rfl, by decide +kernel, by decide +kernel⟩
theorem c_spots_in : d_spots_in.body.chk (nmF d_spots_in (defScope s_spots_in) fs ds kc) (defBody s_spots_in) = true := by decide +kernel
theorem sc_spots_in : FnScope d_spots_in.N d_spots_in.ps (defScope s_spots_in) := ⟨rfl, rfl, rfl, by decide +kernel, rfl, by decide +kernel, by decide +kernel⟩
theorem c_step_in : d_step_in.body.chk (nmF d_step_in (defScope s_step_in) fs ds kc) (defBody s_step_in) = true := by decide +kernel
theorem sc_step_in : FnScope d_step_in.N d_step_in.ps (defScope s_step_in) := ⟨rfl, rfl, rfl, by decide +kernel, rfl, by decide +kernel, by decide +kernel⟩
theorem c_step_places : d_step_places.body.chk (nmF d_step_places (defScope s_step_places) fs ds kc) (defBody s_step_places) = true := by decide +kernel
theorem sc_step_places : FnScope d_step_places.N d_step_places.ps (defScope s_step_places) := ⟨rfl, rfl, rfl, by decide +kernel, rfl, by decide +kernel, by decide +kernel⟩
theorem c_step_at : d_step_at.body.chk (nmF d_step_at (defScope s_step_at) fs ds kc) (defBody s_step_at) = true := by decide +kernel
theorem sc_step_at : FnScope d_step_at.N d_step_at.ps (defScope s_step_at) := ⟨rfl, rfl, rfl, by decide +kernel, rfl, by decide +kernel, by decide +kernel⟩
theorem c__law_box : d__law_box.body.chk (nmF d__law_box (defScope s__law_box) fs ds kc) (defBody s__law_box) = true := by decide +kernel
theorem sc__law_box : FnScope d__law_box.N d__law_box.ps (defScope s__law_box) := ⟨rfl, rfl, rfl, by decide +kernel, rfl, by decide +kernel, by decide +kernel⟩
theorem c__law_take : d__law_take.body.chk (nmF d__law_take (defScope s__law_take) fs ds kc) (defBody s__law_take) = true := by decide +kernel
theorem sc__law_take : FnScope d__law_take.N d__law_take.ps (defScope s__law_take) := ⟨rfl, rfl, rfl, by decide +kernel, rfl, by decide +kernel, by decide +kernel⟩
theorem c__law_cells : d__law_cells.body.chk (nmF d__law_cells (defScope s__law_cells) fs ds kc) (defBody s__law_cells) = true := by decide +kernel
theorem sc__law_cells : FnScope d__law_cells.N d__law_cells.ps (defScope s__law_cells) := ⟨rfl, rfl, rfl, by decide +kernel, rfl, by decide +kernel, by decide +kernel⟩
theorem c__law_same : d__law_same.body.chk (nmF d__law_same (defScope s__law_same) fs ds kc) (defBody s__law_same) = true := by decide +kernel
theorem sc__law_same : FnScope d__law_same.N d__law_same.ps (defScope s__law_same) := ⟨rfl, rfl, rfl, by decide +kernel, rfl, by decide +kernel, by decide +kernel⟩
theorem c__law_set : d__law_set.body.chk (nmF d__law_set (defScope s__law_set) fs ds kc) (defBody s__law_set) = true := by decide +kernel
theorem sc__law_set : FnScope d__law_set.N d__law_set.ps (defScope s__law_set) := ⟨rfl, rfl, rfl, by decide +kernel, rfl, by decide +kernel, by decide +kernel⟩
theorem c__law_kids : d__law_kids.body.chk (nmF d__law_kids (defScope s__law_kids) fs ds kc) (defBody s__law_kids) = true := by decide +kernel
theorem sc__law_kids : FnScope d__law_kids.N d__law_kids.ps (defScope s__law_kids) := ⟨rfl, rfl, rfl, by decide +kernel, rfl, by decide +kernel, by decide +kernel⟩
theorem c__law_size : d__law_size.body.chk (nmF d__law_size (defScope s__law_size) fs ds kc) (defBody s__law_size) = true := by decide +kernel
theorem sc__law_size : FnScope d__law_size.N d__law_size.ps (defScope s__law_size) := ⟨rfl, rfl, rfl, by decide +kernel, rfl, by decide +kernel, by decide +kernel⟩
theorem c__law_deep : d__law_deep.body.chk (nmF d__law_deep (defScope s__law_deep) fs ds kc) (defBody s__law_deep) = true := by decide +kernel
theorem sc__law_deep : FnScope d__law_deep.N d__law_deep.ps (defScope s__law_deep) := ⟨rfl, rfl, rfl, by decide +kernel, rfl, by decide +kernel, by decide +kernel⟩
theorem c__law_places : d__law_places.body.chk (nmF d__law_places (defScope s__law_places) fs ds kc) (defBody s__law_places) = true := by decide +kernel
theorem sc__law_places : FnScope d__law_places.N d__law_places.ps (defScope s__law_places) := ⟨rfl, rfl, rfl, by decide +kernel, rfl, by decide +kernel, by decide +kernel⟩
theorem c__law_part : d__law_part.body.chk (nmF d__law_part (defScope s__law_part) fs ds kc) (defBody s__law_part) = true := by decide +kernel
theorem sc__law_part : FnScope d__law_part.N d__law_part.ps (defScope s__law_part) := ⟨rfl, rfl, rfl, by decide +kernel, rfl, by decide +kernel, by decide +kernel⟩
theorem c__law_free : d__law_free.body.chk (nmF d__law_free (defScope s__law_free) fs ds kc) (defBody s__law_free) = true := by decide +kernel
theorem sc__law_free : FnScope d__law_free.N d__law_free.ps (defScope s__law_free) := ⟨rfl, rfl, rfl, by decide +kernel, rfl, by decide +kernel, by decide +kernel⟩
theorem c__law_let : d__law_let.body.chk (nmF d__law_let (defScope s__law_let) fs ds kc) (defBody s__law_let) = true := by decide +kernel
theorem sc__law_let : FnScope d__law_let.N d__law_let.ps (defScope s__law_let) := ⟨rfl, rfl, rfl, by decide +kernel, rfl, by decide +kernel, by decide +kernel⟩
theorem c__law_any : d__law_any.body.chk (nmF d__law_any (defScope s__law_any) fs ds kc) (defBody s__law_any) = true := by decide +kernel
theorem sc__law_any : FnScope d__law_any.N d__law_any.ps (defScope s__law_any) := ⟨rfl, rfl, rfl, by decide +kernel, rfl, by decide +kernel, by decide +kernel⟩
theorem c__law_drawn : d__law_drawn.body.chk (nmF d__law_drawn (defScope s__law_drawn) fs ds kc) (defBody s__law_drawn) = true := by decide +kernel
theorem sc__law_drawn : FnScope d__law_drawn.N d__law_drawn.ps (defScope s__law_drawn) := ⟨rfl, rfl, rfl, by decide +kernel, rfl, by decide +kernel, by decide +kernel⟩
theorem c__law_right : d__law_right.body.chk (nmF d__law_right (defScope s__law_right) fs ds kc) (defBody s__law_right) = true := by decide +kernel
theorem sc__law_right : FnScope d__law_right.N d__law_right.ps (defScope s__law_right) := ⟨rfl, rfl, rfl, by decide +kernel, rfl, by decide +kernel, by decide +kernel⟩
theorem c_law : d_law.body.chk (nmF d_law (defScope s_law) fs ds kc) (defBody s_law) = true := by decide +kernel
theorem sc_law : FnScope d_law.N d_law.ps (defScope s_law) := ⟨rfl, rfl, rfl, by decide +kernel, rfl, by decide +kernel, by decide +kernel⟩
end K04

set_option Elab.async false
set_option linter.all false
set_option maxRecDepth 100000
set_option maxHeartbeats 8000000
namespace K04
open PySem Co
def fuel : Nat := 1000
theorem cn {f : Str} {d : Fn} (ht : tab f = some d) (n : Nat) (ws : List W) : callN tab g fuel (n + 1) f ws = if ws.length = d.ps.length ∧ fits d.io 0 ws = true then finish d.io (d.body.ex (callN tab g fuel n) g fuel (startE d.N.length ws)) else .bad := by
  show (match tab f with
    | some d => if ws.length = d.ps.length ∧ fits d.io 0 ws = true then finish d.io (d.body.ex (callN tab g fuel n) g fuel (startE d.N.length ws)) else .bad
    | none => .bad) = _
  rw [ht]
theorem t_is_number : tab "is_number" = some d_is_number := by kernel_rfl
theorem e_is_number (n : Nat) (x0 : D) : callN tab g fuel (n + 1) "is_number" [.fz x0] = finish [] (d_is_number.body.ex (callN tab g fuel n) g fuel [some (.fz x0)]) := (cn t_is_number n _).trans (if_pos ⟨rfl, rfl⟩)
theorem t_is_among : tab "is_among" = some d_is_among := by kernel_rfl
theorem e_is_among (n : Nat) (x0 : D) (x1 : D) (x2 : D) : callN tab g fuel (n + 1) "is_among" [.fz x0, .fz x1, .fz x2] = finish [] (d_is_among.body.ex (callN tab g fuel n) g fuel [some (.fz x0), some (.fz x1), some (.fz x2)]) := (cn t_is_among n _).trans (if_pos ⟨rfl, rfl⟩)
theorem t_is_from : tab "is_from" = some d_is_from := by kernel_rfl
theorem e_is_from (n : Nat) (x0 : D) (x1 : D) : callN tab g fuel (n + 1) "is_from" [.fz x0, .fz x1] = finish [] (d_is_from.body.ex (callN tab g fuel n) g fuel [some (.fz x0), some (.fz x1)]) := (cn t_is_from n _).trans (if_pos ⟨rfl, rfl⟩)
theorem t_are_among : tab "are_among" = some d_are_among := by kernel_rfl
theorem e_are_among (n : Nat) (x0 : D) (x1 : D) (x2 : D) : callN tab g fuel (n + 1) "are_among" [.fz x0, .fz x1, .fz x2] = finish [] (d_are_among.body.ex (callN tab g fuel n) g fuel [some (.fz x0), some (.fz x1), some (.fz x2), none]) := (cn t_are_among n _).trans (if_pos ⟨rfl, rfl⟩)
theorem t_tupled : tab "tupled" = some d_tupled := by kernel_rfl
theorem e_tupled (n : Nat) (x0 : D) : callN tab g fuel (n + 1) "tupled" [.fz x0] = finish [] (d_tupled.body.ex (callN tab g fuel n) g fuel [some (.fz x0), none]) := (cn t_tupled n _).trans (if_pos ⟨rfl, rfl⟩)
theorem t_children : tab "children" = some d_children := by kernel_rfl
theorem e_children (n : Nat) (x0 : D) : callN tab g fuel (n + 1) "children" [.fz x0] = finish [] (d_children.body.ex (callN tab g fuel n) g fuel [some (.fz x0)]) := (cn t_children n _).trans (if_pos ⟨rfl, rfl⟩)
theorem t_is_term_in : tab "is_term_in" = some d_is_term_in := by kernel_rfl
theorem e_is_term_in (n : Nat) (x0 : D) : callN tab g fuel (n + 1) "is_term_in" [.fz x0] = finish [] (d_is_term_in.body.ex (callN tab g fuel n) g fuel [some (.fz x0), none, none]) := (cn t_is_term_in n _).trans (if_pos ⟨rfl, rfl⟩)
theorem t_sure_term : tab "sure_term" = some d_sure_term := by kernel_rfl
theorem e_sure_term (n : Nat) (x0 : D) : callN tab g fuel (n + 1) "sure_term" [.fz x0] = finish [] (d_sure_term.body.ex (callN tab g fuel n) g fuel [some (.fz x0), none]) := (cn t_sure_term n _).trans (if_pos ⟨rfl, rfl⟩)
theorem t_places_in : tab "places_in" = some d_places_in := by kernel_rfl
theorem e_places_in (n : Nat) (x0 : D) : callN tab g fuel (n + 1) "places_in" [.fz x0] = finish [] (d_places_in.body.ex (callN tab g fuel n) g fuel [some (.fz x0), none, none, none, none]) := (cn t_places_in n _).trans (if_pos ⟨rfl, rfl⟩)
theorem t_is_place_in : tab "is_place_in" = some d_is_place_in := by kernel_rfl
theorem e_is_place_in (n : Nat) (x0 : D) (x1 : D) : callN tab g fuel (n + 1) "is_place_in" [.fz x0, .fz x1] = finish [] (d_is_place_in.body.ex (callN tab g fuel n) g fuel [some (.fz x0), some (.fz x1), none]) := (cn t_is_place_in n _).trans (if_pos ⟨rfl, rfl⟩)
theorem t_part_in : tab "part_in" = some d_part_in := by kernel_rfl
theorem e_part_in (n : Nat) (x0 : D) (x1 : D) : callN tab g fuel (n + 1) "part_in" [.fz x0, .fz x1] = finish [] (d_part_in.body.ex (callN tab g fuel n) g fuel [some (.fz x0), some (.fz x1), none]) := (cn t_part_in n _).trans (if_pos ⟨rfl, rfl⟩)
theorem t_put_in : tab "put_in" = some d_put_in := by kernel_rfl
theorem e_put_in (n : Nat) (x0 : D) (x1 : D) (x2 : D) : callN tab g fuel (n + 1) "put_in" [.fz x0, .fz x1, .fz x2] = finish [] (d_put_in.body.ex (callN tab g fuel n) g fuel [some (.fz x0), some (.fz x1), some (.fz x2), none]) := (cn t_put_in n _).trans (if_pos ⟨rfl, rfl⟩)
theorem t_letters_in : tab "letters_in" = some d_letters_in := by kernel_rfl
theorem e_letters_in (n : Nat) (x0 : D) (x1 : D) : callN tab g fuel (n + 1) "letters_in" [.fz x0, .fz x1] = finish [] (d_letters_in.body.ex (callN tab g fuel n) g fuel [some (.fz x0), some (.fz x1), none, none]) := (cn t_letters_in n _).trans (if_pos ⟨rfl, rfl⟩)
theorem t_sure_place : tab "sure_place" = some d_sure_place := by kernel_rfl
theorem e_sure_place (n : Nat) (x0 : D) (x1 : D) : callN tab g fuel (n + 1) "sure_place" [.fz x0, .fz x1] = finish [] (d_sure_place.body.ex (callN tab g fuel n) g fuel [some (.fz x0), some (.fz x1), none]) := (cn t_sure_place n _).trans (if_pos ⟨rfl, rfl⟩)
theorem t_part_at : tab "part_at" = some d_part_at := by kernel_rfl
theorem e_part_at (n : Nat) (x0 : D) (x1 : D) : callN tab g fuel (n + 1) "part_at" [.fz x0, .fz x1] = finish [] (d_part_at.body.ex (callN tab g fuel n) g fuel [some (.fz x0), some (.fz x1), none]) := (cn t_part_at n _).trans (if_pos ⟨rfl, rfl⟩)
theorem t_free_letters : tab "free_letters" = some d_free_letters := by kernel_rfl
theorem e_free_letters (n : Nat) (x0 : D) : callN tab g fuel (n + 1) "free_letters" [.fz x0] = finish [] (d_free_letters.body.ex (callN tab g fuel n) g fuel [some (.fz x0)]) := (cn t_free_letters n _).trans (if_pos ⟨rfl, rfl⟩)
theorem t_is_closed : tab "is_closed" = some d_is_closed := by kernel_rfl
theorem e_is_closed (n : Nat) (x0 : D) : callN tab g fuel (n + 1) "is_closed" [.fz x0] = finish [] (d_is_closed.body.ex (callN tab g fuel n) g fuel [some (.fz x0)]) := (cn t_is_closed n _).trans (if_pos ⟨rfl, rfl⟩)
theorem t_raised_in : tab "raised_in" = some d_raised_in := by kernel_rfl
theorem e_raised_in (n : Nat) (x0 : D) (x1 : D) (x2 : D) : callN tab g fuel (n + 1) "raised_in" [.fz x0, .fz x1, .fz x2] = finish [] (d_raised_in.body.ex (callN tab g fuel n) g fuel [some (.fz x0), some (.fz x1), some (.fz x2), none, none]) := (cn t_raised_in n _).trans (if_pos ⟨rfl, rfl⟩)
theorem t_lets_at : tab "lets_at" = some d_lets_at := by kernel_rfl
theorem e_lets_at (n : Nat) (x0 : D) (x1 : D) (x2 : D) : callN tab g fuel (n + 1) "lets_at" [.fz x0, .fz x1, .fz x2] = finish [] (d_lets_at.body.ex (callN tab g fuel n) g fuel [some (.fz x0), some (.fz x1), some (.fz x2), none, none, none]) := (cn t_lets_at n _).trans (if_pos ⟨rfl, rfl⟩)
theorem t_funs_on : tab "funs_on" = some d_funs_on := by kernel_rfl
theorem e_funs_on (n : Nat) (x0 : D) (x1 : D) : callN tab g fuel (n + 1) "funs_on" [.fz x0, .fz x1] = finish [] (d_funs_on.body.ex (callN tab g fuel n) g fuel [some (.fz x0), some (.fz x1), none]) := (cn t_funs_on n _).trans (if_pos ⟨rfl, rfl⟩)
theorem t_sure_count : tab "sure_count" = some d_sure_count := by kernel_rfl
theorem e_sure_count (n : Nat) (x0 : D) (x1 : D) : callN tab g fuel (n + 1) "sure_count" [.fz x0, .fz x1] = finish [] (d_sure_count.body.ex (callN tab g fuel n) g fuel [some (.fz x0), some (.fz x1)]) := (cn t_sure_count n _).trans (if_pos ⟨rfl, rfl⟩)
theorem t_sure_terms : tab "sure_terms" = some d_sure_terms := by kernel_rfl
theorem e_sure_terms (n : Nat) (x0 : D) : callN tab g fuel (n + 1) "sure_terms" [.fz x0] = finish [] (d_sure_terms.body.ex (callN tab g fuel n) g fuel [some (.fz x0), none, none]) := (cn t_sure_terms n _).trans (if_pos ⟨rfl, rfl⟩)
theorem t_raised : tab "raised" = some d_raised := by kernel_rfl
theorem e_raised (n : Nat) (x0 : D) (x1 : D) (x2 : D) : callN tab g fuel (n + 1) "raised" [.fz x0, .fz x1, .fz x2] = finish [] (d_raised.body.ex (callN tab g fuel n) g fuel [some (.fz x0), some (.fz x1), some (.fz x2), none, none]) := (cn t_raised n _).trans (if_pos ⟨rfl, rfl⟩)
theorem t_let_in : tab "let_in" = some d_let_in := by kernel_rfl
theorem e_let_in (n : Nat) (x0 : D) (x1 : D) : callN tab g fuel (n + 1) "let_in" [.fz x0, .fz x1] = finish [] (d_let_in.body.ex (callN tab g fuel n) g fuel [some (.fz x0), some (.fz x1), none]) := (cn t_let_in n _).trans (if_pos ⟨rfl, rfl⟩)
theorem t_lets_in : tab "lets_in" = some d_lets_in := by kernel_rfl
theorem e_lets_in (n : Nat) (x0 : D) (x1 : D) : callN tab g fuel (n + 1) "lets_in" [.fz x0, .fz x1] = finish [] (d_lets_in.body.ex (callN tab g fuel n) g fuel [some (.fz x0), some (.fz x1), none]) := (cn t_lets_in n _).trans (if_pos ⟨rfl, rfl⟩)
theorem t_closed_up : tab "closed_up" = some d_closed_up := by kernel_rfl
theorem e_closed_up (n : Nat) (x0 : D) : callN tab g fuel (n + 1) "closed_up" [.fz x0] = finish [] (d_closed_up.body.ex (callN tab g fuel n) g fuel [some (.fz x0), none]) := (cn t_closed_up n _).trans (if_pos ⟨rfl, rfl⟩)
theorem t_stepped : tab "stepped" = some d_stepped := by kernel_rfl
theorem e_stepped (n : Nat) (x0 : D) : callN tab g fuel (n + 1) "stepped" [.fz x0] = finish [] (d_stepped.body.ex (callN tab g fuel n) g fuel [some (.fz x0), none]) := (cn t_stepped n _).trans (if_pos ⟨rfl, rfl⟩)
theorem t_spots_in : tab "spots_in" = some d_spots_in := by kernel_rfl
theorem e_spots_in (n : Nat) (x0 : D) : callN tab g fuel (n + 1) "spots_in" [.fz x0] = finish [] (d_spots_in.body.ex (callN tab g fuel n) g fuel [some (.fz x0), none]) := (cn t_spots_in n _).trans (if_pos ⟨rfl, rfl⟩)
theorem t_step_in : tab "step_in" = some d_step_in := by kernel_rfl
theorem e_step_in (n : Nat) (x0 : D) (x1 : D) : callN tab g fuel (n + 1) "step_in" [.fz x0, .fz x1] = finish [] (d_step_in.body.ex (callN tab g fuel n) g fuel [some (.fz x0), some (.fz x1)]) := (cn t_step_in n _).trans (if_pos ⟨rfl, rfl⟩)
theorem t_step_places : tab "step_places" = some d_step_places := by kernel_rfl
theorem e_step_places (n : Nat) (x0 : D) : callN tab g fuel (n + 1) "step_places" [.fz x0] = finish [] (d_step_places.body.ex (callN tab g fuel n) g fuel [some (.fz x0)]) := (cn t_step_places n _).trans (if_pos ⟨rfl, rfl⟩)
theorem t_step_at : tab "step_at" = some d_step_at := by kernel_rfl
theorem e_step_at (n : Nat) (x0 : D) (x1 : D) : callN tab g fuel (n + 1) "step_at" [.fz x0, .fz x1] = finish [] (d_step_at.body.ex (callN tab g fuel n) g fuel [some (.fz x0), some (.fz x1), none, none]) := (cn t_step_at n _).trans (if_pos ⟨rfl, rfl⟩)
theorem t__law_box : tab "_law_box" = some d__law_box := by kernel_rfl
theorem e__law_box (n : Nat) (x0 : D) (x1 : D) : callN tab g fuel (n + 1) "_law_box" [.fz x0, .fz x1] = finish [] (d__law_box.body.ex (callN tab g fuel n) g fuel [some (.fz x0), some (.fz x1), none]) := (cn t__law_box n _).trans (if_pos ⟨rfl, rfl⟩)
theorem t__law_take : tab "_law_take" = some d__law_take := by kernel_rfl
theorem e__law_take (n : Nat) (x0 : O) (x1 : D) : callN tab g fuel (n + 1) "_law_take" [.io x0, .fz x1] = finish [0] (d__law_take.body.ex (callN tab g fuel n) g fuel [some (.io x0), some (.fz x1), none, none, none, none]) := (cn t__law_take n _).trans (if_pos ⟨rfl, rfl⟩)
theorem eo__law_take (n : Nat) (x0 : O) (x1 : D) : callN tab g fuel (n + 1) "_law_take" [.own x0, .fz x1] = finish [0] (d__law_take.body.ex (callN tab g fuel n) g fuel [some (.io x0), some (.fz x1), none, none, none, none]) := (cn t__law_take n _).trans (if_pos ⟨rfl, rfl⟩)
theorem t__law_cells : tab "_law_cells" = some d__law_cells := by kernel_rfl
theorem e__law_cells (n : Nat) (x0 : D) (x1 : D) : callN tab g fuel (n + 1) "_law_cells" [.fz x0, .fz x1] = finish [] (d__law_cells.body.ex (callN tab g fuel n) g fuel [some (.fz x0), some (.fz x1), none, none, none, none]) := (cn t__law_cells n _).trans (if_pos ⟨rfl, rfl⟩)
theorem t__law_same : tab "_law_same" = some d__law_same := by kernel_rfl
theorem e__law_same (n : Nat) (x0 : D) (x1 : D) : callN tab g fuel (n + 1) "_law_same" [.fz x0, .fz x1] = finish [] (d__law_same.body.ex (callN tab g fuel n) g fuel [some (.fz x0), some (.fz x1), none, none]) := (cn t__law_same n _).trans (if_pos ⟨rfl, rfl⟩)
theorem t__law_set : tab "_law_set" = some d__law_set := by kernel_rfl
theorem e__law_set (n : Nat) (x0 : D) : callN tab g fuel (n + 1) "_law_set" [.fz x0] = finish [] (d__law_set.body.ex (callN tab g fuel n) g fuel [some (.fz x0)]) := (cn t__law_set n _).trans (if_pos ⟨rfl, rfl⟩)
theorem t__law_kids : tab "_law_kids" = some d__law_kids := by kernel_rfl
theorem e__law_kids (n : Nat) (x0 : D) : callN tab g fuel (n + 1) "_law_kids" [.fz x0] = finish [] (d__law_kids.body.ex (callN tab g fuel n) g fuel [some (.fz x0)]) := (cn t__law_kids n _).trans (if_pos ⟨rfl, rfl⟩)
theorem t__law_size : tab "_law_size" = some d__law_size := by kernel_rfl
theorem e__law_size (n : Nat) (x0 : D) : callN tab g fuel (n + 1) "_law_size" [.fz x0] = finish [] (d__law_size.body.ex (callN tab g fuel n) g fuel [some (.fz x0), none]) := (cn t__law_size n _).trans (if_pos ⟨rfl, rfl⟩)
theorem t__law_deep : tab "_law_deep" = some d__law_deep := by kernel_rfl
theorem e__law_deep (n : Nat) (x0 : D) : callN tab g fuel (n + 1) "_law_deep" [.fz x0] = finish [] (d__law_deep.body.ex (callN tab g fuel n) g fuel [some (.fz x0), none]) := (cn t__law_deep n _).trans (if_pos ⟨rfl, rfl⟩)
theorem t__law_places : tab "_law_places" = some d__law_places := by kernel_rfl
theorem e__law_places (n : Nat) (x0 : D) : callN tab g fuel (n + 1) "_law_places" [.fz x0] = finish [] (d__law_places.body.ex (callN tab g fuel n) g fuel [some (.fz x0), none, none, none, none]) := (cn t__law_places n _).trans (if_pos ⟨rfl, rfl⟩)
theorem t__law_part : tab "_law_part" = some d__law_part := by kernel_rfl
theorem e__law_part (n : Nat) (x0 : D) (x1 : D) : callN tab g fuel (n + 1) "_law_part" [.fz x0, .fz x1] = finish [] (d__law_part.body.ex (callN tab g fuel n) g fuel [some (.fz x0), some (.fz x1), none]) := (cn t__law_part n _).trans (if_pos ⟨rfl, rfl⟩)
theorem t__law_free : tab "_law_free" = some d__law_free := by kernel_rfl
theorem e__law_free (n : Nat) (x0 : D) (x1 : D) : callN tab g fuel (n + 1) "_law_free" [.fz x0, .fz x1] = finish [] (d__law_free.body.ex (callN tab g fuel n) g fuel [some (.fz x0), some (.fz x1), none, none]) := (cn t__law_free n _).trans (if_pos ⟨rfl, rfl⟩)
theorem t__law_let : tab "_law_let" = some d__law_let := by kernel_rfl
theorem e__law_let (n : Nat) (x0 : D) (x1 : D) (x2 : D) (x3 : D) : callN tab g fuel (n + 1) "_law_let" [.fz x0, .fz x1, .fz x2, .fz x3] = finish [] (d__law_let.body.ex (callN tab g fuel n) g fuel [some (.fz x0), some (.fz x1), some (.fz x2), some (.fz x3), none, none]) := (cn t__law_let n _).trans (if_pos ⟨rfl, rfl⟩)
theorem t__law_any : tab "_law_any" = some d__law_any := by kernel_rfl
theorem e__law_any (n : Nat) (x0 : O) (x1 : D) (x2 : D) : callN tab g fuel (n + 1) "_law_any" [.io x0, .fz x1, .fz x2] = finish [0] (d__law_any.body.ex (callN tab g fuel n) g fuel [some (.io x0), some (.fz x1), some (.fz x2), none, none]) := (cn t__law_any n _).trans (if_pos ⟨rfl, rfl⟩)
theorem eo__law_any (n : Nat) (x0 : O) (x1 : D) (x2 : D) : callN tab g fuel (n + 1) "_law_any" [.own x0, .fz x1, .fz x2] = finish [0] (d__law_any.body.ex (callN tab g fuel n) g fuel [some (.io x0), some (.fz x1), some (.fz x2), none, none]) := (cn t__law_any n _).trans (if_pos ⟨rfl, rfl⟩)
theorem t__law_drawn : tab "_law_drawn" = some d__law_drawn := by kernel_rfl
theorem e__law_drawn (n : Nat) (x0 : O) (x1 : D) (x2 : D) : callN tab g fuel (n + 1) "_law_drawn" [.io x0, .fz x1, .fz x2] = finish [0] (d__law_drawn.body.ex (callN tab g fuel n) g fuel [some (.io x0), some (.fz x1), some (.fz x2), none]) := (cn t__law_drawn n _).trans (if_pos ⟨rfl, rfl⟩)
theorem eo__law_drawn (n : Nat) (x0 : O) (x1 : D) (x2 : D) : callN tab g fuel (n + 1) "_law_drawn" [.own x0, .fz x1, .fz x2] = finish [0] (d__law_drawn.body.ex (callN tab g fuel n) g fuel [some (.io x0), some (.fz x1), some (.fz x2), none]) := (cn t__law_drawn n _).trans (if_pos ⟨rfl, rfl⟩)
theorem t__law_right : tab "_law_right" = some d__law_right := by kernel_rfl
theorem e__law_right (n : Nat) (x0 : O) : callN tab g fuel (n + 1) "_law_right" [.io x0] = finish [0] (d__law_right.body.ex (callN tab g fuel n) g fuel [some (.io x0), none, none, none, none, none, none, none, none, none, none, none, none, none, none, none, none, none, none]) := (cn t__law_right n _).trans (if_pos ⟨rfl, rfl⟩)
theorem eo__law_right (n : Nat) (x0 : O) : callN tab g fuel (n + 1) "_law_right" [.own x0] = finish [0] (d__law_right.body.ex (callN tab g fuel n) g fuel [some (.io x0), none, none, none, none, none, none, none, none, none, none, none, none, none, none, none, none, none, none]) := (cn t__law_right n _).trans (if_pos ⟨rfl, rfl⟩)
theorem t_law : tab "law" = some d_law := by kernel_rfl
theorem e_law (n : Nat) (x0 : D) : callN tab g fuel (n + 1) "law" [.fz x0] = finish [] (d_law.body.ex (callN tab g fuel n) g fuel [some (.fz x0), none, none]) := (cn t_law n _).trans (if_pos ⟨rfl, rfl⟩)

end K04


set_option Elab.async false
set_option linter.all false
set_option maxRecDepth 100000
set_option maxHeartbeats 8000000
namespace K04
open PySem Co
inductive Tm where
  | var (i : Nat)
  | num (i : Nat)
  | fn (a : Tm)
  | use (a b : Tm)
  | up (a : Tm)
  | dn (a : Tm)
  | iff (a b c : Tm)
def enc : Tm → D
  | .var i => .tuple [.str "var", .int i]
  | .num i => .tuple [.str "num", .int i]
  | .fn a => .tuple [.str "fun", enc a]
  | .use a b => .tuple [.str "use", enc a, enc b]
  | .up a => .tuple [.str "up", enc a]
  | .dn a => .tuple [.str "down", enc a]
  | .iff a b c => .tuple [.str "if", enc a, enc b, enc c]
def Tm.ht : Tm → Nat
  | .var _ => 1
  | .num _ => 1
  | .fn a => a.ht + 1
  | .use a b => max a.ht b.ht + 1
  | .up a => a.ht + 1
  | .dn a => a.ht + 1
  | .iff a b c => max a.ht (max b.ht c.ht) + 1
def Tm.rs (k : Nat) : Nat → Tm → Tm
  | l, .var i => if l ≤ i then .var (i + k) else .var i
  | _, .num i => .num i
  | l, .fn a => .fn (a.rs k (l + 1))
  | l, .use a b => .use (a.rs k l) (b.rs k l)
  | l, .up a => .up (a.rs k l)
  | l, .dn a => .dn (a.rs k l)
  | l, .iff a b c => .iff (a.rs k l) (b.rs k l) (c.rs k l)
def Tm.kids : Tm → List Tm
  | .var _ => []
  | .num _ => []
  | .fn a => [a]
  | .use a b => [a, b]
  | .up a => [a]
  | .dn a => [a]
  | .iff a b c => [a, b, c]
theorem ok_var : PyData.strOk "var" = true := by decide +kernel
theorem ok_num : PyData.strOk "num" = true := by decide +kernel
theorem ok_fun : PyData.strOk "fun" = true := by decide +kernel
theorem is_number_int {n : Nat} (i : Int) (h : 1 ≤ n) : callN tab g fuel n "is_number" [.fz (.int i)] = .ret (.fz (.bool true)) [] := by
  obtain ⟨n, rfl⟩ : ∃ m, n = m + 1 := ⟨n - 1, by omega⟩
  rw [e_is_number]; kernel_rfl
theorem is_from_0 {n : Nat} (i : Nat) (h : 2 ≤ n) : callN tab g fuel n "is_from" [.fz (.int i), .fz (.int 0)] = .ret (.fz (.bool true)) [] := by
  obtain ⟨n, rfl⟩ : ∃ m, n = m + 1 := ⟨n - 1, by omega⟩
  have h0 : (0 : Int) ≤ i := by omega
  rw [e_is_from]
  simp only [d_is_from, ev_v, ev_rd, ev_g, ev_k, ev_bin, ev_cmp, ev_chain, ev_andE, ev_orE, ev_nt, ev_ife, ev_tup, ev_lst, ev_ix, ev_sl, ev_call, ev_callk, ev_own, ev_b1, ev_b2, ev_isi, ev_gin, ev_gix, ss_nil, ss_cons, ex_asg, ex_par, ex_ife, ex_ret, setTg_n, Es.ev, T.tst, I.ev, two_none, two_some, isRd, rdZ, vZ, List.getElem?_cons_zero, List.getElem?_cons_succ, R.bind_ok, ixF_fz, ixT, at0, at1, at2, ofD_some, liftO_some, nonBw_w, cmpT_fz, Z.dat_fz, Fl.of_ok, dc1, dc2, dc3, dc4, dca1, dca2, dca3, dca4, dcaO1, dcaO2, po1, po2, po3, po4, io_fz, wdat, tup0, tup1, tup2, tup3, tup4, lst0, lst1, lst3, is_number_int _ (show 1 ≤ n by omega), truD, liftO_some, cmpF_fz, cmp_ge, decide_eq_true h0]
  kernel_rfl
theorem children_ok {n : Nat} (t : Tm) (h : 1 ≤ n) : callN tab g fuel n "children" [.fz (enc t)] = .ret (.fz (.tuple (t.kids.map enc))) [] := by
  obtain ⟨n, rfl⟩ : ∃ m, n = m + 1 := ⟨n - 1, by omega⟩
  rw [e_children]
  cases t <;> kernel_rfl
theorem raised_var {n : Nat} (k l i : Nat) (h : 1 ≤ n) : callN tab g fuel n "raised_in" [.fz (enc (.var i)), .fz (.int k), .fz (.int l)] = .ret (.fz (enc ((Tm.var i).rs k l))) [] := by
  obtain ⟨n, rfl⟩ : ∃ m, n = m + 1 := ⟨n - 1, by omega⟩
  rw [e_raised_in]
  by_cases c : l ≤ i
  · have c' : (l : Int) ≤ i := by omega
    have e : enc ((Tm.var i).rs k l) = .tuple [.str "var", .int ((i : Int) + k)] := by
      unfold Tm.rs
      rw [if_pos c]
      rfl
    rw [e]
    simp only [d_raised_in, ev_v, ev_rd, ev_g, ev_k, ev_bin, ev_cmp, ev_chain, ev_andE, ev_orE, ev_nt, ev_ife, ev_tup, ev_lst, ev_ix, ev_sl, ev_call, ev_callk, ev_own, ev_b1, ev_b2, ev_isi, ev_gin, ev_gix, ss_nil, ss_cons, ex_asg, ex_par, ex_ife, ex_ret, setTg_n, Es.ev, T.tst, I.ev, two_none, two_some, isRd, rdZ, vZ, List.getElem?_cons_zero, List.getElem?_cons_succ, R.bind_ok, ixF_fz, ixT, at0, at1, at2, ofD_some, liftO_some, nonBw_w, cmpT_fz, Z.dat_fz, Fl.of_ok, dc1, dc2, dc3, dc4, dca1, dca2, dca3, dca4, dcaO1, dcaO2, po1, po2, po3, po4, io_fz, wdat, tup0, tup1, tup2, tup3, tup4, lst0, lst1, lst3, enc, eq_str, ok_var, Bool.and_self, if_true, BEq.rfl, cmp_ge, decide_eq_true c']
    kernel_rfl
  · have c' : ¬ (l : Int) ≤ i := by omega
    have e : enc ((Tm.var i).rs k l) = .tuple [.str "var", .int i] := by
      unfold Tm.rs
      rw [if_neg c]
      rfl
    rw [e]
    simp only [d_raised_in, ev_v, ev_rd, ev_g, ev_k, ev_bin, ev_cmp, ev_chain, ev_andE, ev_orE, ev_nt, ev_ife, ev_tup, ev_lst, ev_ix, ev_sl, ev_call, ev_callk, ev_own, ev_b1, ev_b2, ev_isi, ev_gin, ev_gix, ss_nil, ss_cons, ex_asg, ex_par, ex_ife, ex_ret, setTg_n, Es.ev, T.tst, I.ev, two_none, two_some, isRd, rdZ, vZ, List.getElem?_cons_zero, List.getElem?_cons_succ, R.bind_ok, ixF_fz, ixT, at0, at1, at2, ofD_some, liftO_some, nonBw_w, cmpT_fz, Z.dat_fz, Fl.of_ok, dc1, dc2, dc3, dc4, dca1, dca2, dca3, dca4, dcaO1, dcaO2, po1, po2, po3, po4, io_fz, wdat, tup0, tup1, tup2, tup3, tup4, lst0, lst1, lst3, enc, eq_str, ok_var, Bool.and_self, if_true, BEq.rfl, cmp_ge, decide_eq_false c']
    kernel_rfl
theorem raised_step {n : Nat} (k l m : Nat) (hd : Str) (ts rs : List D) (hok : PyData.strOk hd = true) (hv : (hd == "var") = false) (hn : (hd == "num") = false) (hm : m = if (hd == "fun") = true then l + 1 else l) (hl : ts.length ≤ 10) (hle : ts.length = rs.length)
    (hk : callN tab g fuel n "children" [.fz (.tuple (.str hd :: ts))] = .ret (.fz (.tuple ts)) []) (hr : ∀ d e, (d, e) ∈ ts.zip rs → callN tab g fuel n "raised_in" [.fz d, .fz (.int k), .fz (.int m)] = .ret (.fz e) []) :
    callN tab g fuel (n + 1) "raised_in" [.fz (.tuple (.str hd :: ts)), .fz (.int k), .fz (.int l)] = .ret (.fz (.tuple (.str hd :: rs))) [] := by
  rw [e_raised_in]
  have hlc : ∀ ρ, E.ev (callN tab g fuel n) g (.lc [("own", 4)] (.n 4) (.seq (.call "children" (.cons (.v 0) .nil))) .yes (.call "raised_in" (.cons (.v 4) (.cons (.v 1) (.cons (.v 3) .nil))))) [some (.fz (.tuple (.str hd :: ts))), some (.fz (.int k)), some (.fz (.int l)), some (.fz (.int m)), ρ] =
      .ok (.w (.own (.l (rs.map .d)))) [some (.fz (.tuple (.str hd :: ts))), some (.fz (.int k)), some (.fz (.int l)), some (.fz (.int m)), none] := by
    intro ρ
    refine lc_map (ds := ts) (ρ := [some (.fz (.tuple (.str hd :: ts))), some (.fz (.int k)), some (.fz (.int l)), some (.fz (.int m)), ρ]) ?_ (by omega) (fun d e hde => ?_) (by rw [List.length_map]; exact hle)
    · simp only [ev_v, ev_rd, ev_g, ev_k, ev_bin, ev_cmp, ev_chain, ev_andE, ev_orE, ev_nt, ev_ife, ev_tup, ev_lst, ev_ix, ev_sl, ev_call, ev_callk, ev_own, ev_b1, ev_b2, ev_isi, ev_gin, ev_gix, ss_nil, ss_cons, ex_asg, ex_par, ex_ife, ex_ret, setTg_n, Es.ev, T.tst, I.ev, two_none, two_some, isRd, rdZ, vZ, List.getElem?_cons_zero, List.getElem?_cons_succ, R.bind_ok, ixF_fz, ixT, at0, at1, at2, ofD_some, liftO_some, nonBw_w, cmpT_fz, Z.dat_fz, Fl.of_ok, dc1, dc2, dc3, dc4, dca1, dca2, dca3, dca4, dcaO1, dcaO2, po1, po2, po3, po4, io_fz, wdat, tup0, tup1, tup2, tup3, tup4, lst0, lst1, lst3, hk] <;> rfl
    · obtain ⟨e', he, rfl⟩ : ∃ e', (d, e') ∈ ts.zip rs ∧ e = .d e' := by
        rw [List.zip_map_right] at hde
        obtain ⟨p, hp, hq⟩ := List.mem_map.mp hde
        cases hq
        exact ⟨p.2, hp, rfl⟩
      refine ⟨.fz e', ?_, rfl⟩
      simp only [ev_v, ev_rd, ev_g, ev_k, ev_bin, ev_cmp, ev_chain, ev_andE, ev_orE, ev_nt, ev_ife, ev_tup, ev_lst, ev_ix, ev_sl, ev_call, ev_callk, ev_own, ev_b1, ev_b2, ev_isi, ev_gin, ev_gix, ss_nil, ss_cons, ex_asg, ex_par, ex_ife, ex_ret, setTg_n, Es.ev, T.tst, I.ev, two_none, two_some, isRd, rdZ, vZ, List.getElem?_cons_zero, List.getElem?_cons_succ, R.bind_ok, ixF_fz, ixT, at0, at1, at2, ofD_some, liftO_some, nonBw_w, cmpT_fz, Z.dat_fz, Fl.of_ok, dc1, dc2, dc3, dc4, dca1, dca2, dca3, dca4, dcaO1, dcaO2, po1, po2, po3, po4, io_fz, wdat, tup0, tup1, tup2, tup3, tup4, lst0, lst1, lst3, List.set_cons_succ, List.set_cons_zero, hr d e' he] <;> rfl
  have ha := addT (xs := [.str hd]) (ys := rs) (by simp only [List.length_cons, List.length_nil]; omega)
  by_cases hf : (hd == "fun") = true
  · rw [if_pos hf] at hm
    subst hm
    simp only [d_raised_in, ev_v, ev_rd, ev_g, ev_k, ev_bin, ev_cmp, ev_chain, ev_andE, ev_orE, ev_nt, ev_ife, ev_tup, ev_lst, ev_ix, ev_sl, ev_call, ev_callk, ev_own, ev_b1, ev_b2, ev_isi, ev_gin, ev_gix, ss_nil, ss_cons, ex_asg, ex_par, ex_ife, ex_ret, setTg_n, Es.ev, T.tst, I.ev, two_none, two_some, isRd, rdZ, vZ, List.getElem?_cons_zero, List.getElem?_cons_succ, R.bind_ok, ixF_fz, ixT, at0, at1, at2, ofD_some, liftO_some, nonBw_w, cmpT_fz, Z.dat_fz, Fl.of_ok, dc1, dc2, dc3, dc4, dca1, dca2, dca3, dca4, dcaO1, dcaO2, po1, po2, po3, po4, io_fz, wdat, tup0, tup1, tup2, tup3, tup4, lst0, lst1, lst3, eq_str, ok_var, hok, ok_num, ok_fun, Bool.and_self, if_true, hv, hn, hf, Bool.false_eq_true, if_false, Fl.then_nx, binF_fz, addI, ofO_some, List.set_cons_succ, List.set_cons_zero, ← Int.natCast_add_one, ← Int.natCast_succ, hlc, b1_tup, ha] <;> rfl
  · rw [if_neg hf] at hm
    subst hm
    have hf' : (hd == "fun") = false := by simpa using hf
    simp only [d_raised_in, ev_v, ev_rd, ev_g, ev_k, ev_bin, ev_cmp, ev_chain, ev_andE, ev_orE, ev_nt, ev_ife, ev_tup, ev_lst, ev_ix, ev_sl, ev_call, ev_callk, ev_own, ev_b1, ev_b2, ev_isi, ev_gin, ev_gix, ss_nil, ss_cons, ex_asg, ex_par, ex_ife, ex_ret, setTg_n, Es.ev, T.tst, I.ev, two_none, two_some, isRd, rdZ, vZ, List.getElem?_cons_zero, List.getElem?_cons_succ, R.bind_ok, ixF_fz, ixT, at0, at1, at2, ofD_some, liftO_some, nonBw_w, cmpT_fz, Z.dat_fz, Fl.of_ok, dc1, dc2, dc3, dc4, dca1, dca2, dca3, dca4, dcaO1, dcaO2, po1, po2, po3, po4, io_fz, wdat, tup0, tup1, tup2, tup3, tup4, lst0, lst1, lst3, eq_str, ok_var, hok, ok_num, ok_fun, Bool.and_self, if_true, hv, hn, hf', Bool.false_eq_true, if_false, Fl.then_nx, binF_fz, addI, ofO_some, List.set_cons_succ, List.set_cons_zero, hlc, b1_tup, ha] <;> rfl
theorem raised_ok (k : Nat) : ∀ (t : Tm) (l n : Nat), t.ht + 1 ≤ n → callN tab g fuel n "raised_in" [.fz (enc t), .fz (.int k), .fz (.int l)] = .ret (.fz (enc (t.rs k l))) []
  | .var i, l, n, h => raised_var k l i (by omega)
  | .num i, l, n, h => by
    obtain ⟨n, rfl⟩ : ∃ m, n = m + 1 := ⟨n - 1, by omega⟩
    rw [e_raised_in]
    kernel_rfl
  | .fn a, l, n, h => by
    obtain ⟨n, rfl⟩ : ∃ m, n = m + 1 := ⟨n - 1, by omega⟩
    have h' : a.ht + 1 ≤ n := by simp only [Tm.ht] at h; omega
    refine raised_step k l (l + 1) "fun" [enc a] [enc (a.rs k (l + 1))] (by decide +kernel) (by decide +kernel) (by decide +kernel) (by rw [if_pos (by decide +kernel)]) (by simp) rfl (children_ok (.fn a) (by omega)) fun d e hm => ?_
    simp only [List.zip_cons_cons, List.zip_nil_right, List.mem_singleton] at hm
    cases hm
    exact raised_ok k a (l + 1) n h'
  | .use a b, l, n, h => by
    obtain ⟨n, rfl⟩ : ∃ m, n = m + 1 := ⟨n - 1, by omega⟩
    have h1 : a.ht + 1 ≤ n := by simp only [Tm.ht] at h; omega
    have h2 : b.ht + 1 ≤ n := by simp only [Tm.ht] at h; omega
    refine raised_step k l l "use" [enc a, enc b] [enc (a.rs k l), enc (b.rs k l)] (by decide +kernel) (by decide +kernel) (by decide +kernel) (by rw [if_neg (by decide +kernel)]) (by simp) rfl (children_ok (.use a b) (by omega)) fun d e hm => ?_
    simp only [List.zip_cons_cons, List.zip_nil_right, List.mem_cons, List.not_mem_nil, or_false] at hm
    rcases hm with hm | hm
    · cases hm; exact raised_ok k a l n h1
    · cases hm; exact raised_ok k b l n h2
  | .up a, l, n, h => by
    obtain ⟨n, rfl⟩ : ∃ m, n = m + 1 := ⟨n - 1, by omega⟩
    have h' : a.ht + 1 ≤ n := by simp only [Tm.ht] at h; omega
    refine raised_step k l l "up" [enc a] [enc (a.rs k l)] (by decide +kernel) (by decide +kernel) (by decide +kernel) (by rw [if_neg (by decide +kernel)]) (by simp) rfl (children_ok (.up a) (by omega)) fun d e hm => ?_
    simp only [List.zip_cons_cons, List.zip_nil_right, List.mem_singleton] at hm
    cases hm
    exact raised_ok k a l n h'
  | .dn a, l, n, h => by
    obtain ⟨n, rfl⟩ : ∃ m, n = m + 1 := ⟨n - 1, by omega⟩
    have h' : a.ht + 1 ≤ n := by simp only [Tm.ht] at h; omega
    refine raised_step k l l "down" [enc a] [enc (a.rs k l)] (by decide +kernel) (by decide +kernel) (by decide +kernel) (by rw [if_neg (by decide +kernel)]) (by simp) rfl (children_ok (.dn a) (by omega)) fun d e hm => ?_
    simp only [List.zip_cons_cons, List.zip_nil_right, List.mem_singleton] at hm
    cases hm
    exact raised_ok k a l n h'
  | .iff a b c, l, n, h => by
    obtain ⟨n, rfl⟩ : ∃ m, n = m + 1 := ⟨n - 1, by omega⟩
    have h1 : a.ht + 1 ≤ n := by simp only [Tm.ht] at h; omega
    have h2 : b.ht + 1 ≤ n := by simp only [Tm.ht] at h; omega
    have h3 : c.ht + 1 ≤ n := by simp only [Tm.ht] at h; omega
    refine raised_step k l l "if" [enc a, enc b, enc c] [enc (a.rs k l), enc (b.rs k l), enc (c.rs k l)] (by decide +kernel) (by decide +kernel) (by decide +kernel) (by rw [if_neg (by decide +kernel)]) (by simp) rfl (children_ok (.iff a b c) (by omega)) fun d e hm => ?_
    simp only [List.zip_cons_cons, List.zip_nil_right, List.mem_cons, List.not_mem_nil, or_false] at hm
    rcases hm with hm | hm | hm
    · cases hm; exact raised_ok k a l n h1
    · cases hm; exact raised_ok k b l n h2
    · cases hm; exact raised_ok k c l n h3
theorem kids_ok {n : Nat} (t : Tm) (h : 1 ≤ n) : callN tab g fuel n "_law_kids" [.fz (enc t)] = .ret (.fz (.tuple (t.kids.map enc))) [] := by
  obtain ⟨n, rfl⟩ : ∃ m, n = m + 1 := ⟨n - 1, by omega⟩
  rw [e__law_kids]
  cases t <;> kernel_rfl
def Tm.lt (row : List Tm) (more : Nat) : Nat → Tm → Tm
  | d, .var i => if i < d then .var i else match row[i - d]? with
    | some t => t.rs d 0
    | none => .var (i - row.length + more)
  | _, .num i => .num i
  | d, .fn a => .fn (a.lt row more (d + 1))
  | d, .use a b => .use (a.lt row more d) (b.lt row more d)
  | d, .up a => .up (a.lt row more d)
  | d, .dn a => .dn (a.lt row more d)
  | d, .iff a b c => .iff (a.lt row more d) (b.lt row more d) (c.lt row more d)
def rowD (row : List Tm) : D := .tuple (row.map enc)
theorem lets_var {n : Nat} (row : List Tm) (d i b0 : Nat) (hR : ∀ t ∈ row, t.ht ≤ b0) (h : b0 + 2 ≤ n) : callN tab g fuel n "lets_at" [.fz (enc (.var i)), .fz (rowD row), .fz (.int d)] = .ret (.fz (enc ((Tm.var i).lt row 0 d))) [] := by
  obtain ⟨n, rfl⟩ : ∃ m, n = m + 1 := ⟨n - 1, by omega⟩
  rw [e_lets_at]
  by_cases c : i < d
  · have c' : (i : Int) < d := by omega
    have e : enc ((Tm.var i).lt row 0 d) = enc (.var i) := by unfold Tm.lt; rw [if_pos c]
    rw [e]
    simp only [d_lets_at, ev_v, ev_rd, ev_g, ev_k, ev_bin, ev_cmp, ev_chain, ev_andE, ev_orE, ev_nt, ev_ife, ev_tup, ev_lst, ev_ix, ev_sl, ev_call, ev_callk, ev_own, ev_b1, ev_b2, ev_isi, ev_gin, ev_gix, ss_nil, ss_cons, ex_asg, ex_par, ex_ife, ex_ret, setTg_n, Es.ev, T.tst, I.ev, two_none, two_some, isRd, rdZ, vZ, List.getElem?_cons_zero, List.getElem?_cons_succ, R.bind_ok, ixF_fz, ixT, at0, at1, at2, ofD_some, liftO_some, nonBw_w, cmpT_fz, Z.dat_fz, Fl.of_ok, dc1, dc2, dc3, dc4, dca1, dca2, dca3, dca4, dcaO1, dcaO2, po1, po2, po3, po4, io_fz, wdat, tup0, tup1, tup2, tup3, tup4, lst0, lst1, lst3, enc, eq_str, ok_var, Bool.and_self, if_true, BEq.rfl, cmp_lt, decide_eq_true c']
    kernel_rfl
  · have c' : ¬ (i : Int) < d := by omega
    have es : (i : Int) - d = ((i - d : Nat) : Int) := by omega
    cases q : row[i - d]? with
    | some t =>
      have hm := List.mem_of_getElem? q
      have hlt : i - d < row.length := (List.getElem?_eq_some_iff.mp q).1
      have hl : ((i - d : Nat) : Int) < ((row.map enc).length : Int) := by rw [List.length_map]; omega
      have hx : (row.map enc)[i - d]? = some (enc t) := by rw [List.getElem?_map, q]; rfl
      have e : enc ((Tm.var i).lt row 0 d) = enc (t.rs d 0) := by unfold Tm.lt; rw [if_neg c, q]
      have hc := raised_ok d t 0 n (by have := hR t hm; omega)
      have z : ((0 : Nat) : Int) = 0 := rfl
      rw [z] at hc
      rw [e]
      simp only [d_lets_at, rowD, ev_v, ev_rd, ev_g, ev_k, ev_bin, ev_cmp, ev_chain, ev_andE, ev_orE, ev_nt, ev_ife, ev_tup, ev_lst, ev_ix, ev_sl, ev_call, ev_callk, ev_own, ev_b1, ev_b2, ev_isi, ev_gin, ev_gix, ss_nil, ss_cons, ex_asg, ex_par, ex_ife, ex_ret, setTg_n, Es.ev, T.tst, I.ev, two_none, two_some, isRd, rdZ, vZ, List.getElem?_cons_zero, List.getElem?_cons_succ, R.bind_ok, ixF_fz, ixT, at0, at1, at2, ofD_some, liftO_some, nonBw_w, cmpT_fz, Z.dat_fz, Fl.of_ok, dc1, dc2, dc3, dc4, dca1, dca2, dca3, dca4, dcaO1, dcaO2, po1, po2, po3, po4, io_fz, wdat, tup0, tup1, tup2, tup3, tup4, lst0, lst1, lst3, enc, eq_str, ok_var, Bool.and_self, if_true, BEq.rfl, cmp_lt, decide_eq_false c', Bool.false_eq_true, if_false, Fl.then_nx, binF_fz, subI, ofO_some, es, List.set_cons_succ, List.set_cons_zero, b1_lenT, decide_eq_true hl, atN, hx, hc] <;> rfl
    | none =>
      have hge : row.length ≤ i - d := List.getElem?_eq_none_iff.mp q
      have hl : ¬ ((i - d : Nat) : Int) < ((row.map enc).length : Int) := by rw [List.length_map]; omega
      have e : enc ((Tm.var i).lt row 0 d) = .tuple [.str "var", .int ((i : Int) - ((row.map enc).length : Int))] := by
        unfold Tm.lt
        rw [if_neg c, q]
        show PyData.tuple [.str "var", .int (((i - row.length + 0 : Nat)) : Int)] = _
        rw [List.length_map]
        have : ((i - row.length + 0 : Nat) : Int) = (i : Int) - (row.length : Int) := by omega
        rw [this]
      rw [e]
      simp only [d_lets_at, rowD, ev_v, ev_rd, ev_g, ev_k, ev_bin, ev_cmp, ev_chain, ev_andE, ev_orE, ev_nt, ev_ife, ev_tup, ev_lst, ev_ix, ev_sl, ev_call, ev_callk, ev_own, ev_b1, ev_b2, ev_isi, ev_gin, ev_gix, ss_nil, ss_cons, ex_asg, ex_par, ex_ife, ex_ret, setTg_n, Es.ev, T.tst, I.ev, two_none, two_some, isRd, rdZ, vZ, List.getElem?_cons_zero, List.getElem?_cons_succ, R.bind_ok, ixF_fz, ixT, at0, at1, at2, ofD_some, liftO_some, nonBw_w, cmpT_fz, Z.dat_fz, Fl.of_ok, dc1, dc2, dc3, dc4, dca1, dca2, dca3, dca4, dcaO1, dcaO2, po1, po2, po3, po4, io_fz, wdat, tup0, tup1, tup2, tup3, tup4, lst0, lst1, lst3, enc, eq_str, ok_var, Bool.and_self, if_true, BEq.rfl, cmp_lt, decide_eq_false c', Bool.false_eq_true, if_false, Fl.then_nx, binF_fz, subI, ofO_some, es, List.set_cons_succ, List.set_cons_zero, b1_lenT, decide_eq_false hl] <;> rfl
theorem lets_step {n : Nat} (r : D) (l m : Nat) (hd : Str) (ts rs : List D) (hok : PyData.strOk hd = true) (hv : (hd == "var") = false) (hn : (hd == "num") = false) (hm : m = if (hd == "fun") = true then l + 1 else l) (hl : ts.length ≤ 10) (hle : ts.length = rs.length)
    (hk : callN tab g fuel n "children" [.fz (.tuple (.str hd :: ts))] = .ret (.fz (.tuple ts)) []) (hr : ∀ d e, (d, e) ∈ ts.zip rs → callN tab g fuel n "lets_at" [.fz d, .fz r, .fz (.int m)] = .ret (.fz e) []) :
    callN tab g fuel (n + 1) "lets_at" [.fz (.tuple (.str hd :: ts)), .fz r, .fz (.int l)] = .ret (.fz (.tuple (.str hd :: rs))) [] := by
  rw [e_lets_at]
  have hlc : ∀ ρ, E.ev (callN tab g fuel n) g (.lc [("own", 5)] (.n 5) (.seq (.call "children" (.cons (.v 0) .nil))) .yes (.call "lets_at" (.cons (.v 5) (.cons (.v 1) (.cons (.v 4) .nil))))) [some (.fz (.tuple (.str hd :: ts))), some (.fz r), some (.fz (.int l)), none, some (.fz (.int m)), ρ] =
      .ok (.w (.own (.l (rs.map .d)))) [some (.fz (.tuple (.str hd :: ts))), some (.fz r), some (.fz (.int l)), none, some (.fz (.int m)), none] := by
    intro ρ
    refine lc_map (ds := ts) (ρ := [some (.fz (.tuple (.str hd :: ts))), some (.fz r), some (.fz (.int l)), none, some (.fz (.int m)), ρ]) ?_ (by omega) (fun d e hde => ?_) (by rw [List.length_map]; exact hle)
    · simp only [ev_v, ev_rd, ev_g, ev_k, ev_bin, ev_cmp, ev_chain, ev_andE, ev_orE, ev_nt, ev_ife, ev_tup, ev_lst, ev_ix, ev_sl, ev_call, ev_callk, ev_own, ev_b1, ev_b2, ev_isi, ev_gin, ev_gix, ss_nil, ss_cons, ex_asg, ex_par, ex_ife, ex_ret, setTg_n, Es.ev, T.tst, I.ev, two_none, two_some, isRd, rdZ, vZ, List.getElem?_cons_zero, List.getElem?_cons_succ, R.bind_ok, ixF_fz, ixT, at0, at1, at2, ofD_some, liftO_some, nonBw_w, cmpT_fz, Z.dat_fz, Fl.of_ok, dc1, dc2, dc3, dc4, dca1, dca2, dca3, dca4, dcaO1, dcaO2, po1, po2, po3, po4, io_fz, wdat, tup0, tup1, tup2, tup3, tup4, lst0, lst1, lst3, hk] <;> rfl
    · obtain ⟨e', he, rfl⟩ : ∃ e', (d, e') ∈ ts.zip rs ∧ e = .d e' := by
        rw [List.zip_map_right] at hde
        obtain ⟨p, hp, hq⟩ := List.mem_map.mp hde
        cases hq
        exact ⟨p.2, hp, rfl⟩
      refine ⟨.fz e', ?_, rfl⟩
      simp only [ev_v, ev_rd, ev_g, ev_k, ev_bin, ev_cmp, ev_chain, ev_andE, ev_orE, ev_nt, ev_ife, ev_tup, ev_lst, ev_ix, ev_sl, ev_call, ev_callk, ev_own, ev_b1, ev_b2, ev_isi, ev_gin, ev_gix, ss_nil, ss_cons, ex_asg, ex_par, ex_ife, ex_ret, setTg_n, Es.ev, T.tst, I.ev, two_none, two_some, isRd, rdZ, vZ, List.getElem?_cons_zero, List.getElem?_cons_succ, R.bind_ok, ixF_fz, ixT, at0, at1, at2, ofD_some, liftO_some, nonBw_w, cmpT_fz, Z.dat_fz, Fl.of_ok, dc1, dc2, dc3, dc4, dca1, dca2, dca3, dca4, dcaO1, dcaO2, po1, po2, po3, po4, io_fz, wdat, tup0, tup1, tup2, tup3, tup4, lst0, lst1, lst3, List.set_cons_succ, List.set_cons_zero, hr d e' he] <;> rfl
  have ha := addT (xs := [.str hd]) (ys := rs) (by simp only [List.length_cons, List.length_nil]; omega)
  by_cases hf : (hd == "fun") = true
  · rw [if_pos hf] at hm
    subst hm
    simp only [d_lets_at, ev_v, ev_rd, ev_g, ev_k, ev_bin, ev_cmp, ev_chain, ev_andE, ev_orE, ev_nt, ev_ife, ev_tup, ev_lst, ev_ix, ev_sl, ev_call, ev_callk, ev_own, ev_b1, ev_b2, ev_isi, ev_gin, ev_gix, ss_nil, ss_cons, ex_asg, ex_par, ex_ife, ex_ret, setTg_n, Es.ev, T.tst, I.ev, two_none, two_some, isRd, rdZ, vZ, List.getElem?_cons_zero, List.getElem?_cons_succ, R.bind_ok, ixF_fz, ixT, at0, at1, at2, ofD_some, liftO_some, nonBw_w, cmpT_fz, Z.dat_fz, Fl.of_ok, dc1, dc2, dc3, dc4, dca1, dca2, dca3, dca4, dcaO1, dcaO2, po1, po2, po3, po4, io_fz, wdat, tup0, tup1, tup2, tup3, tup4, lst0, lst1, lst3, eq_str, ok_var, hok, ok_num, ok_fun, Bool.and_self, if_true, hv, hn, hf, Bool.false_eq_true, if_false, Fl.then_nx, binF_fz, addI, ofO_some, List.set_cons_succ, List.set_cons_zero, ← Int.natCast_add_one, ← Int.natCast_succ, hlc, b1_tup, ha] <;> rfl
  · rw [if_neg hf] at hm
    subst hm
    have hf' : (hd == "fun") = false := by simpa using hf
    simp only [d_lets_at, ev_v, ev_rd, ev_g, ev_k, ev_bin, ev_cmp, ev_chain, ev_andE, ev_orE, ev_nt, ev_ife, ev_tup, ev_lst, ev_ix, ev_sl, ev_call, ev_callk, ev_own, ev_b1, ev_b2, ev_isi, ev_gin, ev_gix, ss_nil, ss_cons, ex_asg, ex_par, ex_ife, ex_ret, setTg_n, Es.ev, T.tst, I.ev, two_none, two_some, isRd, rdZ, vZ, List.getElem?_cons_zero, List.getElem?_cons_succ, R.bind_ok, ixF_fz, ixT, at0, at1, at2, ofD_some, liftO_some, nonBw_w, cmpT_fz, Z.dat_fz, Fl.of_ok, dc1, dc2, dc3, dc4, dca1, dca2, dca3, dca4, dcaO1, dcaO2, po1, po2, po3, po4, io_fz, wdat, tup0, tup1, tup2, tup3, tup4, lst0, lst1, lst3, eq_str, ok_var, hok, ok_num, ok_fun, Bool.and_self, if_true, hv, hn, hf', Bool.false_eq_true, if_false, Fl.then_nx, binF_fz, addI, ofO_some, List.set_cons_succ, List.set_cons_zero, hlc, b1_tup, ha] <;> rfl
theorem lets_ok (row : List Tm) (b0 : Nat) (hR : ∀ t ∈ row, t.ht ≤ b0) : ∀ (t : Tm) (l n : Nat), t.ht + b0 + 1 ≤ n → callN tab g fuel n "lets_at" [.fz (enc t), .fz (rowD row), .fz (.int l)] = .ret (.fz (enc (t.lt row 0 l))) []
  | .var i, l, n, h => lets_var row l i b0 hR (by simp only [Tm.ht] at h; omega)
  | .num i, l, n, h => by
    obtain ⟨n, rfl⟩ : ∃ m, n = m + 1 := ⟨n - 1, by omega⟩
    rw [e_lets_at]
    kernel_rfl
  | .fn a, l, n, h => by
    obtain ⟨n, rfl⟩ : ∃ m, n = m + 1 := ⟨n - 1, by omega⟩
    have h1 : a.ht + b0 + 1 ≤ n := by simp only [Tm.ht] at h; omega
    refine lets_step (rowD row) l (l + 1) "fun" [enc a] [enc (a.lt row 0 (l + 1))] (by decide +kernel) (by decide +kernel) (by decide +kernel) (by rw [if_pos (by decide +kernel)]) (by simp) rfl (children_ok (.fn a) (by omega)) fun d e hm => ?_
    simp only [List.zip_cons_cons, List.zip_nil_right, List.mem_cons, List.not_mem_nil, or_false] at hm
    cases hm
    exact lets_ok row b0 hR a (l + 1) n h1
  | .use a b, l, n, h => by
    obtain ⟨n, rfl⟩ : ∃ m, n = m + 1 := ⟨n - 1, by omega⟩
    have h1 : a.ht + b0 + 1 ≤ n := by simp only [Tm.ht] at h; omega
    have h2 : b.ht + b0 + 1 ≤ n := by simp only [Tm.ht] at h; omega
    refine lets_step (rowD row) l l "use" [enc a, enc b] [enc (a.lt row 0 l), enc (b.lt row 0 l)] (by decide +kernel) (by decide +kernel) (by decide +kernel) (by rw [if_neg (by decide +kernel)]) (by simp) rfl (children_ok (.use a b) (by omega)) fun d e hm => ?_
    simp only [List.zip_cons_cons, List.zip_nil_right, List.mem_cons, List.not_mem_nil, or_false] at hm
    rcases hm with hm | hm
    · cases hm; exact lets_ok row b0 hR a l n h1
    · cases hm; exact lets_ok row b0 hR b l n h2
  | .up a, l, n, h => by
    obtain ⟨n, rfl⟩ : ∃ m, n = m + 1 := ⟨n - 1, by omega⟩
    have h1 : a.ht + b0 + 1 ≤ n := by simp only [Tm.ht] at h; omega
    refine lets_step (rowD row) l l "up" [enc a] [enc (a.lt row 0 l)] (by decide +kernel) (by decide +kernel) (by decide +kernel) (by rw [if_neg (by decide +kernel)]) (by simp) rfl (children_ok (.up a) (by omega)) fun d e hm => ?_
    simp only [List.zip_cons_cons, List.zip_nil_right, List.mem_cons, List.not_mem_nil, or_false] at hm
    cases hm
    exact lets_ok row b0 hR a l n h1
  | .dn a, l, n, h => by
    obtain ⟨n, rfl⟩ : ∃ m, n = m + 1 := ⟨n - 1, by omega⟩
    have h1 : a.ht + b0 + 1 ≤ n := by simp only [Tm.ht] at h; omega
    refine lets_step (rowD row) l l "down" [enc a] [enc (a.lt row 0 l)] (by decide +kernel) (by decide +kernel) (by decide +kernel) (by rw [if_neg (by decide +kernel)]) (by simp) rfl (children_ok (.dn a) (by omega)) fun d e hm => ?_
    simp only [List.zip_cons_cons, List.zip_nil_right, List.mem_cons, List.not_mem_nil, or_false] at hm
    cases hm
    exact lets_ok row b0 hR a l n h1
  | .iff a b c, l, n, h => by
    obtain ⟨n, rfl⟩ : ∃ m, n = m + 1 := ⟨n - 1, by omega⟩
    have h1 : a.ht + b0 + 1 ≤ n := by simp only [Tm.ht] at h; omega
    have h2 : b.ht + b0 + 1 ≤ n := by simp only [Tm.ht] at h; omega
    have h3 : c.ht + b0 + 1 ≤ n := by simp only [Tm.ht] at h; omega
    refine lets_step (rowD row) l l "if" [enc a, enc b, enc c] [enc (a.lt row 0 l), enc (b.lt row 0 l), enc (c.lt row 0 l)] (by decide +kernel) (by decide +kernel) (by decide +kernel) (by rw [if_neg (by decide +kernel)]) (by simp) rfl (children_ok (.iff a b c) (by omega)) fun d e hm => ?_
    simp only [List.zip_cons_cons, List.zip_nil_right, List.mem_cons, List.not_mem_nil, or_false] at hm
    rcases hm with hm | hm | hm
    · cases hm; exact lets_ok row b0 hR a l n h1
    · cases hm; exact lets_ok row b0 hR b l n h2
    · cases hm; exact lets_ok row b0 hR c l n h3
theorem let_var0 {n : Nat} (d i k : Nat) (h : 1 ≤ n) : callN tab g fuel n "_law_let" [.fz (enc (.var i)), .fz (.tuple []), .fz (.int d), .fz (.int k)] = .ret (.fz (enc ((Tm.var i).rs k d))) [] := by
  obtain ⟨n, rfl⟩ : ∃ m, n = m + 1 := ⟨n - 1, by omega⟩
  rw [e__law_let]
  have q0 : (("var" : Str) == "num") = false := by decide +kernel
  by_cases c : i < d
  · have c' : (i : Int) < d := by omega
    have e : enc ((Tm.var i).rs k d) = enc (.var i) := by unfold Tm.rs; rw [if_neg (by omega)]
    rw [e]
    simp only [d__law_let, ev_v, ev_rd, ev_g, ev_k, ev_bin, ev_cmp, ev_chain, ev_andE, ev_orE, ev_nt, ev_ife, ev_tup, ev_lst, ev_ix, ev_sl, ev_call, ev_callk, ev_own, ev_b1, ev_b2, ev_isi, ev_gin, ev_gix, ss_nil, ss_cons, ex_asg, ex_par, ex_ife, ex_ret, setTg_n, Es.ev, T.tst, I.ev, two_none, two_some, isRd, rdZ, vZ, List.getElem?_cons_zero, List.getElem?_cons_succ, R.bind_ok, ixF_fz, ixT, at0, at1, at2, ofD_some, liftO_some, nonBw_w, cmpT_fz, Z.dat_fz, Fl.of_ok, dc1, dc2, dc3, dc4, dca1, dca2, dca3, dca4, dcaO1, dcaO2, po1, po2, po3, po4, io_fz, wdat, tup0, tup1, tup2, tup3, tup4, lst0, lst1, lst3, enc, eq_str, ok_var, ok_num, q0, Bool.and_self, if_true, BEq.rfl, cmp_lt, decide_eq_true c', Bool.false_eq_true, if_false]
    kernel_rfl
  · have c' : ¬ (i : Int) < d := by omega
    have es : (i : Int) - d = ((i - d : Nat) : Int) := by omega
    have hl : ¬ ((i - d : Nat) : Int) < ((([] : List D).length : Nat) : Int) := by simp only [List.length_nil]; omega
    have e : enc ((Tm.var i).rs k d) = .tuple [.str "var", .int ((i : Int) - ((([] : List D).length : Nat) : Int) + (k : Int))] := by
      unfold Tm.rs
      rw [if_pos (by omega)]
      show PyData.tuple [.str "var", .int ((i + k : Nat) : Int)] = _
      have : ((i + k : Nat) : Int) = (i : Int) - ((([] : List D).length : Nat) : Int) + (k : Int) := by simp only [List.length_nil]; omega
      rw [this]
    rw [e]
    simp only [d__law_let, ev_v, ev_rd, ev_g, ev_k, ev_bin, ev_cmp, ev_chain, ev_andE, ev_orE, ev_nt, ev_ife, ev_tup, ev_lst, ev_ix, ev_sl, ev_call, ev_callk, ev_own, ev_b1, ev_b2, ev_isi, ev_gin, ev_gix, ss_nil, ss_cons, ex_asg, ex_par, ex_ife, ex_ret, setTg_n, Es.ev, T.tst, I.ev, two_none, two_some, isRd, rdZ, vZ, List.getElem?_cons_zero, List.getElem?_cons_succ, R.bind_ok, ixF_fz, ixT, at0, at1, at2, ofD_some, liftO_some, nonBw_w, cmpT_fz, Z.dat_fz, Fl.of_ok, dc1, dc2, dc3, dc4, dca1, dca2, dca3, dca4, dcaO1, dcaO2, po1, po2, po3, po4, io_fz, wdat, tup0, tup1, tup2, tup3, tup4, lst0, lst1, lst3, enc, eq_str, ok_var, ok_num, q0, Bool.and_self, if_true, BEq.rfl, cmp_lt, decide_eq_false c', Bool.false_eq_true, if_false, Fl.then_nx, binF_fz, subI, ofO_some, es, List.set_cons_succ, List.set_cons_zero, b1_lenT, decide_eq_false hl] <;> rfl
theorem let_step {n : Nat} (r : D) (k l m : Nat) (hd : Str) (ts rs : List D) (hok : PyData.strOk hd = true) (hv : (hd == "var") = false) (hn : (hd == "num") = false) (hm : m = if (hd == "fun") = true then l + 1 else l) (hl : ts.length ≤ 10) (hle : ts.length = rs.length)
    (hk : callN tab g fuel n "_law_kids" [.fz (.tuple (.str hd :: ts))] = .ret (.fz (.tuple ts)) []) (hr : ∀ d e, (d, e) ∈ ts.zip rs → callN tab g fuel n "_law_let" [.fz d, .fz r, .fz (.int m), .fz (.int k)] = .ret (.fz e) []) :
    callN tab g fuel (n + 1) "_law_let" [.fz (.tuple (.str hd :: ts)), .fz r, .fz (.int l), .fz (.int k)] = .ret (.fz (.tuple (.str hd :: rs))) [] := by
  rw [e__law_let]
  have hm' : (l : Int) + (if (hd == "fun") = true then 1 else 0) = m := by
    rw [hm]
    split <;> simp
  have hlc : ∀ ρ, E.ev (callN tab g fuel n) g (.lc [("own", 5)] (.n 5) (.seq (.call "_law_kids" (.cons (.v 0) .nil))) .yes (.call "_law_let" (.cons (.v 5) (.cons (.v 1) (.cons (.bin .add (.rd 2) (.b1 .int (.cmp .eq (.ix (.rd 0) (.k (.int 0))) (.k (.str "fun"))))) (.cons (.v 3) .nil)))))) [some (.fz (.tuple (.str hd :: ts))), some (.fz r), some (.fz (.int l)), some (.fz (.int k)), none, ρ] =
      .ok (.w (.own (.l (rs.map .d)))) [some (.fz (.tuple (.str hd :: ts))), some (.fz r), some (.fz (.int l)), some (.fz (.int k)), none, none] := by
    intro ρ
    refine lc_map (ds := ts) (ρ := [some (.fz (.tuple (.str hd :: ts))), some (.fz r), some (.fz (.int l)), some (.fz (.int k)), none, ρ]) ?_ (by omega) (fun d e hde => ?_) (by rw [List.length_map]; exact hle)
    · simp only [ev_v, ev_rd, ev_g, ev_k, ev_bin, ev_cmp, ev_chain, ev_andE, ev_orE, ev_nt, ev_ife, ev_tup, ev_lst, ev_ix, ev_sl, ev_call, ev_callk, ev_own, ev_b1, ev_b2, ev_isi, ev_gin, ev_gix, ss_nil, ss_cons, ex_asg, ex_par, ex_ife, ex_ret, setTg_n, Es.ev, T.tst, I.ev, two_none, two_some, isRd, rdZ, vZ, List.getElem?_cons_zero, List.getElem?_cons_succ, R.bind_ok, ixF_fz, ixT, at0, at1, at2, ofD_some, liftO_some, nonBw_w, cmpT_fz, Z.dat_fz, Fl.of_ok, dc1, dc2, dc3, dc4, dca1, dca2, dca3, dca4, dcaO1, dcaO2, po1, po2, po3, po4, io_fz, wdat, tup0, tup1, tup2, tup3, tup4, lst0, lst1, lst3, hk] <;> rfl
    · obtain ⟨e', he, rfl⟩ : ∃ e', (d, e') ∈ ts.zip rs ∧ e = .d e' := by
        rw [List.zip_map_right] at hde
        obtain ⟨p, hp, hq⟩ := List.mem_map.mp hde
        cases hq
        exact ⟨p.2, hp, rfl⟩
      refine ⟨.fz e', ?_, rfl⟩
      simp only [ev_v, ev_rd, ev_g, ev_k, ev_bin, ev_cmp, ev_chain, ev_andE, ev_orE, ev_nt, ev_ife, ev_tup, ev_lst, ev_ix, ev_sl, ev_call, ev_callk, ev_own, ev_b1, ev_b2, ev_isi, ev_gin, ev_gix, ss_nil, ss_cons, ex_asg, ex_par, ex_ife, ex_ret, setTg_n, Es.ev, T.tst, I.ev, two_none, two_some, isRd, rdZ, vZ, List.getElem?_cons_zero, List.getElem?_cons_succ, R.bind_ok, ixF_fz, ixT, at0, at1, at2, ofD_some, liftO_some, nonBw_w, cmpT_fz, Z.dat_fz, Fl.of_ok, dc1, dc2, dc3, dc4, dca1, dca2, dca3, dca4, dcaO1, dcaO2, po1, po2, po3, po4, io_fz, wdat, tup0, tup1, tup2, tup3, tup4, lst0, lst1, lst3, List.set_cons_succ, List.set_cons_zero, cmpF_fz, eq_str, hok, ok_fun, Bool.and_self, if_true, map_bool, b1_int, binF_fz, addI, ofO_some, hm', hr d e' he] <;> rfl
  have ha := addT (xs := [.str hd]) (ys := rs) (by simp only [List.length_cons, List.length_nil]; omega)
  simp only [d__law_let, ev_v, ev_rd, ev_g, ev_k, ev_bin, ev_cmp, ev_chain, ev_andE, ev_orE, ev_nt, ev_ife, ev_tup, ev_lst, ev_ix, ev_sl, ev_call, ev_callk, ev_own, ev_b1, ev_b2, ev_isi, ev_gin, ev_gix, ss_nil, ss_cons, ex_asg, ex_par, ex_ife, ex_ret, setTg_n, Es.ev, T.tst, I.ev, two_none, two_some, isRd, rdZ, vZ, List.getElem?_cons_zero, List.getElem?_cons_succ, R.bind_ok, ixF_fz, ixT, at0, at1, at2, ofD_some, liftO_some, nonBw_w, cmpT_fz, Z.dat_fz, Fl.of_ok, dc1, dc2, dc3, dc4, dca1, dca2, dca3, dca4, dcaO1, dcaO2, po1, po2, po3, po4, io_fz, wdat, tup0, tup1, tup2, tup3, tup4, lst0, lst1, lst3, eq_str, ok_var, hok, ok_num, Bool.and_self, if_true, hv, hn, Bool.false_eq_true, if_false, Fl.then_nx, binF_fz, ofO_some, hlc, b1_tup, ha] <;> rfl
theorem let0_ok (k : Nat) : ∀ (t : Tm) (l n : Nat), t.ht + 1 ≤ n → callN tab g fuel n "_law_let" [.fz (enc t), .fz (.tuple []), .fz (.int l), .fz (.int k)] = .ret (.fz (enc (t.rs k l))) []
  | .var i, l, n, h => let_var0 l i k (by omega)
  | .num i, l, n, h => by
    obtain ⟨n, rfl⟩ : ∃ m, n = m + 1 := ⟨n - 1, by omega⟩
    rw [e__law_let]
    kernel_rfl
  | .fn a, l, n, h => by
    obtain ⟨n, rfl⟩ : ∃ m, n = m + 1 := ⟨n - 1, by omega⟩
    have h1 : a.ht + 0 + 1 ≤ n := by simp only [Tm.ht] at h; omega
    refine let_step (.tuple []) k l (l + 1) "fun" [enc a] [enc (a.rs k (l + 1))] (by decide +kernel) (by decide +kernel) (by decide +kernel) (by rw [if_pos (by decide +kernel)]) (by simp) rfl (kids_ok (.fn a) (by omega)) fun d e hm => ?_
    simp only [List.zip_cons_cons, List.zip_nil_right, List.mem_cons, List.not_mem_nil, or_false] at hm
    cases hm
    exact let0_ok k a (l + 1) n h1
  | .use a b, l, n, h => by
    obtain ⟨n, rfl⟩ : ∃ m, n = m + 1 := ⟨n - 1, by omega⟩
    have h1 : a.ht + 0 + 1 ≤ n := by simp only [Tm.ht] at h; omega
    have h2 : b.ht + 0 + 1 ≤ n := by simp only [Tm.ht] at h; omega
    refine let_step (.tuple []) k l l "use" [enc a, enc b] [enc (a.rs k l), enc (b.rs k l)] (by decide +kernel) (by decide +kernel) (by decide +kernel) (by rw [if_neg (by decide +kernel)]) (by simp) rfl (kids_ok (.use a b) (by omega)) fun d e hm => ?_
    simp only [List.zip_cons_cons, List.zip_nil_right, List.mem_cons, List.not_mem_nil, or_false] at hm
    rcases hm with hm | hm
    · cases hm; exact let0_ok k a l n h1
    · cases hm; exact let0_ok k b l n h2
  | .up a, l, n, h => by
    obtain ⟨n, rfl⟩ : ∃ m, n = m + 1 := ⟨n - 1, by omega⟩
    have h1 : a.ht + 0 + 1 ≤ n := by simp only [Tm.ht] at h; omega
    refine let_step (.tuple []) k l l "up" [enc a] [enc (a.rs k l)] (by decide +kernel) (by decide +kernel) (by decide +kernel) (by rw [if_neg (by decide +kernel)]) (by simp) rfl (kids_ok (.up a) (by omega)) fun d e hm => ?_
    simp only [List.zip_cons_cons, List.zip_nil_right, List.mem_cons, List.not_mem_nil, or_false] at hm
    cases hm
    exact let0_ok k a l n h1
  | .dn a, l, n, h => by
    obtain ⟨n, rfl⟩ : ∃ m, n = m + 1 := ⟨n - 1, by omega⟩
    have h1 : a.ht + 0 + 1 ≤ n := by simp only [Tm.ht] at h; omega
    refine let_step (.tuple []) k l l "down" [enc a] [enc (a.rs k l)] (by decide +kernel) (by decide +kernel) (by decide +kernel) (by rw [if_neg (by decide +kernel)]) (by simp) rfl (kids_ok (.dn a) (by omega)) fun d e hm => ?_
    simp only [List.zip_cons_cons, List.zip_nil_right, List.mem_cons, List.not_mem_nil, or_false] at hm
    cases hm
    exact let0_ok k a l n h1
  | .iff a b c, l, n, h => by
    obtain ⟨n, rfl⟩ : ∃ m, n = m + 1 := ⟨n - 1, by omega⟩
    have h1 : a.ht + 0 + 1 ≤ n := by simp only [Tm.ht] at h; omega
    have h2 : b.ht + 0 + 1 ≤ n := by simp only [Tm.ht] at h; omega
    have h3 : c.ht + 0 + 1 ≤ n := by simp only [Tm.ht] at h; omega
    refine let_step (.tuple []) k l l "if" [enc a, enc b, enc c] [enc (a.rs k l), enc (b.rs k l), enc (c.rs k l)] (by decide +kernel) (by decide +kernel) (by decide +kernel) (by rw [if_neg (by decide +kernel)]) (by simp) rfl (kids_ok (.iff a b c) (by omega)) fun d e hm => ?_
    simp only [List.zip_cons_cons, List.zip_nil_right, List.mem_cons, List.not_mem_nil, or_false] at hm
    rcases hm with hm | hm | hm
    · cases hm; exact let0_ok k a l n h1
    · cases hm; exact let0_ok k b l n h2
    · cases hm; exact let0_ok k c l n h3
theorem let_var {n : Nat} (row : List Tm) (d i b0 : Nat) (hR : ∀ t ∈ row, t.ht ≤ b0) (h : b0 + 2 ≤ n) : callN tab g fuel n "_law_let" [.fz (enc (.var i)), .fz (rowD row), .fz (.int d), .fz (.int 0)] = .ret (.fz (enc ((Tm.var i).lt row 0 d))) [] := by
  obtain ⟨n, rfl⟩ : ∃ m, n = m + 1 := ⟨n - 1, by omega⟩
  rw [e__law_let]
  have q0 : (("var" : Str) == "num") = false := by decide +kernel
  by_cases c : i < d
  · have c' : (i : Int) < d := by omega
    have e : enc ((Tm.var i).lt row 0 d) = enc (.var i) := by unfold Tm.lt; rw [if_pos c]
    rw [e]
    simp only [d__law_let, ev_v, ev_rd, ev_g, ev_k, ev_bin, ev_cmp, ev_chain, ev_andE, ev_orE, ev_nt, ev_ife, ev_tup, ev_lst, ev_ix, ev_sl, ev_call, ev_callk, ev_own, ev_b1, ev_b2, ev_isi, ev_gin, ev_gix, ss_nil, ss_cons, ex_asg, ex_par, ex_ife, ex_ret, setTg_n, Es.ev, T.tst, I.ev, two_none, two_some, isRd, rdZ, vZ, List.getElem?_cons_zero, List.getElem?_cons_succ, R.bind_ok, ixF_fz, ixT, at0, at1, at2, ofD_some, liftO_some, nonBw_w, cmpT_fz, Z.dat_fz, Fl.of_ok, dc1, dc2, dc3, dc4, dca1, dca2, dca3, dca4, dcaO1, dcaO2, po1, po2, po3, po4, io_fz, wdat, tup0, tup1, tup2, tup3, tup4, lst0, lst1, lst3, enc, eq_str, ok_var, ok_num, q0, Bool.and_self, if_true, BEq.rfl, cmp_lt, decide_eq_true c', Bool.false_eq_true, if_false]
    kernel_rfl
  · have c' : ¬ (i : Int) < d := by omega
    have es : (i : Int) - d = ((i - d : Nat) : Int) := by omega
    cases q : row[i - d]? with
    | some t =>
      have hm := List.mem_of_getElem? q
      have hlt : i - d < row.length := (List.getElem?_eq_some_iff.mp q).1
      have hl : ((i - d : Nat) : Int) < ((row.map enc).length : Int) := by rw [List.length_map]; omega
      have hx : (row.map enc)[i - d]? = some (enc t) := by rw [List.getElem?_map, q]; rfl
      have e : enc ((Tm.var i).lt row 0 d) = enc (t.rs d 0) := by unfold Tm.lt; rw [if_neg c, q]
      have hc := let0_ok d t 0 n (by have := hR t hm; omega)
      have z : ((0 : Nat) : Int) = 0 := rfl
      rw [z] at hc
      rw [e]
      simp only [d__law_let, rowD, ev_v, ev_rd, ev_g, ev_k, ev_bin, ev_cmp, ev_chain, ev_andE, ev_orE, ev_nt, ev_ife, ev_tup, ev_lst, ev_ix, ev_sl, ev_call, ev_callk, ev_own, ev_b1, ev_b2, ev_isi, ev_gin, ev_gix, ss_nil, ss_cons, ex_asg, ex_par, ex_ife, ex_ret, setTg_n, Es.ev, T.tst, I.ev, two_none, two_some, isRd, rdZ, vZ, List.getElem?_cons_zero, List.getElem?_cons_succ, R.bind_ok, ixF_fz, ixT, at0, at1, at2, ofD_some, liftO_some, nonBw_w, cmpT_fz, Z.dat_fz, Fl.of_ok, dc1, dc2, dc3, dc4, dca1, dca2, dca3, dca4, dcaO1, dcaO2, po1, po2, po3, po4, io_fz, wdat, tup0, tup1, tup2, tup3, tup4, lst0, lst1, lst3, enc, eq_str, ok_var, ok_num, q0, Bool.and_self, if_true, BEq.rfl, cmp_lt, decide_eq_false c', Bool.false_eq_true, if_false, Fl.then_nx, binF_fz, subI, ofO_some, es, List.set_cons_succ, List.set_cons_zero, b1_lenT, decide_eq_true hl, atN, hx, hc] <;> rfl
    | none =>
      have hge : row.length ≤ i - d := List.getElem?_eq_none_iff.mp q
      have hl : ¬ ((i - d : Nat) : Int) < ((row.map enc).length : Int) := by rw [List.length_map]; omega
      have e : enc ((Tm.var i).lt row 0 d) = .tuple [.str "var", .int ((i : Int) - ((row.map enc).length : Int) + 0)] := by
        unfold Tm.lt
        rw [if_neg c, q]
        show PyData.tuple [.str "var", .int (((i - row.length + 0 : Nat)) : Int)] = _
        rw [List.length_map]
        have : ((i - row.length + 0 : Nat) : Int) = (i : Int) - (row.length : Int) + 0 := by omega
        rw [this]
      rw [e]
      simp only [d__law_let, rowD, ev_v, ev_rd, ev_g, ev_k, ev_bin, ev_cmp, ev_chain, ev_andE, ev_orE, ev_nt, ev_ife, ev_tup, ev_lst, ev_ix, ev_sl, ev_call, ev_callk, ev_own, ev_b1, ev_b2, ev_isi, ev_gin, ev_gix, ss_nil, ss_cons, ex_asg, ex_par, ex_ife, ex_ret, setTg_n, Es.ev, T.tst, I.ev, two_none, two_some, isRd, rdZ, vZ, List.getElem?_cons_zero, List.getElem?_cons_succ, R.bind_ok, ixF_fz, ixT, at0, at1, at2, ofD_some, liftO_some, nonBw_w, cmpT_fz, Z.dat_fz, Fl.of_ok, dc1, dc2, dc3, dc4, dca1, dca2, dca3, dca4, dcaO1, dcaO2, po1, po2, po3, po4, io_fz, wdat, tup0, tup1, tup2, tup3, tup4, lst0, lst1, lst3, enc, eq_str, ok_var, ok_num, q0, Bool.and_self, if_true, BEq.rfl, cmp_lt, decide_eq_false c', Bool.false_eq_true, if_false, Fl.then_nx, binF_fz, subI, ofO_some, es, List.set_cons_succ, List.set_cons_zero, b1_lenT, decide_eq_false hl] <;> rfl
theorem let_ok (row : List Tm) (b0 : Nat) (hR : ∀ t ∈ row, t.ht ≤ b0) : ∀ (t : Tm) (l n : Nat), t.ht + b0 + 1 ≤ n → callN tab g fuel n "_law_let" [.fz (enc t), .fz (rowD row), .fz (.int l), .fz (.int 0)] = .ret (.fz (enc (t.lt row 0 l))) []
  | .var i, l, n, h => let_var row l i b0 hR (by simp only [Tm.ht] at h; omega)
  | .num i, l, n, h => by
    obtain ⟨n, rfl⟩ : ∃ m, n = m + 1 := ⟨n - 1, by omega⟩
    rw [e__law_let]
    kernel_rfl
  | .fn a, l, n, h => by
    obtain ⟨n, rfl⟩ : ∃ m, n = m + 1 := ⟨n - 1, by omega⟩
    have h1 : a.ht + b0 + 1 ≤ n := by simp only [Tm.ht] at h; omega
    refine let_step (rowD row) 0 l (l + 1) "fun" [enc a] [enc (a.lt row 0 (l + 1))] (by decide +kernel) (by decide +kernel) (by decide +kernel) (by rw [if_pos (by decide +kernel)]) (by simp) rfl (kids_ok (.fn a) (by omega)) fun d e hm => ?_
    simp only [List.zip_cons_cons, List.zip_nil_right, List.mem_cons, List.not_mem_nil, or_false] at hm
    cases hm
    exact let_ok row b0 hR a (l + 1) n h1
  | .use a b, l, n, h => by
    obtain ⟨n, rfl⟩ : ∃ m, n = m + 1 := ⟨n - 1, by omega⟩
    have h1 : a.ht + b0 + 1 ≤ n := by simp only [Tm.ht] at h; omega
    have h2 : b.ht + b0 + 1 ≤ n := by simp only [Tm.ht] at h; omega
    refine let_step (rowD row) 0 l l "use" [enc a, enc b] [enc (a.lt row 0 l), enc (b.lt row 0 l)] (by decide +kernel) (by decide +kernel) (by decide +kernel) (by rw [if_neg (by decide +kernel)]) (by simp) rfl (kids_ok (.use a b) (by omega)) fun d e hm => ?_
    simp only [List.zip_cons_cons, List.zip_nil_right, List.mem_cons, List.not_mem_nil, or_false] at hm
    rcases hm with hm | hm
    · cases hm; exact let_ok row b0 hR a l n h1
    · cases hm; exact let_ok row b0 hR b l n h2
  | .up a, l, n, h => by
    obtain ⟨n, rfl⟩ : ∃ m, n = m + 1 := ⟨n - 1, by omega⟩
    have h1 : a.ht + b0 + 1 ≤ n := by simp only [Tm.ht] at h; omega
    refine let_step (rowD row) 0 l l "up" [enc a] [enc (a.lt row 0 l)] (by decide +kernel) (by decide +kernel) (by decide +kernel) (by rw [if_neg (by decide +kernel)]) (by simp) rfl (kids_ok (.up a) (by omega)) fun d e hm => ?_
    simp only [List.zip_cons_cons, List.zip_nil_right, List.mem_cons, List.not_mem_nil, or_false] at hm
    cases hm
    exact let_ok row b0 hR a l n h1
  | .dn a, l, n, h => by
    obtain ⟨n, rfl⟩ : ∃ m, n = m + 1 := ⟨n - 1, by omega⟩
    have h1 : a.ht + b0 + 1 ≤ n := by simp only [Tm.ht] at h; omega
    refine let_step (rowD row) 0 l l "down" [enc a] [enc (a.lt row 0 l)] (by decide +kernel) (by decide +kernel) (by decide +kernel) (by rw [if_neg (by decide +kernel)]) (by simp) rfl (kids_ok (.dn a) (by omega)) fun d e hm => ?_
    simp only [List.zip_cons_cons, List.zip_nil_right, List.mem_cons, List.not_mem_nil, or_false] at hm
    cases hm
    exact let_ok row b0 hR a l n h1
  | .iff a b c, l, n, h => by
    obtain ⟨n, rfl⟩ : ∃ m, n = m + 1 := ⟨n - 1, by omega⟩
    have h1 : a.ht + b0 + 1 ≤ n := by simp only [Tm.ht] at h; omega
    have h2 : b.ht + b0 + 1 ≤ n := by simp only [Tm.ht] at h; omega
    have h3 : c.ht + b0 + 1 ≤ n := by simp only [Tm.ht] at h; omega
    refine let_step (rowD row) 0 l l "if" [enc a, enc b, enc c] [enc (a.lt row 0 l), enc (b.lt row 0 l), enc (c.lt row 0 l)] (by decide +kernel) (by decide +kernel) (by decide +kernel) (by rw [if_neg (by decide +kernel)]) (by simp) rfl (kids_ok (.iff a b c) (by omega)) fun d e hm => ?_
    simp only [List.zip_cons_cons, List.zip_nil_right, List.mem_cons, List.not_mem_nil, or_false] at hm
    rcases hm with hm | hm | hm
    · cases hm; exact let_ok row b0 hR a l n h1
    · cases hm; exact let_ok row b0 hR b l n h2
    · cases hm; exact let_ok row b0 hR c l n h3
theorem isi_tup (xs : List D) (ρ : Co.Env) : isiF [.tuple] (.tuple xs) ρ = .ok (.w (.fz (.bool true))) ρ := rfl
theorem isi_str (x : Str) (ρ : Co.Env) : isiF [.str] (.str x) ρ = .ok (.w (.fz (.bool true))) ρ := rfl
theorem len2 (a b : D) : (([a, b].length : Nat) : Int) = 2 := rfl
theorem len3 (a b c : D) : (([a, b, c].length : Nat) : Int) = 3 := rfl
theorem len4 (a b c d : D) : (([a, b, c, d].length : Nat) : Int) = 4 := rfl
theorem trB (b : Bool) : truD (.bool b) = some b := rfl
theorem lay_enc : ∀ t : Tm, (enc t).canLay0 = true
  | .var i => by kernel_rfl
  | .num i => by kernel_rfl
  | .fn a => by
    have h := lay_enc a
    show (PyData.strOk "fun" && ((enc a).canLay0 && true)) = true
    rw [h]; decide +kernel
  | .use a b => by
    have h := lay_enc a
    have h2 := lay_enc b
    show (PyData.strOk "use" && ((enc a).canLay0 && ((enc b).canLay0 && true))) = true
    rw [h, h2]; decide +kernel
  | .up a => by
    have h := lay_enc a
    show (PyData.strOk "up" && ((enc a).canLay0 && true)) = true
    rw [h]; decide +kernel
  | .dn a => by
    have h := lay_enc a
    show (PyData.strOk "down" && ((enc a).canLay0 && true)) = true
    rw [h]; decide +kernel
  | .iff a b c => by
    have h := lay_enc a
    have h2 := lay_enc b
    have h3 := lay_enc c
    show (PyData.strOk "if" && ((enc a).canLay0 && ((enc b).canLay0 && ((enc c).canLay0 && true)))) = true
    rw [h, h2, h3]; decide +kernel
theorem eq_nil (t : Tm) : cmpD .eq (enc t) (.tuple []) = some false := by
  show (if eqOk (enc t) (.tuple []) then some (PyData.eqv (enc t) (.tuple [])) else none) = _
  have hd : eqOk (enc t) (.tuple []) = true := by
    unfold eqOk
    rw [lay_enc]
    have : min (enc t).depth (PyData.tuple []).depth ≤ 64 := by
      have : (PyData.tuple []).depth ≤ 64 := by decide +kernel
      omega
    rw [decide_eq_true this]
    rfl
  rw [hd]
  cases t <;> rfl
theorem gin_var (ρ : Co.Env) : ginT g "CHILDREN" true (.str "var") ρ = .ok false ρ := by kernel_rfl
theorem gin_num (ρ : Co.Env) : ginT g "CHILDREN" true (.str "num") ρ = .ok false ρ := by kernel_rfl
theorem gin_fun (ρ : Co.Env) : ginT g "CHILDREN" true (.str "fun") ρ = .ok false ρ := by kernel_rfl
theorem gin_use (ρ : Co.Env) : ginT g "CHILDREN" true (.str "use") ρ = .ok false ρ := by kernel_rfl
theorem gin_up (ρ : Co.Env) : ginT g "CHILDREN" true (.str "up") ρ = .ok false ρ := by kernel_rfl
theorem gin_down (ρ : Co.Env) : ginT g "CHILDREN" true (.str "down") ρ = .ok false ρ := by kernel_rfl
theorem gin_if (ρ : Co.Env) : ginT g "CHILDREN" true (.str "if") ρ = .ok false ρ := by kernel_rfl
theorem gix_var (ρ : Co.Env) : gixF g "CHILDREN" (.str "var") ρ = .ok (.w (.fz (.int 0))) ρ := by kernel_rfl
theorem gix_num (ρ : Co.Env) : gixF g "CHILDREN" (.str "num") ρ = .ok (.w (.fz (.int 0))) ρ := by kernel_rfl
theorem gix_fun (ρ : Co.Env) : gixF g "CHILDREN" (.str "fun") ρ = .ok (.w (.fz (.int 1))) ρ := by kernel_rfl
theorem gix_use (ρ : Co.Env) : gixF g "CHILDREN" (.str "use") ρ = .ok (.w (.fz (.int 2))) ρ := by kernel_rfl
theorem gix_up (ρ : Co.Env) : gixF g "CHILDREN" (.str "up") ρ = .ok (.w (.fz (.int 1))) ρ := by kernel_rfl
theorem gix_down (ρ : Co.Env) : gixF g "CHILDREN" (.str "down") ρ = .ok (.w (.fz (.int 1))) ρ := by kernel_rfl
theorem gix_if (ρ : Co.Env) : gixF g "CHILDREN" (.str "if") ρ = .ok (.w (.fz (.int 3))) ρ := by kernel_rfl
theorem eq_int (i j : Int) : cmpD .eq (.int i) (.int j) = some (i == j) := by
  show (if eqOk (.int i) (.int j) then some (PyData.eqv (.int i) (.int j)) else none) = _
  have : eqOk (.int i) (.int j) = true := by
    show decide (min (PyData.depth (.int i)) (PyData.depth (.int j)) ≤ 64) = true
    exact decide_eq_true (by simp [PyData.depth])
  rw [this]; rfl
theorem is_term_ok : ∀ (t : Tm) (n : Nat), t.ht + 2 ≤ n → callN tab g fuel n "is_term_in" [.fz (enc t)] = .ret (.fz (.bool true)) []
  | .var i, n, h => by
    obtain ⟨n, rfl⟩ : ∃ m, n = m + 1 := ⟨n - 1, by omega⟩
    have hc := is_from_0 i (n := n) (by simp only [Tm.ht] at h; omega)
    have he := eq_nil (.var i)
    simp only [enc] at he
    rw [e_is_term_in]
    simp only [d_is_term_in, ev_v, ev_rd, ev_g, ev_k, ev_bin, ev_cmp, ev_chain, ev_andE, ev_orE, ev_nt, ev_ife, ev_tup, ev_lst, ev_ix, ev_sl, ev_call, ev_callk, ev_own, ev_b1, ev_b2, ev_isi, ev_gin, ev_gix, ss_nil, ss_cons, ex_asg, ex_par, ex_ife, ex_ret, setTg_n, Es.ev, T.tst, I.ev, two_none, two_some, isRd, rdZ, vZ, List.getElem?_cons_zero, List.getElem?_cons_succ, R.bind_ok, ixF_fz, ixT, at0, at1, at2, ofD_some, liftO_some, nonBw_w, cmpT_fz, Z.dat_fz, Fl.of_ok, dc1, dc2, dc3, dc4, dca1, dca2, dca3, dca4, dcaO1, dcaO2, po1, po2, po3, po4, io_fz, wdat, tup0, tup1, tup2, tup3, tup4, lst0, lst1, lst3, enc, isi_tup, isi_str, trB, Bool.not_true, Bool.false_eq_true, if_false, he, gin_var, gix_var, Fl.then_nx, List.set_cons_succ, List.set_cons_zero, eq_int, BEq.rfl, if_true, b1_lenT, len2, cmpF_fz, map_bool, truD, BEq.rfl, hc]
    kernel_rfl
  | .num i, n, h => by
    obtain ⟨n, rfl⟩ : ∃ m, n = m + 1 := ⟨n - 1, by omega⟩
    have hc := is_from_0 i (n := n) (by simp only [Tm.ht] at h; omega)
    have he := eq_nil (.num i)
    simp only [enc] at he
    rw [e_is_term_in]
    simp only [d_is_term_in, ev_v, ev_rd, ev_g, ev_k, ev_bin, ev_cmp, ev_chain, ev_andE, ev_orE, ev_nt, ev_ife, ev_tup, ev_lst, ev_ix, ev_sl, ev_call, ev_callk, ev_own, ev_b1, ev_b2, ev_isi, ev_gin, ev_gix, ss_nil, ss_cons, ex_asg, ex_par, ex_ife, ex_ret, setTg_n, Es.ev, T.tst, I.ev, two_none, two_some, isRd, rdZ, vZ, List.getElem?_cons_zero, List.getElem?_cons_succ, R.bind_ok, ixF_fz, ixT, at0, at1, at2, ofD_some, liftO_some, nonBw_w, cmpT_fz, Z.dat_fz, Fl.of_ok, dc1, dc2, dc3, dc4, dca1, dca2, dca3, dca4, dcaO1, dcaO2, po1, po2, po3, po4, io_fz, wdat, tup0, tup1, tup2, tup3, tup4, lst0, lst1, lst3, enc, isi_tup, isi_str, trB, Bool.not_true, Bool.false_eq_true, if_false, he, gin_num, gix_num, Fl.then_nx, List.set_cons_succ, List.set_cons_zero, eq_int, BEq.rfl, if_true, b1_lenT, len2, cmpF_fz, map_bool, truD, BEq.rfl, hc]
    kernel_rfl
  | .fn a, n, h => by
    obtain ⟨n, rfl⟩ : ∃ m, n = m + 1 := ⟨n - 1, by omega⟩
    have h1 := is_term_ok a n (by simp only [Tm.ht] at h; omega)
    have he := eq_nil (.fn a)
    simp only [enc] at he
    have hlc : ∀ ρ, E.ev (callN tab g fuel n) g (.lc [("own", 2)] (.n 2) (.seq (.sl (.rd 0) (.k (.int 1)) (.k .none))) .yes (.call "is_term_in" (.cons (.v 2) .nil))) [some (.fz (PyData.tuple [.str "fun", enc a])), some (.fz (.int 1)), ρ] =
        .ok (.w (.own (.l [.d (.bool true)]))) [some (.fz (PyData.tuple [.str "fun", enc a])), some (.fz (.int 1)), none] := by
      intro ρ
      refine lc_map (ds := [enc a]) (ρ := [some (.fz (PyData.tuple [.str "fun", enc a])), some (.fz (.int 1)), ρ]) ?_ (by simp) (fun d e hde => ?_) rfl
      · kernel_rfl
      · simp only [List.zip_cons_cons, List.zip_nil_right, List.mem_cons, List.not_mem_nil, or_false] at hde
        cases hde
        refine ⟨.fz (.bool true), ?_, rfl⟩
        simp only [ev_v, ev_rd, ev_g, ev_k, ev_bin, ev_cmp, ev_chain, ev_andE, ev_orE, ev_nt, ev_ife, ev_tup, ev_lst, ev_ix, ev_sl, ev_call, ev_callk, ev_own, ev_b1, ev_b2, ev_isi, ev_gin, ev_gix, ss_nil, ss_cons, ex_asg, ex_par, ex_ife, ex_ret, setTg_n, Es.ev, T.tst, I.ev, two_none, two_some, isRd, rdZ, vZ, List.getElem?_cons_zero, List.getElem?_cons_succ, R.bind_ok, ixF_fz, ixT, at0, at1, at2, ofD_some, liftO_some, nonBw_w, cmpT_fz, Z.dat_fz, Fl.of_ok, dc1, dc2, dc3, dc4, dca1, dca2, dca3, dca4, dcaO1, dcaO2, po1, po2, po3, po4, io_fz, wdat, tup0, tup1, tup2, tup3, tup4, lst0, lst1, lst3, List.set_cons_succ, List.set_cons_zero, h1] <;> rfl
    have hz : ((1 : Int) == 0) = false := by decide
    rw [e_is_term_in]
    simp only [d_is_term_in, ev_v, ev_rd, ev_g, ev_k, ev_bin, ev_cmp, ev_chain, ev_andE, ev_orE, ev_nt, ev_ife, ev_tup, ev_lst, ev_ix, ev_sl, ev_call, ev_callk, ev_own, ev_b1, ev_b2, ev_isi, ev_gin, ev_gix, ss_nil, ss_cons, ex_asg, ex_par, ex_ife, ex_ret, setTg_n, Es.ev, T.tst, I.ev, two_none, two_some, isRd, rdZ, vZ, List.getElem?_cons_zero, List.getElem?_cons_succ, R.bind_ok, ixF_fz, ixT, at0, at1, at2, ofD_some, liftO_some, nonBw_w, cmpT_fz, Z.dat_fz, Fl.of_ok, dc1, dc2, dc3, dc4, dca1, dca2, dca3, dca4, dcaO1, dcaO2, po1, po2, po3, po4, io_fz, wdat, tup0, tup1, tup2, tup3, tup4, lst0, lst1, lst3, enc, isi_tup, isi_str, trB, Bool.not_true, Bool.false_eq_true, if_false, he, gin_fun, gix_fun, Fl.then_nx, List.set_cons_succ, List.set_cons_zero, eq_int, hz, b1_lenT, cmpF_fz, map_bool, binF_fz, addI, ofO_some, hlc]
    kernel_rfl
  | .use a b, n, h => by
    obtain ⟨n, rfl⟩ : ∃ m, n = m + 1 := ⟨n - 1, by omega⟩
    have h1 := is_term_ok a n (by simp only [Tm.ht] at h; omega)
    have h2 := is_term_ok b n (by simp only [Tm.ht] at h; omega)
    have he := eq_nil (.use a b)
    simp only [enc] at he
    have hlc : ∀ ρ, E.ev (callN tab g fuel n) g (.lc [("own", 2)] (.n 2) (.seq (.sl (.rd 0) (.k (.int 1)) (.k .none))) .yes (.call "is_term_in" (.cons (.v 2) .nil))) [some (.fz (PyData.tuple [.str "use", enc a, enc b])), some (.fz (.int 2)), ρ] =
        .ok (.w (.own (.l [.d (.bool true), .d (.bool true)]))) [some (.fz (PyData.tuple [.str "use", enc a, enc b])), some (.fz (.int 2)), none] := by
      intro ρ
      refine lc_map (ds := [enc a, enc b]) (ρ := [some (.fz (PyData.tuple [.str "use", enc a, enc b])), some (.fz (.int 2)), ρ]) ?_ (by simp) (fun d e hde => ?_) rfl
      · kernel_rfl
      · simp only [List.zip_cons_cons, List.zip_nil_right, List.mem_cons, List.not_mem_nil, or_false] at hde
        rcases hde with hde | hde
        · cases hde
          refine ⟨.fz (.bool true), ?_, rfl⟩
          simp only [ev_v, ev_rd, ev_g, ev_k, ev_bin, ev_cmp, ev_chain, ev_andE, ev_orE, ev_nt, ev_ife, ev_tup, ev_lst, ev_ix, ev_sl, ev_call, ev_callk, ev_own, ev_b1, ev_b2, ev_isi, ev_gin, ev_gix, ss_nil, ss_cons, ex_asg, ex_par, ex_ife, ex_ret, setTg_n, Es.ev, T.tst, I.ev, two_none, two_some, isRd, rdZ, vZ, List.getElem?_cons_zero, List.getElem?_cons_succ, R.bind_ok, ixF_fz, ixT, at0, at1, at2, ofD_some, liftO_some, nonBw_w, cmpT_fz, Z.dat_fz, Fl.of_ok, dc1, dc2, dc3, dc4, dca1, dca2, dca3, dca4, dcaO1, dcaO2, po1, po2, po3, po4, io_fz, wdat, tup0, tup1, tup2, tup3, tup4, lst0, lst1, lst3, List.set_cons_succ, List.set_cons_zero, h1] <;> rfl
        · cases hde
          refine ⟨.fz (.bool true), ?_, rfl⟩
          simp only [ev_v, ev_rd, ev_g, ev_k, ev_bin, ev_cmp, ev_chain, ev_andE, ev_orE, ev_nt, ev_ife, ev_tup, ev_lst, ev_ix, ev_sl, ev_call, ev_callk, ev_own, ev_b1, ev_b2, ev_isi, ev_gin, ev_gix, ss_nil, ss_cons, ex_asg, ex_par, ex_ife, ex_ret, setTg_n, Es.ev, T.tst, I.ev, two_none, two_some, isRd, rdZ, vZ, List.getElem?_cons_zero, List.getElem?_cons_succ, R.bind_ok, ixF_fz, ixT, at0, at1, at2, ofD_some, liftO_some, nonBw_w, cmpT_fz, Z.dat_fz, Fl.of_ok, dc1, dc2, dc3, dc4, dca1, dca2, dca3, dca4, dcaO1, dcaO2, po1, po2, po3, po4, io_fz, wdat, tup0, tup1, tup2, tup3, tup4, lst0, lst1, lst3, List.set_cons_succ, List.set_cons_zero, h2] <;> rfl
    have hz : ((2 : Int) == 0) = false := by decide
    rw [e_is_term_in]
    simp only [d_is_term_in, ev_v, ev_rd, ev_g, ev_k, ev_bin, ev_cmp, ev_chain, ev_andE, ev_orE, ev_nt, ev_ife, ev_tup, ev_lst, ev_ix, ev_sl, ev_call, ev_callk, ev_own, ev_b1, ev_b2, ev_isi, ev_gin, ev_gix, ss_nil, ss_cons, ex_asg, ex_par, ex_ife, ex_ret, setTg_n, Es.ev, T.tst, I.ev, two_none, two_some, isRd, rdZ, vZ, List.getElem?_cons_zero, List.getElem?_cons_succ, R.bind_ok, ixF_fz, ixT, at0, at1, at2, ofD_some, liftO_some, nonBw_w, cmpT_fz, Z.dat_fz, Fl.of_ok, dc1, dc2, dc3, dc4, dca1, dca2, dca3, dca4, dcaO1, dcaO2, po1, po2, po3, po4, io_fz, wdat, tup0, tup1, tup2, tup3, tup4, lst0, lst1, lst3, enc, isi_tup, isi_str, trB, Bool.not_true, Bool.false_eq_true, if_false, he, gin_use, gix_use, Fl.then_nx, List.set_cons_succ, List.set_cons_zero, eq_int, hz, b1_lenT, cmpF_fz, map_bool, binF_fz, addI, ofO_some, hlc]
    kernel_rfl
  | .up a, n, h => by
    obtain ⟨n, rfl⟩ : ∃ m, n = m + 1 := ⟨n - 1, by omega⟩
    have h1 := is_term_ok a n (by simp only [Tm.ht] at h; omega)
    have he := eq_nil (.up a)
    simp only [enc] at he
    have hlc : ∀ ρ, E.ev (callN tab g fuel n) g (.lc [("own", 2)] (.n 2) (.seq (.sl (.rd 0) (.k (.int 1)) (.k .none))) .yes (.call "is_term_in" (.cons (.v 2) .nil))) [some (.fz (PyData.tuple [.str "up", enc a])), some (.fz (.int 1)), ρ] =
        .ok (.w (.own (.l [.d (.bool true)]))) [some (.fz (PyData.tuple [.str "up", enc a])), some (.fz (.int 1)), none] := by
      intro ρ
      refine lc_map (ds := [enc a]) (ρ := [some (.fz (PyData.tuple [.str "up", enc a])), some (.fz (.int 1)), ρ]) ?_ (by simp) (fun d e hde => ?_) rfl
      · kernel_rfl
      · simp only [List.zip_cons_cons, List.zip_nil_right, List.mem_cons, List.not_mem_nil, or_false] at hde
        cases hde
        refine ⟨.fz (.bool true), ?_, rfl⟩
        simp only [ev_v, ev_rd, ev_g, ev_k, ev_bin, ev_cmp, ev_chain, ev_andE, ev_orE, ev_nt, ev_ife, ev_tup, ev_lst, ev_ix, ev_sl, ev_call, ev_callk, ev_own, ev_b1, ev_b2, ev_isi, ev_gin, ev_gix, ss_nil, ss_cons, ex_asg, ex_par, ex_ife, ex_ret, setTg_n, Es.ev, T.tst, I.ev, two_none, two_some, isRd, rdZ, vZ, List.getElem?_cons_zero, List.getElem?_cons_succ, R.bind_ok, ixF_fz, ixT, at0, at1, at2, ofD_some, liftO_some, nonBw_w, cmpT_fz, Z.dat_fz, Fl.of_ok, dc1, dc2, dc3, dc4, dca1, dca2, dca3, dca4, dcaO1, dcaO2, po1, po2, po3, po4, io_fz, wdat, tup0, tup1, tup2, tup3, tup4, lst0, lst1, lst3, List.set_cons_succ, List.set_cons_zero, h1] <;> rfl
    have hz : ((1 : Int) == 0) = false := by decide
    rw [e_is_term_in]
    simp only [d_is_term_in, ev_v, ev_rd, ev_g, ev_k, ev_bin, ev_cmp, ev_chain, ev_andE, ev_orE, ev_nt, ev_ife, ev_tup, ev_lst, ev_ix, ev_sl, ev_call, ev_callk, ev_own, ev_b1, ev_b2, ev_isi, ev_gin, ev_gix, ss_nil, ss_cons, ex_asg, ex_par, ex_ife, ex_ret, setTg_n, Es.ev, T.tst, I.ev, two_none, two_some, isRd, rdZ, vZ, List.getElem?_cons_zero, List.getElem?_cons_succ, R.bind_ok, ixF_fz, ixT, at0, at1, at2, ofD_some, liftO_some, nonBw_w, cmpT_fz, Z.dat_fz, Fl.of_ok, dc1, dc2, dc3, dc4, dca1, dca2, dca3, dca4, dcaO1, dcaO2, po1, po2, po3, po4, io_fz, wdat, tup0, tup1, tup2, tup3, tup4, lst0, lst1, lst3, enc, isi_tup, isi_str, trB, Bool.not_true, Bool.false_eq_true, if_false, he, gin_up, gix_up, Fl.then_nx, List.set_cons_succ, List.set_cons_zero, eq_int, hz, b1_lenT, cmpF_fz, map_bool, binF_fz, addI, ofO_some, hlc]
    kernel_rfl
  | .dn a, n, h => by
    obtain ⟨n, rfl⟩ : ∃ m, n = m + 1 := ⟨n - 1, by omega⟩
    have h1 := is_term_ok a n (by simp only [Tm.ht] at h; omega)
    have he := eq_nil (.dn a)
    simp only [enc] at he
    have hlc : ∀ ρ, E.ev (callN tab g fuel n) g (.lc [("own", 2)] (.n 2) (.seq (.sl (.rd 0) (.k (.int 1)) (.k .none))) .yes (.call "is_term_in" (.cons (.v 2) .nil))) [some (.fz (PyData.tuple [.str "down", enc a])), some (.fz (.int 1)), ρ] =
        .ok (.w (.own (.l [.d (.bool true)]))) [some (.fz (PyData.tuple [.str "down", enc a])), some (.fz (.int 1)), none] := by
      intro ρ
      refine lc_map (ds := [enc a]) (ρ := [some (.fz (PyData.tuple [.str "down", enc a])), some (.fz (.int 1)), ρ]) ?_ (by simp) (fun d e hde => ?_) rfl
      · kernel_rfl
      · simp only [List.zip_cons_cons, List.zip_nil_right, List.mem_cons, List.not_mem_nil, or_false] at hde
        cases hde
        refine ⟨.fz (.bool true), ?_, rfl⟩
        simp only [ev_v, ev_rd, ev_g, ev_k, ev_bin, ev_cmp, ev_chain, ev_andE, ev_orE, ev_nt, ev_ife, ev_tup, ev_lst, ev_ix, ev_sl, ev_call, ev_callk, ev_own, ev_b1, ev_b2, ev_isi, ev_gin, ev_gix, ss_nil, ss_cons, ex_asg, ex_par, ex_ife, ex_ret, setTg_n, Es.ev, T.tst, I.ev, two_none, two_some, isRd, rdZ, vZ, List.getElem?_cons_zero, List.getElem?_cons_succ, R.bind_ok, ixF_fz, ixT, at0, at1, at2, ofD_some, liftO_some, nonBw_w, cmpT_fz, Z.dat_fz, Fl.of_ok, dc1, dc2, dc3, dc4, dca1, dca2, dca3, dca4, dcaO1, dcaO2, po1, po2, po3, po4, io_fz, wdat, tup0, tup1, tup2, tup3, tup4, lst0, lst1, lst3, List.set_cons_succ, List.set_cons_zero, h1] <;> rfl
    have hz : ((1 : Int) == 0) = false := by decide
    rw [e_is_term_in]
    simp only [d_is_term_in, ev_v, ev_rd, ev_g, ev_k, ev_bin, ev_cmp, ev_chain, ev_andE, ev_orE, ev_nt, ev_ife, ev_tup, ev_lst, ev_ix, ev_sl, ev_call, ev_callk, ev_own, ev_b1, ev_b2, ev_isi, ev_gin, ev_gix, ss_nil, ss_cons, ex_asg, ex_par, ex_ife, ex_ret, setTg_n, Es.ev, T.tst, I.ev, two_none, two_some, isRd, rdZ, vZ, List.getElem?_cons_zero, List.getElem?_cons_succ, R.bind_ok, ixF_fz, ixT, at0, at1, at2, ofD_some, liftO_some, nonBw_w, cmpT_fz, Z.dat_fz, Fl.of_ok, dc1, dc2, dc3, dc4, dca1, dca2, dca3, dca4, dcaO1, dcaO2, po1, po2, po3, po4, io_fz, wdat, tup0, tup1, tup2, tup3, tup4, lst0, lst1, lst3, enc, isi_tup, isi_str, trB, Bool.not_true, Bool.false_eq_true, if_false, he, gin_down, gix_down, Fl.then_nx, List.set_cons_succ, List.set_cons_zero, eq_int, hz, b1_lenT, cmpF_fz, map_bool, binF_fz, addI, ofO_some, hlc]
    kernel_rfl
  | .iff a b c, n, h => by
    obtain ⟨n, rfl⟩ : ∃ m, n = m + 1 := ⟨n - 1, by omega⟩
    have h1 := is_term_ok a n (by simp only [Tm.ht] at h; omega)
    have h2 := is_term_ok b n (by simp only [Tm.ht] at h; omega)
    have h3 := is_term_ok c n (by simp only [Tm.ht] at h; omega)
    have he := eq_nil (.iff a b c)
    simp only [enc] at he
    have hlc : ∀ ρ, E.ev (callN tab g fuel n) g (.lc [("own", 2)] (.n 2) (.seq (.sl (.rd 0) (.k (.int 1)) (.k .none))) .yes (.call "is_term_in" (.cons (.v 2) .nil))) [some (.fz (PyData.tuple [.str "if", enc a, enc b, enc c])), some (.fz (.int 3)), ρ] =
        .ok (.w (.own (.l [.d (.bool true), .d (.bool true), .d (.bool true)]))) [some (.fz (PyData.tuple [.str "if", enc a, enc b, enc c])), some (.fz (.int 3)), none] := by
      intro ρ
      refine lc_map (ds := [enc a, enc b, enc c]) (ρ := [some (.fz (PyData.tuple [.str "if", enc a, enc b, enc c])), some (.fz (.int 3)), ρ]) ?_ (by simp) (fun d e hde => ?_) rfl
      · kernel_rfl
      · simp only [List.zip_cons_cons, List.zip_nil_right, List.mem_cons, List.not_mem_nil, or_false] at hde
        rcases hde with hde | hde | hde
        · cases hde
          refine ⟨.fz (.bool true), ?_, rfl⟩
          simp only [ev_v, ev_rd, ev_g, ev_k, ev_bin, ev_cmp, ev_chain, ev_andE, ev_orE, ev_nt, ev_ife, ev_tup, ev_lst, ev_ix, ev_sl, ev_call, ev_callk, ev_own, ev_b1, ev_b2, ev_isi, ev_gin, ev_gix, ss_nil, ss_cons, ex_asg, ex_par, ex_ife, ex_ret, setTg_n, Es.ev, T.tst, I.ev, two_none, two_some, isRd, rdZ, vZ, List.getElem?_cons_zero, List.getElem?_cons_succ, R.bind_ok, ixF_fz, ixT, at0, at1, at2, ofD_some, liftO_some, nonBw_w, cmpT_fz, Z.dat_fz, Fl.of_ok, dc1, dc2, dc3, dc4, dca1, dca2, dca3, dca4, dcaO1, dcaO2, po1, po2, po3, po4, io_fz, wdat, tup0, tup1, tup2, tup3, tup4, lst0, lst1, lst3, List.set_cons_succ, List.set_cons_zero, h1] <;> rfl
        · cases hde
          refine ⟨.fz (.bool true), ?_, rfl⟩
          simp only [ev_v, ev_rd, ev_g, ev_k, ev_bin, ev_cmp, ev_chain, ev_andE, ev_orE, ev_nt, ev_ife, ev_tup, ev_lst, ev_ix, ev_sl, ev_call, ev_callk, ev_own, ev_b1, ev_b2, ev_isi, ev_gin, ev_gix, ss_nil, ss_cons, ex_asg, ex_par, ex_ife, ex_ret, setTg_n, Es.ev, T.tst, I.ev, two_none, two_some, isRd, rdZ, vZ, List.getElem?_cons_zero, List.getElem?_cons_succ, R.bind_ok, ixF_fz, ixT, at0, at1, at2, ofD_some, liftO_some, nonBw_w, cmpT_fz, Z.dat_fz, Fl.of_ok, dc1, dc2, dc3, dc4, dca1, dca2, dca3, dca4, dcaO1, dcaO2, po1, po2, po3, po4, io_fz, wdat, tup0, tup1, tup2, tup3, tup4, lst0, lst1, lst3, List.set_cons_succ, List.set_cons_zero, h2] <;> rfl
        · cases hde
          refine ⟨.fz (.bool true), ?_, rfl⟩
          simp only [ev_v, ev_rd, ev_g, ev_k, ev_bin, ev_cmp, ev_chain, ev_andE, ev_orE, ev_nt, ev_ife, ev_tup, ev_lst, ev_ix, ev_sl, ev_call, ev_callk, ev_own, ev_b1, ev_b2, ev_isi, ev_gin, ev_gix, ss_nil, ss_cons, ex_asg, ex_par, ex_ife, ex_ret, setTg_n, Es.ev, T.tst, I.ev, two_none, two_some, isRd, rdZ, vZ, List.getElem?_cons_zero, List.getElem?_cons_succ, R.bind_ok, ixF_fz, ixT, at0, at1, at2, ofD_some, liftO_some, nonBw_w, cmpT_fz, Z.dat_fz, Fl.of_ok, dc1, dc2, dc3, dc4, dca1, dca2, dca3, dca4, dcaO1, dcaO2, po1, po2, po3, po4, io_fz, wdat, tup0, tup1, tup2, tup3, tup4, lst0, lst1, lst3, List.set_cons_succ, List.set_cons_zero, h3] <;> rfl
    have hz : ((3 : Int) == 0) = false := by decide
    rw [e_is_term_in]
    simp only [d_is_term_in, ev_v, ev_rd, ev_g, ev_k, ev_bin, ev_cmp, ev_chain, ev_andE, ev_orE, ev_nt, ev_ife, ev_tup, ev_lst, ev_ix, ev_sl, ev_call, ev_callk, ev_own, ev_b1, ev_b2, ev_isi, ev_gin, ev_gix, ss_nil, ss_cons, ex_asg, ex_par, ex_ife, ex_ret, setTg_n, Es.ev, T.tst, I.ev, two_none, two_some, isRd, rdZ, vZ, List.getElem?_cons_zero, List.getElem?_cons_succ, R.bind_ok, ixF_fz, ixT, at0, at1, at2, ofD_some, liftO_some, nonBw_w, cmpT_fz, Z.dat_fz, Fl.of_ok, dc1, dc2, dc3, dc4, dca1, dca2, dca3, dca4, dcaO1, dcaO2, po1, po2, po3, po4, io_fz, wdat, tup0, tup1, tup2, tup3, tup4, lst0, lst1, lst3, enc, isi_tup, isi_str, trB, Bool.not_true, Bool.false_eq_true, if_false, he, gin_if, gix_if, Fl.then_nx, List.set_cons_succ, List.set_cons_zero, eq_int, hz, b1_lenT, cmpF_fz, map_bool, binF_fz, addI, ofO_some, hlc]
    kernel_rfl
theorem isi2T (xs : List D) (ρ : Co.Env) : isiF [.list, .tuple] (.tuple xs) ρ = .ok (.w (.fz (.bool true))) ρ := rfl
theorem isi2L (xs : List D) (ρ : Co.Env) : isiF [.list, .tuple] (.list xs) ρ = .ok (.w (.fz (.bool true))) ρ := rfl
theorem tup_str {n : Nat} (s : Str) (h : 1 ≤ n) : callN tab g fuel n "tupled" [.fz (.str s)] = .ret (.fz (.str s)) [] := by
  obtain ⟨n, rfl⟩ : ∃ m, n = m + 1 := ⟨n - 1, by omega⟩
  rw [e_tupled]; kernel_rfl
theorem tup_int {n : Nat} (s : Int) (h : 1 ≤ n) : callN tab g fuel n "tupled" [.fz (.int s)] = .ret (.fz (.int s)) [] := by
  obtain ⟨n, rfl⟩ : ∃ m, n = m + 1 := ⟨n - 1, by omega⟩
  rw [e_tupled]; kernel_rfl
theorem tup_step {n : Nat} (d : D) (xs rs : List D) (hd : d = .tuple xs ∨ d = .list xs) (hl : xs.length ≤ 900) (hle : xs.length = rs.length) (hr : ∀ x r, (x, r) ∈ xs.zip rs → callN tab g fuel n "tupled" [.fz x] = .ret (.fz r) []) :
    callN tab g fuel (n + 1) "tupled" [.fz d] = .ret (.fz (.tuple rs)) [] := by
  rw [e_tupled]
  have hlc : ∀ ρ, E.ev (callN tab g fuel n) g (.lc [("own", 1)] (.n 1) (.seq (.v 0)) .yes (.call "tupled" (.cons (.v 1) .nil))) [some (.fz d), ρ] = .ok (.w (.own (.l (rs.map .d)))) [some (.fz d), none] := by
    intro ρ
    refine lc_map (ds := xs) (ρ := [some (.fz d), ρ]) ?_ (by omega) (fun x e hde => ?_) (by rw [List.length_map]; exact hle)
    · rcases hd with rfl | rfl
      · rfl
      · rfl
    · obtain ⟨e', he, rfl⟩ : ∃ e', (x, e') ∈ xs.zip rs ∧ e = .d e' := by
        rw [List.zip_map_right] at hde
        obtain ⟨p, hp, hq⟩ := List.mem_map.mp hde
        cases hq
        exact ⟨p.2, hp, rfl⟩
      refine ⟨.fz e', ?_, rfl⟩
      simp only [ev_v, ev_rd, ev_g, ev_k, ev_bin, ev_cmp, ev_chain, ev_andE, ev_orE, ev_nt, ev_ife, ev_tup, ev_lst, ev_ix, ev_sl, ev_call, ev_callk, ev_own, ev_b1, ev_b2, ev_isi, ev_gin, ev_gix, ss_nil, ss_cons, ex_asg, ex_par, ex_ife, ex_ret, setTg_n, Es.ev, T.tst, I.ev, two_none, two_some, isRd, rdZ, vZ, List.getElem?_cons_zero, List.getElem?_cons_succ, R.bind_ok, ixF_fz, ixT, at0, at1, at2, ofD_some, liftO_some, nonBw_w, cmpT_fz, Z.dat_fz, Fl.of_ok, dc1, dc2, dc3, dc4, dca1, dca2, dca3, dca4, dcaO1, dcaO2, po1, po2, po3, po4, io_fz, wdat, tup0, tup1, tup2, tup3, tup4, lst0, lst1, lst3, List.set_cons_succ, List.set_cons_zero, hr x e' he] <;> rfl
  rcases hd with rfl | rfl
  · simp only [d_tupled, ev_v, ev_rd, ev_g, ev_k, ev_bin, ev_cmp, ev_chain, ev_andE, ev_orE, ev_nt, ev_ife, ev_tup, ev_lst, ev_ix, ev_sl, ev_call, ev_callk, ev_own, ev_b1, ev_b2, ev_isi, ev_gin, ev_gix, ss_nil, ss_cons, ex_asg, ex_par, ex_ife, ex_ret, setTg_n, Es.ev, T.tst, I.ev, two_none, two_some, isRd, rdZ, vZ, List.getElem?_cons_zero, List.getElem?_cons_succ, R.bind_ok, ixF_fz, ixT, at0, at1, at2, ofD_some, liftO_some, nonBw_w, cmpT_fz, Z.dat_fz, Fl.of_ok, dc1, dc2, dc3, dc4, dca1, dca2, dca3, dca4, dcaO1, dcaO2, po1, po2, po3, po4, io_fz, wdat, tup0, tup1, tup2, tup3, tup4, lst0, lst1, lst3, isi2T, trB, if_true, hlc, b1_tup] <;> rfl
  · simp only [d_tupled, ev_v, ev_rd, ev_g, ev_k, ev_bin, ev_cmp, ev_chain, ev_andE, ev_orE, ev_nt, ev_ife, ev_tup, ev_lst, ev_ix, ev_sl, ev_call, ev_callk, ev_own, ev_b1, ev_b2, ev_isi, ev_gin, ev_gix, ss_nil, ss_cons, ex_asg, ex_par, ex_ife, ex_ret, setTg_n, Es.ev, T.tst, I.ev, two_none, two_some, isRd, rdZ, vZ, List.getElem?_cons_zero, List.getElem?_cons_succ, R.bind_ok, ixF_fz, ixT, at0, at1, at2, ofD_some, liftO_some, nonBw_w, cmpT_fz, Z.dat_fz, Fl.of_ok, dc1, dc2, dc3, dc4, dca1, dca2, dca3, dca4, dcaO1, dcaO2, po1, po2, po3, po4, io_fz, wdat, tup0, tup1, tup2, tup3, tup4, lst0, lst1, lst3, isi2L, trB, if_true, hlc, b1_tup] <;> rfl
def encL : Tm → D
  | .var i => .list [.str "var", .int i]
  | .num i => .list [.str "num", .int i]
  | .fn a => .list [.str "fun", encL a]
  | .use a b => .list [.str "use", encL a, encL b]
  | .up a => .list [.str "up", encL a]
  | .dn a => .list [.str "down", encL a]
  | .iff a b c => .list [.str "if", encL a, encL b, encL c]
def encO : Tm → O
  | .var i => .l [.d (.str "var"), .d (.int i)]
  | .num i => .l [.d (.str "num"), .d (.int i)]
  | .fn a => .l [.d (.str "fun"), encO a]
  | .use a b => .l [.d (.str "use"), encO a, encO b]
  | .up a => .l [.d (.str "up"), encO a]
  | .dn a => .l [.d (.str "down"), encO a]
  | .iff a b c => .l [.d (.str "if"), encO a, encO b, encO c]
theorem encO_frz : ∀ t : Tm, (encO t).frz = encL t
  | .var i => rfl
  | .num i => rfl
  | .fn a => by show PyData.list [.str "fun", (encO a).frz] = _; rw [encO_frz a]; rfl
  | .use a b => by show PyData.list [.str "use", (encO a).frz, (encO b).frz] = _; rw [encO_frz a, encO_frz b]; rfl
  | .up a => by show PyData.list [.str "up", (encO a).frz] = _; rw [encO_frz a]; rfl
  | .dn a => by show PyData.list [.str "down", (encO a).frz] = _; rw [encO_frz a]; rfl
  | .iff a b c => by show PyData.list [.str "if", (encO a).frz, (encO b).frz, (encO c).frz] = _; rw [encO_frz a, encO_frz b, encO_frz c]; rfl
theorem tupled_ok : ∀ (t : Tm) (n : Nat), t.ht + 1 ≤ n → callN tab g fuel n "tupled" [.fz (enc t)] = .ret (.fz (enc t)) []
  | .var i, n, h => by
    obtain ⟨n, rfl⟩ : ∃ m, n = m + 1 := ⟨n - 1, by omega⟩
    refine tup_step _ [.str "var", .int i] [.str "var", .int i] (.inl rfl) (by simp) rfl fun x r hm => ?_
    simp only [List.zip_cons_cons, List.zip_nil_right, List.mem_cons, List.not_mem_nil, or_false] at hm
    rcases hm with hm | hm
    · cases hm; exact tup_str _ (by simp only [Tm.ht] at h; omega)
    · cases hm; exact tup_int _ (by simp only [Tm.ht] at h; omega)
  | .num i, n, h => by
    obtain ⟨n, rfl⟩ : ∃ m, n = m + 1 := ⟨n - 1, by omega⟩
    refine tup_step _ [.str "num", .int i] [.str "num", .int i] (.inl rfl) (by simp) rfl fun x r hm => ?_
    simp only [List.zip_cons_cons, List.zip_nil_right, List.mem_cons, List.not_mem_nil, or_false] at hm
    rcases hm with hm | hm
    · cases hm; exact tup_str _ (by simp only [Tm.ht] at h; omega)
    · cases hm; exact tup_int _ (by simp only [Tm.ht] at h; omega)
  | .fn a, n, h => by
    obtain ⟨n, rfl⟩ : ∃ m, n = m + 1 := ⟨n - 1, by omega⟩
    refine tup_step _ [.str "fun", enc a] [.str "fun", enc a] (.inl rfl) (by simp) rfl fun x r hm => ?_
    simp only [List.zip_cons_cons, List.zip_nil_right, List.mem_cons, List.not_mem_nil, or_false] at hm
    rcases hm with hm | hm
    · cases hm; exact tup_str _ (by simp only [Tm.ht] at h; omega)
    · cases hm; exact tupled_ok a n (by simp only [Tm.ht] at h; omega)
  | .use a b, n, h => by
    obtain ⟨n, rfl⟩ : ∃ m, n = m + 1 := ⟨n - 1, by omega⟩
    refine tup_step _ [.str "use", enc a, enc b] [.str "use", enc a, enc b] (.inl rfl) (by simp) rfl fun x r hm => ?_
    simp only [List.zip_cons_cons, List.zip_nil_right, List.mem_cons, List.not_mem_nil, or_false] at hm
    rcases hm with hm | hm | hm
    · cases hm; exact tup_str _ (by simp only [Tm.ht] at h; omega)
    · cases hm; exact tupled_ok a n (by simp only [Tm.ht] at h; omega)
    · cases hm; exact tupled_ok b n (by simp only [Tm.ht] at h; omega)
  | .up a, n, h => by
    obtain ⟨n, rfl⟩ : ∃ m, n = m + 1 := ⟨n - 1, by omega⟩
    refine tup_step _ [.str "up", enc a] [.str "up", enc a] (.inl rfl) (by simp) rfl fun x r hm => ?_
    simp only [List.zip_cons_cons, List.zip_nil_right, List.mem_cons, List.not_mem_nil, or_false] at hm
    rcases hm with hm | hm
    · cases hm; exact tup_str _ (by simp only [Tm.ht] at h; omega)
    · cases hm; exact tupled_ok a n (by simp only [Tm.ht] at h; omega)
  | .dn a, n, h => by
    obtain ⟨n, rfl⟩ : ∃ m, n = m + 1 := ⟨n - 1, by omega⟩
    refine tup_step _ [.str "down", enc a] [.str "down", enc a] (.inl rfl) (by simp) rfl fun x r hm => ?_
    simp only [List.zip_cons_cons, List.zip_nil_right, List.mem_cons, List.not_mem_nil, or_false] at hm
    rcases hm with hm | hm
    · cases hm; exact tup_str _ (by simp only [Tm.ht] at h; omega)
    · cases hm; exact tupled_ok a n (by simp only [Tm.ht] at h; omega)
  | .iff a b c, n, h => by
    obtain ⟨n, rfl⟩ : ∃ m, n = m + 1 := ⟨n - 1, by omega⟩
    refine tup_step _ [.str "if", enc a, enc b, enc c] [.str "if", enc a, enc b, enc c] (.inl rfl) (by simp) rfl fun x r hm => ?_
    simp only [List.zip_cons_cons, List.zip_nil_right, List.mem_cons, List.not_mem_nil, or_false] at hm
    rcases hm with hm | hm | hm | hm
    · cases hm; exact tup_str _ (by simp only [Tm.ht] at h; omega)
    · cases hm; exact tupled_ok a n (by simp only [Tm.ht] at h; omega)
    · cases hm; exact tupled_ok b n (by simp only [Tm.ht] at h; omega)
    · cases hm; exact tupled_ok c n (by simp only [Tm.ht] at h; omega)
theorem tupledL_ok : ∀ (t : Tm) (n : Nat), t.ht + 1 ≤ n → callN tab g fuel n "tupled" [.fz (encL t)] = .ret (.fz (enc t)) []
  | .var i, n, h => by
    obtain ⟨n, rfl⟩ : ∃ m, n = m + 1 := ⟨n - 1, by omega⟩
    refine tup_step _ [.str "var", .int i] [.str "var", .int i] (.inr rfl) (by simp) rfl fun x r hm => ?_
    simp only [List.zip_cons_cons, List.zip_nil_right, List.mem_cons, List.not_mem_nil, or_false] at hm
    rcases hm with hm | hm
    · cases hm; exact tup_str _ (by simp only [Tm.ht] at h; omega)
    · cases hm; exact tup_int _ (by simp only [Tm.ht] at h; omega)
  | .num i, n, h => by
    obtain ⟨n, rfl⟩ : ∃ m, n = m + 1 := ⟨n - 1, by omega⟩
    refine tup_step _ [.str "num", .int i] [.str "num", .int i] (.inr rfl) (by simp) rfl fun x r hm => ?_
    simp only [List.zip_cons_cons, List.zip_nil_right, List.mem_cons, List.not_mem_nil, or_false] at hm
    rcases hm with hm | hm
    · cases hm; exact tup_str _ (by simp only [Tm.ht] at h; omega)
    · cases hm; exact tup_int _ (by simp only [Tm.ht] at h; omega)
  | .fn a, n, h => by
    obtain ⟨n, rfl⟩ : ∃ m, n = m + 1 := ⟨n - 1, by omega⟩
    refine tup_step _ [.str "fun", encL a] [.str "fun", enc a] (.inr rfl) (by simp) rfl fun x r hm => ?_
    simp only [List.zip_cons_cons, List.zip_nil_right, List.mem_cons, List.not_mem_nil, or_false] at hm
    rcases hm with hm | hm
    · cases hm; exact tup_str _ (by simp only [Tm.ht] at h; omega)
    · cases hm; exact tupledL_ok a n (by simp only [Tm.ht] at h; omega)
  | .use a b, n, h => by
    obtain ⟨n, rfl⟩ : ∃ m, n = m + 1 := ⟨n - 1, by omega⟩
    refine tup_step _ [.str "use", encL a, encL b] [.str "use", enc a, enc b] (.inr rfl) (by simp) rfl fun x r hm => ?_
    simp only [List.zip_cons_cons, List.zip_nil_right, List.mem_cons, List.not_mem_nil, or_false] at hm
    rcases hm with hm | hm | hm
    · cases hm; exact tup_str _ (by simp only [Tm.ht] at h; omega)
    · cases hm; exact tupledL_ok a n (by simp only [Tm.ht] at h; omega)
    · cases hm; exact tupledL_ok b n (by simp only [Tm.ht] at h; omega)
  | .up a, n, h => by
    obtain ⟨n, rfl⟩ : ∃ m, n = m + 1 := ⟨n - 1, by omega⟩
    refine tup_step _ [.str "up", encL a] [.str "up", enc a] (.inr rfl) (by simp) rfl fun x r hm => ?_
    simp only [List.zip_cons_cons, List.zip_nil_right, List.mem_cons, List.not_mem_nil, or_false] at hm
    rcases hm with hm | hm
    · cases hm; exact tup_str _ (by simp only [Tm.ht] at h; omega)
    · cases hm; exact tupledL_ok a n (by simp only [Tm.ht] at h; omega)
  | .dn a, n, h => by
    obtain ⟨n, rfl⟩ : ∃ m, n = m + 1 := ⟨n - 1, by omega⟩
    refine tup_step _ [.str "down", encL a] [.str "down", enc a] (.inr rfl) (by simp) rfl fun x r hm => ?_
    simp only [List.zip_cons_cons, List.zip_nil_right, List.mem_cons, List.not_mem_nil, or_false] at hm
    rcases hm with hm | hm
    · cases hm; exact tup_str _ (by simp only [Tm.ht] at h; omega)
    · cases hm; exact tupledL_ok a n (by simp only [Tm.ht] at h; omega)
  | .iff a b c, n, h => by
    obtain ⟨n, rfl⟩ : ∃ m, n = m + 1 := ⟨n - 1, by omega⟩
    refine tup_step _ [.str "if", encL a, encL b, encL c] [.str "if", enc a, enc b, enc c] (.inr rfl) (by simp) rfl fun x r hm => ?_
    simp only [List.zip_cons_cons, List.zip_nil_right, List.mem_cons, List.not_mem_nil, or_false] at hm
    rcases hm with hm | hm | hm | hm
    · cases hm; exact tup_str _ (by simp only [Tm.ht] at h; omega)
    · cases hm; exact tupledL_ok a n (by simp only [Tm.ht] at h; omega)
    · cases hm; exact tupledL_ok b n (by simp only [Tm.ht] at h; omega)
    · cases hm; exact tupledL_ok c n (by simp only [Tm.ht] at h; omega)
theorem sure_ok {n : Nat} (d : D) (t : Tm) (h : callN tab g fuel n "tupled" [.fz d] = .ret (.fz (enc t)) []) (hn : t.ht + 2 ≤ n) : callN tab g fuel (n + 1) "sure_term" [.fz d] = .ret (.fz (enc t)) [] := by
  have hi := is_term_ok t n hn
  rw [e_sure_term]
  simp only [d_sure_term, ev_v, ev_rd, ev_g, ev_k, ev_bin, ev_cmp, ev_chain, ev_andE, ev_orE, ev_nt, ev_ife, ev_tup, ev_lst, ev_ix, ev_sl, ev_call, ev_callk, ev_own, ev_b1, ev_b2, ev_isi, ev_gin, ev_gix, ss_nil, ss_cons, ex_asg, ex_par, ex_ife, ex_ret, setTg_n, Es.ev, T.tst, I.ev, two_none, two_some, isRd, rdZ, vZ, List.getElem?_cons_zero, List.getElem?_cons_succ, R.bind_ok, ixF_fz, ixT, at0, at1, at2, ofD_some, liftO_some, nonBw_w, cmpT_fz, Z.dat_fz, Fl.of_ok, dc1, dc2, dc3, dc4, dca1, dca2, dca3, dca4, dcaO1, dcaO2, po1, po2, po3, po4, io_fz, wdat, tup0, tup1, tup2, tup3, tup4, lst0, lst1, lst3, h, List.set_cons_succ, List.set_cons_zero, Fl.then_nx, hi, trB, Bool.not_true, Bool.false_eq_true, if_false] <;> rfl
theorem gMM : g.con "MOST_MANY" = some (.int 20) := by kernel_rfl
theorem count_ok {n : Nat} (v : Nat) (hv : v ≤ 20) (h : 2 ≤ n) : callN tab g fuel n "sure_count" [.fz (.int v), .fz (.int 20)] = .ret (.fz (.int v)) [] := by
  obtain ⟨n, rfl⟩ : ∃ m, n = m + 1 := ⟨n - 1, by omega⟩
  have hi := is_number_int (v : Int) (n := n) (by omega)
  have h1 : (0 : Int) ≤ v := by omega
  have h2 : (v : Int) ≤ 20 := by omega
  rw [e_sure_count]
  simp only [d_sure_count, ev_v, ev_rd, ev_g, ev_k, ev_bin, ev_cmp, ev_chain, ev_andE, ev_orE, ev_nt, ev_ife, ev_tup, ev_lst, ev_ix, ev_sl, ev_call, ev_callk, ev_own, ev_b1, ev_b2, ev_isi, ev_gin, ev_gix, ss_nil, ss_cons, ex_asg, ex_par, ex_ife, ex_ret, setTg_n, Es.ev, T.tst, I.ev, two_none, two_some, isRd, rdZ, vZ, List.getElem?_cons_zero, List.getElem?_cons_succ, R.bind_ok, ixF_fz, ixT, at0, at1, at2, ofD_some, liftO_some, nonBw_w, cmpT_fz, Z.dat_fz, Fl.of_ok, dc1, dc2, dc3, dc4, dca1, dca2, dca3, dca4, dcaO1, dcaO2, po1, po2, po3, po4, io_fz, wdat, tup0, tup1, tup2, tup3, tup4, lst0, lst1, lst3, hi, trB, Bool.not_true, Bool.false_eq_true, if_false, cmp_le, decide_eq_true h1, decide_eq_true h2] <;> rfl
theorem raised_top {n : Nat} (d : D) (t : Tm) (k l : Nat) (hk : k ≤ 20) (hl : l ≤ 20) (h : callN tab g fuel n "tupled" [.fz d] = .ret (.fz (enc t)) []) (hn : t.ht + 3 ≤ n) : callN tab g fuel (n + 2) "raised" [.fz d, .fz (.int k), .fz (.int l)] = .ret (.fz (enc (t.rs k l))) [] := by
  have h1 := sure_ok d t h (by omega)
  have h2 := count_ok k hk (n := n + 1) (by omega)
  have h3 := count_ok l hl (n := n + 1) (by omega)
  have h4 := raised_ok k t l (n + 1) (by omega)
  rw [e_raised]
  simp only [d_raised, ev_v, ev_rd, ev_g, ev_k, ev_bin, ev_cmp, ev_chain, ev_andE, ev_orE, ev_nt, ev_ife, ev_tup, ev_lst, ev_ix, ev_sl, ev_call, ev_callk, ev_own, ev_b1, ev_b2, ev_isi, ev_gin, ev_gix, ss_nil, ss_cons, ex_asg, ex_par, ex_ife, ex_ret, setTg_n, Es.ev, T.tst, I.ev, two_none, two_some, isRd, rdZ, vZ, List.getElem?_cons_zero, List.getElem?_cons_succ, R.bind_ok, ixF_fz, ixT, at0, at1, at2, ofD_some, liftO_some, nonBw_w, cmpT_fz, Z.dat_fz, Fl.of_ok, dc1, dc2, dc3, dc4, dca1, dca2, dca3, dca4, dcaO1, dcaO2, po1, po2, po3, po4, io_fz, wdat, tup0, tup1, tup2, tup3, tup4, lst0, lst1, lst3, h1, gMM, List.set_cons_succ, List.set_cons_zero, Fl.then_nx, h2, h3, h4] <;> rfl
theorem let_in_top {n : Nat} (d e : D) (t u : Tm) (h : callN tab g fuel n "tupled" [.fz d] = .ret (.fz (enc t)) []) (h' : callN tab g fuel n "tupled" [.fz e] = .ret (.fz (enc u)) []) (hn : t.ht + u.ht + 3 ≤ n) : callN tab g fuel (n + 2) "let_in" [.fz d, .fz e] = .ret (.fz (enc (t.lt [u] 0 0))) [] := by
  have h1 := sure_ok d t h (by omega)
  have h2 := sure_ok e u h' (by omega)
  have h4 := lets_ok [u] u.ht (by simp) t 0 (n + 1) (by omega)
  have z : rowD [u] = .tuple [enc u] := rfl
  have z2 : ((0 : Nat) : Int) = 0 := rfl
  rw [z, z2] at h4
  rw [e_let_in]
  simp only [d_let_in, ev_v, ev_rd, ev_g, ev_k, ev_bin, ev_cmp, ev_chain, ev_andE, ev_orE, ev_nt, ev_ife, ev_tup, ev_lst, ev_ix, ev_sl, ev_call, ev_callk, ev_own, ev_b1, ev_b2, ev_isi, ev_gin, ev_gix, ss_nil, ss_cons, ex_asg, ex_par, ex_ife, ex_ret, setTg_n, Es.ev, T.tst, I.ev, two_none, two_some, isRd, rdZ, vZ, List.getElem?_cons_zero, List.getElem?_cons_succ, R.bind_ok, ixF_fz, ixT, at0, at1, at2, ofD_some, liftO_some, nonBw_w, cmpT_fz, Z.dat_fz, Fl.of_ok, dc1, dc2, dc3, dc4, dca1, dca2, dca3, dca4, dcaO1, dcaO2, po1, po2, po3, po4, io_fz, wdat, tup0, tup1, tup2, tup3, tup4, lst0, lst1, lst3, h1, List.set_cons_succ, List.set_cons_zero, Fl.then_nx, h2, h4] <;> rfl
theorem all_bools : ∀ k : Nat, bls (List.replicate k (.bool true)) = some (List.replicate k true)
  | 0 => rfl
  | k + 1 => by
    show (bls (List.replicate k (.bool true))).map (true :: ·) = _
    rw [all_bools k]
    rfl
theorem b1_all (k : Nat) (ρ : Co.Env) : b1F .all (.w (.own (.l ((List.replicate k (.bool true)).map .d)))) ρ = .ok (.w (.fz (.bool true))) ρ := by
  show ofO ((bls (O.frzs ((List.replicate k (PyData.bool true)).map .d))).map fun ns => W.fz (.bool (ns.all id))) ρ = _
  rw [frz_map, all_bools]
  simp [ofO]
theorem rows_ok {n : Nat} (d : D) (row : List Tm) (b0 : Nat) (hR : ∀ t ∈ row, t.ht ≤ b0) (hl : row.length ≤ 900) (h : callN tab g fuel n "tupled" [.fz d] = .ret (.fz (rowD row)) []) (hn : b0 + 2 ≤ n) : callN tab g fuel (n + 1) "sure_terms" [.fz d] = .ret (.fz (rowD row)) [] := by
  rw [e_sure_terms]
  have hlc : ∀ ρ, E.ev (callN tab g fuel n) g (.lc [("its", 2)] (.n 2) (.seq (.v 1)) .yes (.call "is_term_in" (.cons (.v 2) .nil))) [some (.fz d), some (.fz (rowD row)), ρ] = .ok (.w (.own (.l ((List.replicate row.length (.bool true)).map .d)))) [some (.fz d), some (.fz (rowD row)), none] := by
    intro ρ
    refine lc_map (ds := row.map enc) (ρ := [some (.fz d), some (.fz (rowD row)), ρ]) rfl (by rw [List.length_map]; omega) (fun x e hde => ?_) (by simp)
    have hx := (List.of_mem_zip hde).1
    have he := (List.of_mem_zip hde).2
    obtain ⟨t, ht, rfl⟩ := List.mem_map.mp hx
    obtain ⟨b, hb, rfl⟩ := List.mem_map.mp he
    rw [List.eq_of_mem_replicate hb]
    have := is_term_ok t n (by have := hR t ht; omega)
    refine ⟨.fz (.bool true), ?_, rfl⟩
    simp only [ev_v, ev_rd, ev_g, ev_k, ev_bin, ev_cmp, ev_chain, ev_andE, ev_orE, ev_nt, ev_ife, ev_tup, ev_lst, ev_ix, ev_sl, ev_call, ev_callk, ev_own, ev_b1, ev_b2, ev_isi, ev_gin, ev_gix, ss_nil, ss_cons, ex_asg, ex_par, ex_ife, ex_ret, setTg_n, Es.ev, T.tst, I.ev, two_none, two_some, isRd, rdZ, vZ, List.getElem?_cons_zero, List.getElem?_cons_succ, R.bind_ok, ixF_fz, ixT, at0, at1, at2, ofD_some, liftO_some, nonBw_w, cmpT_fz, Z.dat_fz, Fl.of_ok, dc1, dc2, dc3, dc4, dca1, dca2, dca3, dca4, dcaO1, dcaO2, po1, po2, po3, po4, io_fz, wdat, tup0, tup1, tup2, tup3, tup4, lst0, lst1, lst3, List.set_cons_succ, List.set_cons_zero, this]
  have hi : ∀ ρ, isiF [.tuple] (rowD row) ρ = .ok (.w (.fz (.bool true))) ρ := fun _ => rfl
  simp only [d_sure_terms, ev_v, ev_rd, ev_g, ev_k, ev_bin, ev_cmp, ev_chain, ev_andE, ev_orE, ev_nt, ev_ife, ev_tup, ev_lst, ev_ix, ev_sl, ev_call, ev_callk, ev_own, ev_b1, ev_b2, ev_isi, ev_gin, ev_gix, ss_nil, ss_cons, ex_asg, ex_par, ex_ife, ex_ret, setTg_n, Es.ev, T.tst, I.ev, two_none, two_some, isRd, rdZ, vZ, List.getElem?_cons_zero, List.getElem?_cons_succ, R.bind_ok, ixF_fz, ixT, at0, at1, at2, ofD_some, liftO_some, nonBw_w, cmpT_fz, Z.dat_fz, Fl.of_ok, dc1, dc2, dc3, dc4, dca1, dca2, dca3, dca4, dcaO1, dcaO2, po1, po2, po3, po4, io_fz, wdat, tup0, tup1, tup2, tup3, tup4, lst0, lst1, lst3, h, List.set_cons_succ, List.set_cons_zero, Fl.then_nx, hi, trB, Bool.not_true, Bool.false_eq_true, if_false, hlc, b1_all] <;> rfl
theorem lets_in_top {n : Nat} (d e : D) (t : Tm) (row : List Tm) (b0 : Nat) (hR : ∀ t ∈ row, t.ht ≤ b0) (hl : row.length ≤ 900) (h : callN tab g fuel n "tupled" [.fz d] = .ret (.fz (enc t)) []) (h' : callN tab g fuel n "tupled" [.fz e] = .ret (.fz (rowD row)) []) (hn : t.ht + b0 + 3 ≤ n) : callN tab g fuel (n + 2) "lets_in" [.fz d, .fz e] = .ret (.fz (enc (t.lt row 0 0))) [] := by
  have h1 := sure_ok d t h (by omega)
  have h2 := rows_ok e row b0 hR hl h' (by omega)
  have h4 := lets_ok row b0 hR t 0 (n + 1) (by omega)
  have z2 : ((0 : Nat) : Int) = 0 := rfl
  rw [z2] at h4
  rw [e_lets_in]
  simp only [d_lets_in, ev_v, ev_rd, ev_g, ev_k, ev_bin, ev_cmp, ev_chain, ev_andE, ev_orE, ev_nt, ev_ife, ev_tup, ev_lst, ev_ix, ev_sl, ev_call, ev_callk, ev_own, ev_b1, ev_b2, ev_isi, ev_gin, ev_gix, ss_nil, ss_cons, ex_asg, ex_par, ex_ife, ex_ret, setTg_n, Es.ev, T.tst, I.ev, two_none, two_some, isRd, rdZ, vZ, List.getElem?_cons_zero, List.getElem?_cons_succ, R.bind_ok, ixF_fz, ixT, at0, at1, at2, ofD_some, liftO_some, nonBw_w, cmpT_fz, Z.dat_fz, Fl.of_ok, dc1, dc2, dc3, dc4, dca1, dca2, dca3, dca4, dcaO1, dcaO2, po1, po2, po3, po4, io_fz, wdat, tup0, tup1, tup2, tup3, tup4, lst0, lst1, lst3, h1, List.set_cons_succ, List.set_cons_zero, Fl.then_nx, h2, h4] <;> rfl
def Tm.wrap : Nat → Tm → Tm
  | 0, t => t
  | k + 1, t => .fn (t.wrap k)
theorem funs_on_ok {n : Nat} (t : Tm) (k : Nat) (hk : k ≤ 1000) (h : 1 ≤ n) : callN tab g fuel n "funs_on" [.fz (enc t), .fz (.int k)] = .ret (.fz (enc (t.wrap k))) [] := by
  obtain ⟨n, rfl⟩ : ∃ m, n = m + 1 := ⟨n - 1, by omega⟩
  rw [e_funs_on]
  have hi := rng1_ev (callN tab g fuel n) g [some (.fz (enc t)), some (.fz (.int k)), none] (.rd 1) (.w (.fz (.int k))) [some (.fz (enc t)), some (.fz (.int k)), none] k (by omega) rfl rfl
  obtain ⟨ρ', e1, x, e2⟩ := for_inv (body := fun d ρ => match setTg (.n 2) d ρ with
      | some ρ' => Ss.ex (callN tab g fuel n) g fuel (.cons (.asg (.n 0) (.tup (.cons (.k (.str "fun")) (.cons (.v 0) .nil)))) .nil) ρ'
      | none => .bad) (Iv := fun i ρ => ∃ x, ρ = [some (.fz (enc (t.wrap i))), some (.fz (.int k)), x]) (rngD 0 1 k) 0 [some (.fz (enc t)), some (.fz (.int k)), none] ⟨none, rfl⟩ fun i d ρ hd ⟨x, hx⟩ => by
    subst hx
    rw [Nat.zero_add]
    refine ⟨[some (.fz (enc (t.wrap (i + 1)))), some (.fz (.int k)), some (.fz d)], ?_, _, rfl⟩
    simp only [ev_v, ev_rd, ev_g, ev_k, ev_bin, ev_cmp, ev_chain, ev_andE, ev_orE, ev_nt, ev_ife, ev_tup, ev_lst, ev_ix, ev_sl, ev_call, ev_callk, ev_own, ev_b1, ev_b2, ev_isi, ev_gin, ev_gix, ss_nil, ss_cons, ex_asg, ex_par, ex_ife, ex_ret, setTg_n, Es.ev, T.tst, I.ev, two_none, two_some, isRd, rdZ, vZ, List.getElem?_cons_zero, List.getElem?_cons_succ, R.bind_ok, ixF_fz, ixT, at0, at1, at2, ofD_some, liftO_some, nonBw_w, cmpT_fz, Z.dat_fz, Fl.of_ok, dc1, dc2, dc3, dc4, dca1, dca2, dca3, dca4, dcaO1, dcaO2, po1, po2, po3, po4, io_fz, wdat, tup0, tup1, tup2, tup3, tup4, lst0, lst1, lst3, List.set_cons_succ, List.set_cons_zero] <;> rfl
  have hlen : (rngD 0 1 k).length = k := by simp [rngD]
  rw [Nat.zero_add, hlen] at e2
  subst e2
  have hf : S.ex (callN tab g fuel n) g fuel (.for (.n 2) (.rng1 (.rd 1)) (.cons (.asg (.n 0) (.tup (.cons (.k (.str "fun")) (.cons (.v 0) .nil)))) .nil)) [some (.fz (enc t)), some (.fz (.int k)), none] = .nx [some (.fz (enc (t.wrap k))), some (.fz (.int k)), x] := by
    rw [ex_for, hi]
    exact e1
  simp only [d_funs_on, ss_cons, hf, Fl.then_nx] <;> rfl
def Tm.appl (t : Tm) (row : List Tm) : Tm := row.foldl (fun h o => .use h o) t
end K04


set_option Elab.async false
set_option linter.all false
namespace K04
theorem rs_zero : ∀ (t : Tm) (l : Nat), t.rs 0 l = t
  | .var i, l => by unfold Tm.rs; split <;> rfl
  | .num i, l => rfl
  | .fn a, l => by unfold Tm.rs; rw [rs_zero a]
  | .use a b, l => by unfold Tm.rs; rw [rs_zero a, rs_zero b]
  | .up a, l => by unfold Tm.rs; rw [rs_zero a]
  | .dn a, l => by unfold Tm.rs; rw [rs_zero a]
  | .iff a b c, l => by unfold Tm.rs; rw [rs_zero a, rs_zero b, rs_zero c]
theorem rs_rs (k m : Nat) : ∀ (t : Tm) (l j : Nat), l ≤ j → j ≤ l + k → (t.rs k l).rs m j = t.rs (m + k) l
  | .var i, l, j, h1, h2 => by
    by_cases c : l ≤ i
    · have e : (Tm.var i).rs k l = .var (i + k) := by unfold Tm.rs; rw [if_pos c]
      have e2 : (Tm.var i).rs (m + k) l = .var (i + (m + k)) := by unfold Tm.rs; rw [if_pos c]
      rw [e, e2]
      unfold Tm.rs
      rw [if_pos (by omega)]
      congr 1
      omega
    · have e : (Tm.var i).rs k l = .var i := by unfold Tm.rs; rw [if_neg c]
      have e2 : (Tm.var i).rs (m + k) l = .var i := by unfold Tm.rs; rw [if_neg c]
      rw [e, e2]
      unfold Tm.rs
      rw [if_neg (by omega)]
  | .num i, l, j, h1, h2 => rfl
  | .fn a, l, j, h1, h2 => by
    show Tm.fn ((a.rs k (l + 1)).rs m (j + 1)) = .fn (a.rs (m + k) (l + 1))
    rw [rs_rs k m a (l + 1) (j + 1) (by omega) (by omega)]
  | .use a b, l, j, h1, h2 => by
    show Tm.use ((a.rs k l).rs m j) ((b.rs k l).rs m j) = .use (a.rs (m + k) l) (b.rs (m + k) l)
    rw [rs_rs k m a l j h1 h2, rs_rs k m b l j h1 h2]
  | .up a, l, j, h1, h2 => by
    show Tm.up ((a.rs k l).rs m j) = .up (a.rs (m + k) l)
    rw [rs_rs k m a l j h1 h2]
  | .dn a, l, j, h1, h2 => by
    show Tm.dn ((a.rs k l).rs m j) = .dn (a.rs (m + k) l)
    rw [rs_rs k m a l j h1 h2]
  | .iff a b c, l, j, h1, h2 => by
    show Tm.iff ((a.rs k l).rs m j) ((b.rs k l).rs m j) ((c.rs k l).rs m j) = .iff (a.rs (m + k) l) (b.rs (m + k) l) (c.rs (m + k) l)
    rw [rs_rs k m a l j h1 h2, rs_rs k m b l j h1 h2, rs_rs k m c l j h1 h2]
theorem lt_rs1 (u : Tm) : ∀ (t : Tm) (d : Nat), (t.rs 1 d).lt [u] 0 d = t
  | .var i, d => by
    by_cases c : d ≤ i
    · have e : (Tm.var i).rs 1 d = .var (i + 1) := by unfold Tm.rs; rw [if_pos c]
      rw [e]
      unfold Tm.lt
      rw [if_neg (by omega)]
      have q : ([u] : List Tm)[i + 1 - d]? = none := List.getElem?_eq_none_iff.mpr (by simp; omega)
      rw [q]
      rfl
    · have e : (Tm.var i).rs 1 d = .var i := by unfold Tm.rs; rw [if_neg c]
      rw [e]
      unfold Tm.lt
      rw [if_pos (by omega)]
  | .num i, d => rfl
  | .fn a, d => by show Tm.fn ((a.rs 1 (d + 1)).lt [u] 0 (d + 1)) = _; rw [lt_rs1 u a]
  | .use a b, d => by show Tm.use ((a.rs 1 d).lt [u] 0 d) ((b.rs 1 d).lt [u] 0 d) = _; rw [lt_rs1 u a, lt_rs1 u b]
  | .up a, d => by show Tm.up ((a.rs 1 d).lt [u] 0 d) = _; rw [lt_rs1 u a]
  | .dn a, d => by show Tm.dn ((a.rs 1 d).lt [u] 0 d) = _; rw [lt_rs1 u a]
  | .iff a b c, d => by show Tm.iff ((a.rs 1 d).lt [u] 0 d) ((b.rs 1 d).lt [u] 0 d) ((c.rs 1 d).lt [u] 0 d) = _; rw [lt_rs1 u a, lt_rs1 u b, lt_rs1 u c]
theorem lt_nil : ∀ (t : Tm) (d : Nat), t.lt [] 0 d = t
  | .var i, d => by unfold Tm.lt; split <;> rfl
  | .num i, d => rfl
  | .fn a, d => by show Tm.fn (a.lt [] 0 (d + 1)) = _; rw [lt_nil a]
  | .use a b, d => by show Tm.use (a.lt [] 0 d) (b.lt [] 0 d) = _; rw [lt_nil a, lt_nil b]
  | .up a, d => by show Tm.up (a.lt [] 0 d) = _; rw [lt_nil a]
  | .dn a, d => by show Tm.dn (a.lt [] 0 d) = _; rw [lt_nil a]
  | .iff a b c, d => by show Tm.iff (a.lt [] 0 d) (b.lt [] 0 d) (c.lt [] 0 d) = _; rw [lt_nil a, lt_nil b, lt_nil c]
/-- heights -/
theorem ht_rs (k : Nat) : ∀ (t : Tm) (l : Nat), (t.rs k l).ht = t.ht
  | .var i, l => by unfold Tm.rs; split <;> rfl
  | .num i, l => rfl
  | .fn a, l => by show (a.rs k (l + 1)).ht + 1 = _; rw [ht_rs k a]; rfl
  | .use a b, l => by show max (a.rs k l).ht (b.rs k l).ht + 1 = _; rw [ht_rs k a, ht_rs k b]; rfl
  | .up a, l => by show (a.rs k l).ht + 1 = _; rw [ht_rs k a]; rfl
  | .dn a, l => by show (a.rs k l).ht + 1 = _; rw [ht_rs k a]; rfl
  | .iff a b c, l => by show max (a.rs k l).ht (max (b.rs k l).ht (c.rs k l).ht) + 1 = _; rw [ht_rs k a, ht_rs k b, ht_rs k c]; rfl
/-- letters -/
def Tm.fr : Nat → Tm → List Nat
  | d, .var i => if d ≤ i then [i - d] else []
  | _, .num _ => []
  | d, .fn a => a.fr (d + 1)
  | d, .use a b => a.fr d ++ b.fr d
  | d, .up a => a.fr d
  | d, .dn a => a.fr d
  | d, .iff a b c => a.fr d ++ (b.fr d ++ c.fr d)
theorem fr_down : ∀ (t : Tm) (d : Nat), ∀ x, x ∈ t.fr (d + 1) → x + 1 ∈ t.fr d
  | .var i, d, x, h => by
    unfold Tm.fr at h ⊢
    split at h
    · rename_i c
      simp at h
      rw [if_pos (by omega)]
      simp
      omega
    · simp at h
  | .num i, d, x, h => by simp [Tm.fr] at h
  | .fn a, d, x, h => fr_down a (d + 1) x h
  | .use a b, d, x, h => by
    rcases List.mem_append.mp h with z | z
    · exact List.mem_append_left _ (fr_down a d x z)
    · exact List.mem_append_right _ (fr_down b d x z)
  | .up a, d, x, h => fr_down a d x h
  | .dn a, d, x, h => fr_down a d x h
  | .iff a b c, d, x, h => by
    rcases List.mem_append.mp h with z | z
    · exact List.mem_append_left _ (fr_down a d x z)
    · rcases List.mem_append.mp z with z | z
      · exact List.mem_append_right _ (List.mem_append_left _ (fr_down b d x z))
      · exact List.mem_append_right _ (List.mem_append_right _ (fr_down c d x z))
theorem fr_shift (t : Tm) : ∀ (d x : Nat), x ∈ t.fr d → x + d ∈ t.fr 0
  | 0, x, h => h
  | d + 1, x, h => by
    have q := fr_shift t d (x + 1) (fr_down t d x h)
    have e : x + (d + 1) = x + 1 + d := by omega
    rw [e]
    exact q
theorem fr_wrap (t : Tm) : ∀ (k d : Nat), (t.wrap k).fr d = t.fr (d + k)
  | 0, d => rfl
  | k + 1, d => by
    show (t.wrap k).fr (d + 1) = _
    rw [fr_wrap t k (d + 1)]
    congr 1
    omega
def cl (xs : List Nat) : Nat := xs.foldl (fun m x => max m (x + 1)) 0
theorem cl_ge : ∀ (xs : List Nat) (a : Nat), a ≤ xs.foldl (fun m x => max m (x + 1)) a ∧ ∀ x ∈ xs, x + 1 ≤ xs.foldl (fun m x => max m (x + 1)) a
  | [], a => ⟨Nat.le_refl _, fun x h => by cases h⟩
  | y :: xs, a => by
    obtain ⟨h1, h2⟩ := cl_ge xs (max a (y + 1))
    refine ⟨Nat.le_trans (Nat.le_max_left _ _) h1, fun x h => ?_⟩
    rcases List.mem_cons.mp h with z | z
    · rw [z]; exact Nat.le_trans (Nat.le_max_right _ _) h1
    · exact h2 x z
theorem closed (t : Tm) : (t.wrap (cl (t.fr 0))).fr 0 = [] := by
  rw [fr_wrap, Nat.zero_add]
  cases q : t.fr (cl (t.fr 0)) with
  | nil => rfl
  | cons x xs =>
    have h : x ∈ t.fr (cl (t.fr 0)) := by rw [q]; exact List.mem_cons_self
    have h1 := fr_shift t _ x h
    have h2 := (cl_ge (t.fr 0) 0).2 _ h1
    have : x + cl (t.fr 0) + 1 ≤ cl (t.fr 0) := h2
    omega
theorem max_cl : ∀ (xs : List Nat) (a : Nat), (xs.map fun i : Nat => (i : Int)).foldl max ((a : Int) - 1) = ((xs.foldl (fun m x => max m (x + 1)) a : Nat) : Int) - 1
  | [], a => rfl
  | x :: xs, a => by
    show (xs.map fun i : Nat => (i : Int)).foldl max (max ((a : Int) - 1) (x : Int)) = ((xs.foldl (fun m x => max m (x + 1)) (max a (x + 1)) : Nat) : Int) - 1
    have e : max ((a : Int) - 1) (x : Int) = ((max a (x + 1) : Nat) : Int) - 1 := by omega
    rw [e]
    exact max_cl xs _
theorem max_letters (xs : List Nat) : Co.maxI (-1 :: xs.map fun i : Nat => (i : Int)) = some ((cl xs : Int) - 1) := by
  show some ((xs.map fun i : Nat => (i : Int)).foldl max (-1)) = _
  have := max_cl xs 0
  simp only [Int.natCast_zero, Int.zero_sub] at this
  rw [this]
  rfl
/-- sizes -/
def Tm.sz : Tm → Nat
  | .var _ => 1
  | .num _ => 1
  | .fn a => 1 + a.sz
  | .use a b => 1 + (a.sz + b.sz)
  | .up a => 1 + a.sz
  | .dn a => 1 + a.sz
  | .iff a b c => 1 + (a.sz + (b.sz + c.sz))
theorem fr_len : ∀ (t : Tm) (d : Nat), (t.fr d).length ≤ t.sz
  | .var i, d => by unfold Tm.fr; split <;> simp [Tm.sz]
  | .num i, d => by simp [Tm.fr]
  | .fn a, d => by have := fr_len a (d + 1); show (a.fr (d + 1)).length ≤ 1 + a.sz; omega
  | .use a b, d => by have h := fr_len a d; have h2 := fr_len b d; show (a.fr d ++ b.fr d).length ≤ 1 + (a.sz + b.sz); rw [List.length_append]; omega
  | .up a, d => by have := fr_len a d; show (a.fr d).length ≤ 1 + a.sz; omega
  | .dn a, d => by have := fr_len a d; show (a.fr d).length ≤ 1 + a.sz; omega
  | .iff a b c, d => by have h := fr_len a d; have h2 := fr_len b d; have h3 := fr_len c d; show (a.fr d ++ (b.fr d ++ c.fr d)).length ≤ 1 + (a.sz + (b.sz + c.sz)); rw [List.length_append, List.length_append]; omega
end K04


set_option Elab.async false
set_option linter.all false
set_option maxRecDepth 100000
set_option maxHeartbeats 8000000
namespace Co
open PySem
theorem ext_ev {cf : CF} {gg : G} {fuel i : Nat} {e : E} {ρ : Env} {x : W} {os : List O} {ds : List D} (hi : ρ[i]? = some (some (.own (.l os)))) (he : e.ev cf gg ρ = .ok (.w x) ρ) (hx : x.dat = .list ds) (hl : os.length + ds.length ≤ 1000000) :
    S.ex cf gg fuel (.ext i e) ρ = .nx (ρ.set i (some (.own (.l (os ++ ds.map .d))))) := by
  show (if isL i ρ then Fl.of (e.ev cf gg ρ) fun z ρ1 => Fl.of (nonBw z ρ1) fun x ρ2 => chg i ρ2 (extF x.dat) else .bad) = _
  have h1 : isL i ρ = true := by unfold isL; rw [hi]; rfl
  rw [if_pos h1, he]
  show chg i ρ (extF x.dat) = _
  unfold chg
  rw [hi, hx]
  show (match extF (.list ds) os with
      | some os' => Fl.nx (ρ.set i (some ((W.own (.l os)).re (.l os'))))
      | none => .bad) = _
  have h2 : extF (.list ds) os = some (os ++ ds.map .d) := by
    show (if os.length + ds.length ≤ sizeLine then some (os ++ ds.map .d) else none) = _
    rw [if_pos (by rw [sizeLine_eq]; omega)]
  rw [h2]
  rfl
end Co
namespace K04
open PySem Co
def iD (ns : List Nat) : List D := ns.map fun i : Nat => PyData.int i
def lO (ns : List Nat) : O := .l ((iD ns).map .d)
theorem lO_dat (ns : List Nat) : (W.own (lO ns)).dat = .list (iD ns) := by
  show PyData.list (O.frzs ((iD ns).map .d)) = _
  rw [frz_map]
theorem letters_step {n : Nat} (l m : Nat) (hd : Str) (ts : List D) (ls : List (List Nat)) (hok : PyData.strOk hd = true) (hv : (hd == "var") = false) (hm : m = if (hd == "fun") = true then l + 1 else l) (hle : ts.length = ls.length) (hlen : ls.flatten.length ≤ 900000)
    (hk : callN tab g fuel n "children" [.fz (.tuple (.str hd :: ts))] = .ret (.fz (.tuple ts)) []) (hr : ∀ d e, (d, e) ∈ ts.zip ls → ∃ w, callN tab g fuel n "letters_in" [.fz d, .fz (.int m)] = .ret w [] ∧ w.dat = .list (iD e) ∧ w.isIo = false) :
    callN tab g fuel (n + 1) "letters_in" [.fz (.tuple (.str hd :: ts)), .fz (.int l)] = .ret (.fz (.list (iD ls.flatten))) [] := by
  rw [e_letters_in]
  generalize callN tab g fuel n = cf at hk hr ⊢
  have hi : ∀ o, I.ev cf g (.seq (.call "children" (.cons (.v 0) .nil))) [some (.fz (.tuple (.str hd :: ts))), some (.fz (.int l)), o, none] = .ok ts [some (.fz (.tuple (.str hd :: ts))), some (.fz (.int l)), o, none] := by
    intro o
    simp only [ev_v, ev_rd, ev_g, ev_k, ev_bin, ev_cmp, ev_chain, ev_andE, ev_orE, ev_nt, ev_ife, ev_tup, ev_lst, ev_ix, ev_sl, ev_call, ev_callk, ev_own, ev_b1, ev_b2, ev_isi, ev_gin, ev_gix, ss_nil, ss_cons, ex_asg, ex_par, ex_ife, ex_ret, setTg_n, Es.ev, T.tst, I.ev, two_none, two_some, isRd, rdZ, vZ, List.getElem?_cons_zero, List.getElem?_cons_succ, R.bind_ok, ixF_fz, ixT, at0, at1, at2, ofD_some, liftO_some, nonBw_w, cmpT_fz, Z.dat_fz, Fl.of_ok, dc1, dc2, dc3, dc4, dca1, dca2, dca3, dca4, dcaO1, dcaO2, po1, po2, po3, po4, io_fz, wdat, tup0, tup1, tup2, tup3, tup4, lst0, lst1, lst3, hk] <;> rfl
  obtain ⟨ρ', e1, x, e2⟩ := for_inv (body := fun d ρ => match setTg (.n 3) d ρ with
      | some ρ' => Ss.ex cf g fuel (.cons (.ext 2 (.call "letters_in" (.cons (.v 3) (.cons (.ife (.cmp .eq (.ix (.rd 0) (.k (.int 0))) (.k (.str "fun"))) (.bin .add (.rd 1) (.k (.int 1))) (.v 1)) .nil)))) .nil) ρ'
      | none => .bad) (Iv := fun i ρ => ∃ x, ρ = [some (.fz (.tuple (.str hd :: ts))), some (.fz (.int l)), some (.own (lO (ls.take i).flatten)), x]) ts 0 [some (.fz (.tuple (.str hd :: ts))), some (.fz (.int l)), some (.own (.l [])), none] ⟨none, rfl⟩ fun i d ρ hdi ⟨x, hx⟩ => by
    subst hx
    rw [Nat.zero_add]
    have hil : i < ls.length := by rw [← hle]; exact (List.getElem?_eq_some_iff.mp hdi).1
    have hmem : (d, ls[i]) ∈ ts.zip ls := List.mem_of_getElem? (i := i) (by rw [List.getElem?_zip_eq_some]; exact ⟨hdi, List.getElem?_eq_getElem hil⟩)
    obtain ⟨w, hc, hwd, hwi⟩ := hr d ls[i] hmem
    have et : (ls.take (i + 1)).flatten = (ls.take i).flatten ++ ls[i] := by
      have e0 : ls.take (i + 1) = ls.take i ++ [ls[i]] := by
        rw [List.take_add_one, List.getElem?_eq_getElem hil]
        rfl
      rw [e0, List.flatten_append]
      simp
    have hlen2 : ((ls.take i).flatten ++ ls[i]).length ≤ 900000 := by
      rw [← et]
      refine Nat.le_trans ?_ hlen
      have : ls.flatten = (ls.take (i + 1)).flatten ++ (ls.drop (i + 1)).flatten := by rw [← List.flatten_append, List.take_append_drop]
      rw [this, List.length_append]
      omega
    refine ⟨[some (.fz (.tuple (.str hd :: ts))), some (.fz (.int l)), some (.own (lO (ls.take (i + 1)).flatten)), some (.fz d)], ?_, _, rfl⟩
    have he : E.ev cf g (.call "letters_in" (.cons (.v 3) (.cons (.ife (.cmp .eq (.ix (.rd 0) (.k (.int 0))) (.k (.str "fun"))) (.bin .add (.rd 1) (.k (.int 1))) (.v 1)) .nil))) [some (.fz (.tuple (.str hd :: ts))), some (.fz (.int l)), some (.own (lO (ls.take i).flatten)), some (.fz d)] =
        .ok (.w w) [some (.fz (.tuple (.str hd :: ts))), some (.fz (.int l)), some (.own (lO (ls.take i).flatten)), some (.fz d)] := by
      by_cases hf : (hd == "fun") = true
      · rw [if_pos hf] at hm
        subst hm
        simp only [ev_v, ev_rd, ev_g, ev_k, ev_bin, ev_cmp, ev_chain, ev_andE, ev_orE, ev_nt, ev_ife, ev_tup, ev_lst, ev_ix, ev_sl, ev_call, ev_callk, ev_own, ev_b1, ev_b2, ev_isi, ev_gin, ev_gix, ss_nil, ss_cons, ex_asg, ex_par, ex_ife, ex_ret, setTg_n, Es.ev, T.tst, I.ev, two_none, two_some, isRd, rdZ, vZ, List.getElem?_cons_zero, List.getElem?_cons_succ, R.bind_ok, ixF_fz, ixT, at0, at1, at2, ofD_some, liftO_some, nonBw_w, cmpT_fz, Z.dat_fz, Fl.of_ok, dc1, dc2, dc3, dc4, dca1, dca2, dca3, dca4, dcaO1, dcaO2, po1, po2, po3, po4, io_fz, wdat, tup0, tup1, tup2, tup3, tup4, lst0, lst1, lst3, eq_str, hok, ok_fun, Bool.and_self, if_true, hf, binF_fz, addI, ofO_some, ← Int.natCast_add_one, ← Int.natCast_succ, hc]
        exact dcA_nil _ _ _ _ hwi rfl
      · rw [if_neg hf] at hm
        subst hm
        have hf' : (hd == "fun") = false := by simpa using hf
        simp only [ev_v, ev_rd, ev_g, ev_k, ev_bin, ev_cmp, ev_chain, ev_andE, ev_orE, ev_nt, ev_ife, ev_tup, ev_lst, ev_ix, ev_sl, ev_call, ev_callk, ev_own, ev_b1, ev_b2, ev_isi, ev_gin, ev_gix, ss_nil, ss_cons, ex_asg, ex_par, ex_ife, ex_ret, setTg_n, Es.ev, T.tst, I.ev, two_none, two_some, isRd, rdZ, vZ, List.getElem?_cons_zero, List.getElem?_cons_succ, R.bind_ok, ixF_fz, ixT, at0, at1, at2, ofD_some, liftO_some, nonBw_w, cmpT_fz, Z.dat_fz, Fl.of_ok, dc1, dc2, dc3, dc4, dca1, dca2, dca3, dca4, dcaO1, dcaO2, po1, po2, po3, po4, io_fz, wdat, tup0, tup1, tup2, tup3, tup4, lst0, lst1, lst3, eq_str, hok, ok_fun, Bool.and_self, if_true, hf', Bool.false_eq_true, if_false, hc]
        exact dcA_nil _ _ _ _ hwi rfl
    have hx := ext_ev (cf := cf) (gg := g) (fuel := fuel) (i := 2) (os := (iD (ls.take i).flatten).map .d) (ds := iD ls[i]) rfl he hwd (by
      rw [List.length_append] at hlen2
      simp only [iD, List.length_map]
      omega)
    show (S.ex cf g fuel (.ext 2 _) [some (.fz (.tuple (.str hd :: ts))), some (.fz (.int l)), some (.own (lO (ls.take i).flatten)), some (.fz d)]).then _ = _
    rw [hx, et]
    show Fl.nx [some (.fz (.tuple (.str hd :: ts))), some (.fz (.int l)), some (.own (.l ((iD (ls.take i).flatten).map .d ++ (iD ls[i]).map .d))), some (.fz d)] = _
    unfold lO iD
    rw [List.map_append, List.map_append]
  rw [Nat.zero_add, hle, List.take_length] at e2
  subst e2
  have hf : S.ex cf g fuel (.for (.n 3) (.seq (.call "children" (.cons (.v 0) .nil))) (.cons (.ext 2 (.call "letters_in" (.cons (.v 3) (.cons (.ife (.cmp .eq (.ix (.rd 0) (.k (.int 0))) (.k (.str "fun"))) (.bin .add (.rd 1) (.k (.int 1))) (.v 1)) .nil)))) .nil)) [some (.fz (.tuple (.str hd :: ts))), some (.fz (.int l)), some (.own (.l [])), none] = .nx [some (.fz (.tuple (.str hd :: ts))), some (.fz (.int l)), some (.own (lO ls.flatten)), x] := by
    rw [ex_for, hi]
    exact e1
  rw [← lO_dat]
  generalize lO ls.flatten = L at hf ⊢
  simp only [d_letters_in, ev_v, ev_rd, ev_g, ev_k, ev_bin, ev_cmp, ev_chain, ev_andE, ev_orE, ev_nt, ev_ife, ev_tup, ev_lst, ev_ix, ev_sl, ev_call, ev_callk, ev_own, ev_b1, ev_b2, ev_isi, ev_gin, ev_gix, ss_nil, ss_cons, ex_asg, ex_par, ex_ife, ex_ret, setTg_n, Es.ev, T.tst, I.ev, two_none, two_some, isRd, rdZ, vZ, List.getElem?_cons_zero, List.getElem?_cons_succ, R.bind_ok, ixF_fz, ixT, at0, at1, at2, ofD_some, liftO_some, nonBw_w, cmpT_fz, Z.dat_fz, Fl.of_ok, dc1, dc2, dc3, dc4, dca1, dca2, dca3, dca4, dcaO1, dcaO2, po1, po2, po3, po4, io_fz, wdat, tup0, tup1, tup2, tup3, tup4, lst0, lst1, lst3, eq_str, ok_var, hok, Bool.and_self, if_true, hv, Bool.false_eq_true, if_false, Fl.then_nx, List.set_cons_succ, List.set_cons_zero, hf] <;> rfl
theorem free_step {n : Nat} (l m : Nat) (hd : Str) (ts : List D) (ls : List (List Nat)) (hok : PyData.strOk hd = true) (hv : (hd == "var") = false) (hm : m = if (hd == "fun") = true then l + 1 else l) (hle : ts.length = ls.length) (hlen : ls.flatten.length ≤ 900000)
    (hk : callN tab g fuel n "_law_kids" [.fz (.tuple (.str hd :: ts))] = .ret (.fz (.tuple ts)) []) (hr : ∀ d e, (d, e) ∈ ts.zip ls → ∃ w, callN tab g fuel n "_law_free" [.fz d, .fz (.int m)] = .ret w [] ∧ w.dat = .list (iD e) ∧ w.isIo = false) :
    callN tab g fuel (n + 1) "_law_free" [.fz (.tuple (.str hd :: ts)), .fz (.int l)] = .ret (.fz (.list (iD ls.flatten))) [] := by
  rw [e__law_free]
  generalize callN tab g fuel n = cf at hk hr ⊢
  have hi : ∀ o, I.ev cf g (.seq (.call "_law_kids" (.cons (.v 0) .nil))) [some (.fz (.tuple (.str hd :: ts))), some (.fz (.int l)), o, none] = .ok ts [some (.fz (.tuple (.str hd :: ts))), some (.fz (.int l)), o, none] := by
    intro o
    simp only [ev_v, ev_rd, ev_g, ev_k, ev_bin, ev_cmp, ev_chain, ev_andE, ev_orE, ev_nt, ev_ife, ev_tup, ev_lst, ev_ix, ev_sl, ev_call, ev_callk, ev_own, ev_b1, ev_b2, ev_isi, ev_gin, ev_gix, ss_nil, ss_cons, ex_asg, ex_par, ex_ife, ex_ret, setTg_n, Es.ev, T.tst, I.ev, two_none, two_some, isRd, rdZ, vZ, List.getElem?_cons_zero, List.getElem?_cons_succ, R.bind_ok, ixF_fz, ixT, at0, at1, at2, ofD_some, liftO_some, nonBw_w, cmpT_fz, Z.dat_fz, Fl.of_ok, dc1, dc2, dc3, dc4, dca1, dca2, dca3, dca4, dcaO1, dcaO2, po1, po2, po3, po4, io_fz, wdat, tup0, tup1, tup2, tup3, tup4, lst0, lst1, lst3, hk] <;> rfl
  obtain ⟨ρ', e1, x, e2⟩ := for_inv (body := fun d ρ => match setTg (.n 3) d ρ with
      | some ρ' => Ss.ex cf g fuel (.cons (.ext 2 (.call "_law_free" (.cons (.v 3) (.cons (.bin .add (.rd 1) (.b1 .int (.cmp .eq (.ix (.rd 0) (.k (.int 0))) (.k (.str "fun"))))) .nil)))) .nil) ρ'
      | none => .bad) (Iv := fun i ρ => ∃ x, ρ = [some (.fz (.tuple (.str hd :: ts))), some (.fz (.int l)), some (.own (lO (ls.take i).flatten)), x]) ts 0 [some (.fz (.tuple (.str hd :: ts))), some (.fz (.int l)), some (.own (.l [])), none] ⟨none, rfl⟩ fun i d ρ hdi ⟨x, hx⟩ => by
    subst hx
    rw [Nat.zero_add]
    have hil : i < ls.length := by rw [← hle]; exact (List.getElem?_eq_some_iff.mp hdi).1
    have hmem : (d, ls[i]) ∈ ts.zip ls := List.mem_of_getElem? (i := i) (by rw [List.getElem?_zip_eq_some]; exact ⟨hdi, List.getElem?_eq_getElem hil⟩)
    obtain ⟨w, hc, hwd, hwi⟩ := hr d ls[i] hmem
    have et : (ls.take (i + 1)).flatten = (ls.take i).flatten ++ ls[i] := by
      have e0 : ls.take (i + 1) = ls.take i ++ [ls[i]] := by
        rw [List.take_add_one, List.getElem?_eq_getElem hil]
        rfl
      rw [e0, List.flatten_append]
      simp
    have hlen2 : ((ls.take i).flatten ++ ls[i]).length ≤ 900000 := by
      rw [← et]
      refine Nat.le_trans ?_ hlen
      have : ls.flatten = (ls.take (i + 1)).flatten ++ (ls.drop (i + 1)).flatten := by rw [← List.flatten_append, List.take_append_drop]
      rw [this, List.length_append]
      omega
    refine ⟨[some (.fz (.tuple (.str hd :: ts))), some (.fz (.int l)), some (.own (lO (ls.take (i + 1)).flatten)), some (.fz d)], ?_, _, rfl⟩
    have he : E.ev cf g (.call "_law_free" (.cons (.v 3) (.cons (.bin .add (.rd 1) (.b1 .int (.cmp .eq (.ix (.rd 0) (.k (.int 0))) (.k (.str "fun"))))) .nil))) [some (.fz (.tuple (.str hd :: ts))), some (.fz (.int l)), some (.own (lO (ls.take i).flatten)), some (.fz d)] =
        .ok (.w w) [some (.fz (.tuple (.str hd :: ts))), some (.fz (.int l)), some (.own (lO (ls.take i).flatten)), some (.fz d)] := by
      have hm' : (l : Int) + (if (hd == "fun") = true then 1 else 0) = m := by
        rw [hm]
        split <;> simp
      simp only [ev_v, ev_rd, ev_g, ev_k, ev_bin, ev_cmp, ev_chain, ev_andE, ev_orE, ev_nt, ev_ife, ev_tup, ev_lst, ev_ix, ev_sl, ev_call, ev_callk, ev_own, ev_b1, ev_b2, ev_isi, ev_gin, ev_gix, ss_nil, ss_cons, ex_asg, ex_par, ex_ife, ex_ret, setTg_n, Es.ev, T.tst, I.ev, two_none, two_some, isRd, rdZ, vZ, List.getElem?_cons_zero, List.getElem?_cons_succ, R.bind_ok, ixF_fz, ixT, at0, at1, at2, ofD_some, liftO_some, nonBw_w, cmpT_fz, Z.dat_fz, Fl.of_ok, dc1, dc2, dc3, dc4, dca1, dca2, dca3, dca4, dcaO1, dcaO2, po1, po2, po3, po4, io_fz, wdat, tup0, tup1, tup2, tup3, tup4, lst0, lst1, lst3, cmpF_fz, eq_str, hok, ok_fun, Bool.and_self, if_true, map_bool, b1_int, binF_fz, addI, ofO_some, hm', hc]
      exact dcA_nil _ _ _ _ hwi rfl
    have hx := ext_ev (cf := cf) (gg := g) (fuel := fuel) (i := 2) (os := (iD (ls.take i).flatten).map .d) (ds := iD ls[i]) rfl he hwd (by
      rw [List.length_append] at hlen2
      simp only [iD, List.length_map]
      omega)
    show (S.ex cf g fuel (.ext 2 _) [some (.fz (.tuple (.str hd :: ts))), some (.fz (.int l)), some (.own (lO (ls.take i).flatten)), some (.fz d)]).then _ = _
    rw [hx, et]
    show Fl.nx [some (.fz (.tuple (.str hd :: ts))), some (.fz (.int l)), some (.own (.l ((iD (ls.take i).flatten).map .d ++ (iD ls[i]).map .d))), some (.fz d)] = _
    unfold lO iD
    rw [List.map_append, List.map_append]
  rw [Nat.zero_add, hle, List.take_length] at e2
  subst e2
  have hf : S.ex cf g fuel (.for (.n 3) (.seq (.call "_law_kids" (.cons (.v 0) .nil))) (.cons (.ext 2 (.call "_law_free" (.cons (.v 3) (.cons (.bin .add (.rd 1) (.b1 .int (.cmp .eq (.ix (.rd 0) (.k (.int 0))) (.k (.str "fun"))))) .nil)))) .nil)) [some (.fz (.tuple (.str hd :: ts))), some (.fz (.int l)), some (.own (.l [])), none] = .nx [some (.fz (.tuple (.str hd :: ts))), some (.fz (.int l)), some (.own (lO ls.flatten)), x] := by
    rw [ex_for, hi]
    exact e1
  rw [← lO_dat]
  generalize lO ls.flatten = L at hf ⊢
  simp only [d__law_free, ev_v, ev_rd, ev_g, ev_k, ev_bin, ev_cmp, ev_chain, ev_andE, ev_orE, ev_nt, ev_ife, ev_tup, ev_lst, ev_ix, ev_sl, ev_call, ev_callk, ev_own, ev_b1, ev_b2, ev_isi, ev_gin, ev_gix, ss_nil, ss_cons, ex_asg, ex_par, ex_ife, ex_ret, setTg_n, Es.ev, T.tst, I.ev, two_none, two_some, isRd, rdZ, vZ, List.getElem?_cons_zero, List.getElem?_cons_succ, R.bind_ok, ixF_fz, ixT, at0, at1, at2, ofD_some, liftO_some, nonBw_w, cmpT_fz, Z.dat_fz, Fl.of_ok, dc1, dc2, dc3, dc4, dca1, dca2, dca3, dca4, dcaO1, dcaO2, po1, po2, po3, po4, io_fz, wdat, tup0, tup1, tup2, tup3, tup4, lst0, lst1, lst3, eq_str, ok_var, hok, Bool.and_self, if_true, hv, Bool.false_eq_true, if_false, Fl.then_nx, List.set_cons_succ, List.set_cons_zero, hf] <;> rfl
theorem letters_ok : ∀ (t : Tm) (l n : Nat), t.ht + 1 ≤ n → t.sz ≤ 900000 → ∃ w, callN tab g fuel n "letters_in" [.fz (enc t), .fz (.int l)] = .ret w [] ∧ w.dat = .list (iD (t.fr l)) ∧ w.isIo = false ∧ (Z.w w).el = some w.dat
  | .var i, l, n, h, hz => by
    obtain ⟨n, rfl⟩ : ∃ m, n = m + 1 := ⟨n - 1, by omega⟩
    rw [e_letters_in]
    by_cases c : l ≤ i
    · have c' : (l : Int) ≤ i := by omega
      refine ⟨.own (.l [.d (.int ((i : Int) - l))]), ?_, ?_, rfl, rfl⟩
      · simp only [d_letters_in, ev_v, ev_rd, ev_g, ev_k, ev_bin, ev_cmp, ev_chain, ev_andE, ev_orE, ev_nt, ev_ife, ev_tup, ev_lst, ev_ix, ev_sl, ev_call, ev_callk, ev_own, ev_b1, ev_b2, ev_isi, ev_gin, ev_gix, ss_nil, ss_cons, ex_asg, ex_par, ex_ife, ex_ret, setTg_n, Es.ev, T.tst, I.ev, two_none, two_some, isRd, rdZ, vZ, List.getElem?_cons_zero, List.getElem?_cons_succ, R.bind_ok, ixF_fz, ixT, at0, at1, at2, ofD_some, liftO_some, nonBw_w, cmpT_fz, Z.dat_fz, Fl.of_ok, dc1, dc2, dc3, dc4, dca1, dca2, dca3, dca4, dcaO1, dcaO2, po1, po2, po3, po4, io_fz, wdat, tup0, tup1, tup2, tup3, tup4, lst0, lst1, lst3, enc, eq_str, ok_var, Bool.and_self, if_true, BEq.rfl, cmp_ge, decide_eq_true c', binF_fz, subI, ofO_some] <;> rfl
      · unfold Tm.fr
        rw [if_pos c]
        show PyData.list [.int ((i : Int) - l)] = .list [.int ((i - l : Nat) : Int)]
        have e : ((i - l : Nat) : Int) = (i : Int) - l := by omega
        rw [e]
    · have c' : ¬ (l : Int) ≤ i := by omega
      refine ⟨.own (.l []), ?_, ?_, rfl, rfl⟩
      · simp only [d_letters_in, ev_v, ev_rd, ev_g, ev_k, ev_bin, ev_cmp, ev_chain, ev_andE, ev_orE, ev_nt, ev_ife, ev_tup, ev_lst, ev_ix, ev_sl, ev_call, ev_callk, ev_own, ev_b1, ev_b2, ev_isi, ev_gin, ev_gix, ss_nil, ss_cons, ex_asg, ex_par, ex_ife, ex_ret, setTg_n, Es.ev, T.tst, I.ev, two_none, two_some, isRd, rdZ, vZ, List.getElem?_cons_zero, List.getElem?_cons_succ, R.bind_ok, ixF_fz, ixT, at0, at1, at2, ofD_some, liftO_some, nonBw_w, cmpT_fz, Z.dat_fz, Fl.of_ok, dc1, dc2, dc3, dc4, dca1, dca2, dca3, dca4, dcaO1, dcaO2, po1, po2, po3, po4, io_fz, wdat, tup0, tup1, tup2, tup3, tup4, lst0, lst1, lst3, enc, eq_str, ok_var, Bool.and_self, if_true, BEq.rfl, cmp_ge, decide_eq_false c', Bool.false_eq_true, if_false] <;> rfl
      · unfold Tm.fr
        rw [if_neg c]
        rfl
  | .num i, l, n, h, hz => by
    obtain ⟨n, rfl⟩ : ∃ m, n = m + 1 := ⟨n - 1, by omega⟩
    refine ⟨.fz (.list []), ?_, rfl, rfl, rfl⟩
    rw [e_letters_in]
    have hc := children_ok (n := n) (.num i) (by simp only [Tm.ht] at h; omega)
    have q0 : (("num" : Str) == "var") = false := by decide +kernel
    simp only [enc] at hc
    simp only [d_letters_in, ev_v, ev_rd, ev_g, ev_k, ev_bin, ev_cmp, ev_chain, ev_andE, ev_orE, ev_nt, ev_ife, ev_tup, ev_lst, ev_ix, ev_sl, ev_call, ev_callk, ev_own, ev_b1, ev_b2, ev_isi, ev_gin, ev_gix, ss_nil, ss_cons, ex_asg, ex_par, ex_ife, ex_ret, setTg_n, Es.ev, T.tst, I.ev, two_none, two_some, isRd, rdZ, vZ, List.getElem?_cons_zero, List.getElem?_cons_succ, R.bind_ok, ixF_fz, ixT, at0, at1, at2, ofD_some, liftO_some, nonBw_w, cmpT_fz, Z.dat_fz, Fl.of_ok, dc1, dc2, dc3, dc4, dca1, dca2, dca3, dca4, dcaO1, dcaO2, po1, po2, po3, po4, io_fz, wdat, tup0, tup1, tup2, tup3, tup4, lst0, lst1, lst3, enc, eq_str, ok_var, ok_num, q0, Bool.and_self, if_true, Bool.false_eq_true, if_false, Fl.then_nx, List.set_cons_succ, List.set_cons_zero, ex_for, hc] <;> rfl
  | .fn a, l, n, h, hz => by
    obtain ⟨n, rfl⟩ : ∃ m, n = m + 1 := ⟨n - 1, by omega⟩
    have h1 := letters_ok a (l + 1) n (by simp only [Tm.ht] at h; omega) (by simp only [Tm.sz] at hz; omega)
    have hn : 1 ≤ n := by simp only [Tm.ht] at h; omega
    have hb := fr_len (.fn a) l
    have hfl : (Tm.fn a).fr l = ([a.fr (l + 1)] : List (List Nat)).flatten := by simp [Tm.fr]
    have hlen : ([a.fr (l + 1)] : List (List Nat)).flatten.length ≤ 900000 := by rw [← hfl]; exact Nat.le_trans hb hz
    refine ⟨_, letters_step l (l + 1) "fun" [enc a] [a.fr (l + 1)] (by decide +kernel) (by decide +kernel) (by rw [if_pos (by decide +kernel)]) rfl hlen (children_ok (.fn a) hn) (fun d e hm => ?_), by rw [hfl]; rfl, rfl, rfl⟩
    simp only [List.zip_cons_cons, List.zip_nil_right, List.mem_cons, List.not_mem_nil, or_false] at hm
    cases hm
    obtain ⟨w, a1, a2, a3, _⟩ := h1; exact ⟨w, a1, a2, a3⟩
  | .use a b, l, n, h, hz => by
    obtain ⟨n, rfl⟩ : ∃ m, n = m + 1 := ⟨n - 1, by omega⟩
    have h1 := letters_ok a l n (by simp only [Tm.ht] at h; omega) (by simp only [Tm.sz] at hz; omega)
    have h2 := letters_ok b l n (by simp only [Tm.ht] at h; omega) (by simp only [Tm.sz] at hz; omega)
    have hn : 1 ≤ n := by simp only [Tm.ht] at h; omega
    have hb := fr_len (.use a b) l
    have hfl : (Tm.use a b).fr l = ([a.fr l, b.fr l] : List (List Nat)).flatten := by simp [Tm.fr]
    have hlen : ([a.fr l, b.fr l] : List (List Nat)).flatten.length ≤ 900000 := by rw [← hfl]; exact Nat.le_trans hb hz
    refine ⟨_, letters_step l l "use" [enc a, enc b] [a.fr l, b.fr l] (by decide +kernel) (by decide +kernel) (by rw [if_neg (by decide +kernel)]) rfl hlen (children_ok (.use a b) hn) (fun d e hm => ?_), by rw [hfl]; rfl, rfl, rfl⟩
    simp only [List.zip_cons_cons, List.zip_nil_right, List.mem_cons, List.not_mem_nil, or_false] at hm
    rcases hm with hm | hm
    · cases hm; obtain ⟨w, a1, a2, a3, _⟩ := h1; exact ⟨w, a1, a2, a3⟩
    · cases hm; obtain ⟨w, a1, a2, a3, _⟩ := h2; exact ⟨w, a1, a2, a3⟩
  | .up a, l, n, h, hz => by
    obtain ⟨n, rfl⟩ : ∃ m, n = m + 1 := ⟨n - 1, by omega⟩
    have h1 := letters_ok a l n (by simp only [Tm.ht] at h; omega) (by simp only [Tm.sz] at hz; omega)
    have hn : 1 ≤ n := by simp only [Tm.ht] at h; omega
    have hb := fr_len (.up a) l
    have hfl : (Tm.up a).fr l = ([a.fr l] : List (List Nat)).flatten := by simp [Tm.fr]
    have hlen : ([a.fr l] : List (List Nat)).flatten.length ≤ 900000 := by rw [← hfl]; exact Nat.le_trans hb hz
    refine ⟨_, letters_step l l "up" [enc a] [a.fr l] (by decide +kernel) (by decide +kernel) (by rw [if_neg (by decide +kernel)]) rfl hlen (children_ok (.up a) hn) (fun d e hm => ?_), by rw [hfl]; rfl, rfl, rfl⟩
    simp only [List.zip_cons_cons, List.zip_nil_right, List.mem_cons, List.not_mem_nil, or_false] at hm
    cases hm
    obtain ⟨w, a1, a2, a3, _⟩ := h1; exact ⟨w, a1, a2, a3⟩
  | .dn a, l, n, h, hz => by
    obtain ⟨n, rfl⟩ : ∃ m, n = m + 1 := ⟨n - 1, by omega⟩
    have h1 := letters_ok a l n (by simp only [Tm.ht] at h; omega) (by simp only [Tm.sz] at hz; omega)
    have hn : 1 ≤ n := by simp only [Tm.ht] at h; omega
    have hb := fr_len (.dn a) l
    have hfl : (Tm.dn a).fr l = ([a.fr l] : List (List Nat)).flatten := by simp [Tm.fr]
    have hlen : ([a.fr l] : List (List Nat)).flatten.length ≤ 900000 := by rw [← hfl]; exact Nat.le_trans hb hz
    refine ⟨_, letters_step l l "down" [enc a] [a.fr l] (by decide +kernel) (by decide +kernel) (by rw [if_neg (by decide +kernel)]) rfl hlen (children_ok (.dn a) hn) (fun d e hm => ?_), by rw [hfl]; rfl, rfl, rfl⟩
    simp only [List.zip_cons_cons, List.zip_nil_right, List.mem_cons, List.not_mem_nil, or_false] at hm
    cases hm
    obtain ⟨w, a1, a2, a3, _⟩ := h1; exact ⟨w, a1, a2, a3⟩
  | .iff a b c, l, n, h, hz => by
    obtain ⟨n, rfl⟩ : ∃ m, n = m + 1 := ⟨n - 1, by omega⟩
    have h1 := letters_ok a l n (by simp only [Tm.ht] at h; omega) (by simp only [Tm.sz] at hz; omega)
    have h2 := letters_ok b l n (by simp only [Tm.ht] at h; omega) (by simp only [Tm.sz] at hz; omega)
    have h3 := letters_ok c l n (by simp only [Tm.ht] at h; omega) (by simp only [Tm.sz] at hz; omega)
    have hn : 1 ≤ n := by simp only [Tm.ht] at h; omega
    have hb := fr_len (.iff a b c) l
    have hfl : (Tm.iff a b c).fr l = ([a.fr l, b.fr l, c.fr l] : List (List Nat)).flatten := by simp [Tm.fr]
    have hlen : ([a.fr l, b.fr l, c.fr l] : List (List Nat)).flatten.length ≤ 900000 := by rw [← hfl]; exact Nat.le_trans hb hz
    refine ⟨_, letters_step l l "if" [enc a, enc b, enc c] [a.fr l, b.fr l, c.fr l] (by decide +kernel) (by decide +kernel) (by rw [if_neg (by decide +kernel)]) rfl hlen (children_ok (.iff a b c) hn) (fun d e hm => ?_), by rw [hfl]; rfl, rfl, rfl⟩
    simp only [List.zip_cons_cons, List.zip_nil_right, List.mem_cons, List.not_mem_nil, or_false] at hm
    rcases hm with hm | hm | hm
    · cases hm; obtain ⟨w, a1, a2, a3, _⟩ := h1; exact ⟨w, a1, a2, a3⟩
    · cases hm; obtain ⟨w, a1, a2, a3, _⟩ := h2; exact ⟨w, a1, a2, a3⟩
    · cases hm; obtain ⟨w, a1, a2, a3, _⟩ := h3; exact ⟨w, a1, a2, a3⟩
theorem free_ok : ∀ (t : Tm) (l n : Nat), t.ht + 1 ≤ n → t.sz ≤ 900000 → ∃ w, callN tab g fuel n "_law_free" [.fz (enc t), .fz (.int l)] = .ret w [] ∧ w.dat = .list (iD (t.fr l)) ∧ w.isIo = false ∧ (Z.w w).el = some w.dat
  | .var i, l, n, h, hz => by
    obtain ⟨n, rfl⟩ : ∃ m, n = m + 1 := ⟨n - 1, by omega⟩
    rw [e__law_free]
    by_cases c : l ≤ i
    · have c' : (l : Int) ≤ i := by omega
      refine ⟨.own (.l [.d (.int ((i : Int) - l))]), ?_, ?_, rfl, rfl⟩
      · simp only [d__law_free, ev_v, ev_rd, ev_g, ev_k, ev_bin, ev_cmp, ev_chain, ev_andE, ev_orE, ev_nt, ev_ife, ev_tup, ev_lst, ev_ix, ev_sl, ev_call, ev_callk, ev_own, ev_b1, ev_b2, ev_isi, ev_gin, ev_gix, ss_nil, ss_cons, ex_asg, ex_par, ex_ife, ex_ret, setTg_n, Es.ev, T.tst, I.ev, two_none, two_some, isRd, rdZ, vZ, List.getElem?_cons_zero, List.getElem?_cons_succ, R.bind_ok, ixF_fz, ixT, at0, at1, at2, ofD_some, liftO_some, nonBw_w, cmpT_fz, Z.dat_fz, Fl.of_ok, dc1, dc2, dc3, dc4, dca1, dca2, dca3, dca4, dcaO1, dcaO2, po1, po2, po3, po4, io_fz, wdat, tup0, tup1, tup2, tup3, tup4, lst0, lst1, lst3, enc, eq_str, ok_var, Bool.and_self, if_true, BEq.rfl, cmp_ge, decide_eq_true c', binF_fz, subI, ofO_some] <;> rfl
      · unfold Tm.fr
        rw [if_pos c]
        show PyData.list [.int ((i : Int) - l)] = .list [.int ((i - l : Nat) : Int)]
        have e : ((i - l : Nat) : Int) = (i : Int) - l := by omega
        rw [e]
    · have c' : ¬ (l : Int) ≤ i := by omega
      refine ⟨.own (.l []), ?_, ?_, rfl, rfl⟩
      · simp only [d__law_free, ev_v, ev_rd, ev_g, ev_k, ev_bin, ev_cmp, ev_chain, ev_andE, ev_orE, ev_nt, ev_ife, ev_tup, ev_lst, ev_ix, ev_sl, ev_call, ev_callk, ev_own, ev_b1, ev_b2, ev_isi, ev_gin, ev_gix, ss_nil, ss_cons, ex_asg, ex_par, ex_ife, ex_ret, setTg_n, Es.ev, T.tst, I.ev, two_none, two_some, isRd, rdZ, vZ, List.getElem?_cons_zero, List.getElem?_cons_succ, R.bind_ok, ixF_fz, ixT, at0, at1, at2, ofD_some, liftO_some, nonBw_w, cmpT_fz, Z.dat_fz, Fl.of_ok, dc1, dc2, dc3, dc4, dca1, dca2, dca3, dca4, dcaO1, dcaO2, po1, po2, po3, po4, io_fz, wdat, tup0, tup1, tup2, tup3, tup4, lst0, lst1, lst3, enc, eq_str, ok_var, Bool.and_self, if_true, BEq.rfl, cmp_ge, decide_eq_false c', Bool.false_eq_true, if_false] <;> rfl
      · unfold Tm.fr
        rw [if_neg c]
        rfl
  | .num i, l, n, h, hz => by
    obtain ⟨n, rfl⟩ : ∃ m, n = m + 1 := ⟨n - 1, by omega⟩
    refine ⟨.fz (.list []), ?_, rfl, rfl, rfl⟩
    rw [e__law_free]
    have hc := kids_ok (n := n) (.num i) (by simp only [Tm.ht] at h; omega)
    have q0 : (("num" : Str) == "var") = false := by decide +kernel
    simp only [enc] at hc
    simp only [d__law_free, ev_v, ev_rd, ev_g, ev_k, ev_bin, ev_cmp, ev_chain, ev_andE, ev_orE, ev_nt, ev_ife, ev_tup, ev_lst, ev_ix, ev_sl, ev_call, ev_callk, ev_own, ev_b1, ev_b2, ev_isi, ev_gin, ev_gix, ss_nil, ss_cons, ex_asg, ex_par, ex_ife, ex_ret, setTg_n, Es.ev, T.tst, I.ev, two_none, two_some, isRd, rdZ, vZ, List.getElem?_cons_zero, List.getElem?_cons_succ, R.bind_ok, ixF_fz, ixT, at0, at1, at2, ofD_some, liftO_some, nonBw_w, cmpT_fz, Z.dat_fz, Fl.of_ok, dc1, dc2, dc3, dc4, dca1, dca2, dca3, dca4, dcaO1, dcaO2, po1, po2, po3, po4, io_fz, wdat, tup0, tup1, tup2, tup3, tup4, lst0, lst1, lst3, enc, eq_str, ok_var, ok_num, q0, Bool.and_self, if_true, Bool.false_eq_true, if_false, Fl.then_nx, List.set_cons_succ, List.set_cons_zero, ex_for, hc] <;> rfl
  | .fn a, l, n, h, hz => by
    obtain ⟨n, rfl⟩ : ∃ m, n = m + 1 := ⟨n - 1, by omega⟩
    have h1 := free_ok a (l + 1) n (by simp only [Tm.ht] at h; omega) (by simp only [Tm.sz] at hz; omega)
    have hn : 1 ≤ n := by simp only [Tm.ht] at h; omega
    have hb := fr_len (.fn a) l
    have hfl : (Tm.fn a).fr l = ([a.fr (l + 1)] : List (List Nat)).flatten := by simp [Tm.fr]
    have hlen : ([a.fr (l + 1)] : List (List Nat)).flatten.length ≤ 900000 := by rw [← hfl]; exact Nat.le_trans hb hz
    refine ⟨_, free_step l (l + 1) "fun" [enc a] [a.fr (l + 1)] (by decide +kernel) (by decide +kernel) (by rw [if_pos (by decide +kernel)]) rfl hlen (kids_ok (.fn a) hn) (fun d e hm => ?_), by rw [hfl]; rfl, rfl, rfl⟩
    simp only [List.zip_cons_cons, List.zip_nil_right, List.mem_cons, List.not_mem_nil, or_false] at hm
    cases hm
    obtain ⟨w, a1, a2, a3, _⟩ := h1; exact ⟨w, a1, a2, a3⟩
  | .use a b, l, n, h, hz => by
    obtain ⟨n, rfl⟩ : ∃ m, n = m + 1 := ⟨n - 1, by omega⟩
    have h1 := free_ok a l n (by simp only [Tm.ht] at h; omega) (by simp only [Tm.sz] at hz; omega)
    have h2 := free_ok b l n (by simp only [Tm.ht] at h; omega) (by simp only [Tm.sz] at hz; omega)
    have hn : 1 ≤ n := by simp only [Tm.ht] at h; omega
    have hb := fr_len (.use a b) l
    have hfl : (Tm.use a b).fr l = ([a.fr l, b.fr l] : List (List Nat)).flatten := by simp [Tm.fr]
    have hlen : ([a.fr l, b.fr l] : List (List Nat)).flatten.length ≤ 900000 := by rw [← hfl]; exact Nat.le_trans hb hz
    refine ⟨_, free_step l l "use" [enc a, enc b] [a.fr l, b.fr l] (by decide +kernel) (by decide +kernel) (by rw [if_neg (by decide +kernel)]) rfl hlen (kids_ok (.use a b) hn) (fun d e hm => ?_), by rw [hfl]; rfl, rfl, rfl⟩
    simp only [List.zip_cons_cons, List.zip_nil_right, List.mem_cons, List.not_mem_nil, or_false] at hm
    rcases hm with hm | hm
    · cases hm; obtain ⟨w, a1, a2, a3, _⟩ := h1; exact ⟨w, a1, a2, a3⟩
    · cases hm; obtain ⟨w, a1, a2, a3, _⟩ := h2; exact ⟨w, a1, a2, a3⟩
  | .up a, l, n, h, hz => by
    obtain ⟨n, rfl⟩ : ∃ m, n = m + 1 := ⟨n - 1, by omega⟩
    have h1 := free_ok a l n (by simp only [Tm.ht] at h; omega) (by simp only [Tm.sz] at hz; omega)
    have hn : 1 ≤ n := by simp only [Tm.ht] at h; omega
    have hb := fr_len (.up a) l
    have hfl : (Tm.up a).fr l = ([a.fr l] : List (List Nat)).flatten := by simp [Tm.fr]
    have hlen : ([a.fr l] : List (List Nat)).flatten.length ≤ 900000 := by rw [← hfl]; exact Nat.le_trans hb hz
    refine ⟨_, free_step l l "up" [enc a] [a.fr l] (by decide +kernel) (by decide +kernel) (by rw [if_neg (by decide +kernel)]) rfl hlen (kids_ok (.up a) hn) (fun d e hm => ?_), by rw [hfl]; rfl, rfl, rfl⟩
    simp only [List.zip_cons_cons, List.zip_nil_right, List.mem_cons, List.not_mem_nil, or_false] at hm
    cases hm
    obtain ⟨w, a1, a2, a3, _⟩ := h1; exact ⟨w, a1, a2, a3⟩
  | .dn a, l, n, h, hz => by
    obtain ⟨n, rfl⟩ : ∃ m, n = m + 1 := ⟨n - 1, by omega⟩
    have h1 := free_ok a l n (by simp only [Tm.ht] at h; omega) (by simp only [Tm.sz] at hz; omega)
    have hn : 1 ≤ n := by simp only [Tm.ht] at h; omega
    have hb := fr_len (.dn a) l
    have hfl : (Tm.dn a).fr l = ([a.fr l] : List (List Nat)).flatten := by simp [Tm.fr]
    have hlen : ([a.fr l] : List (List Nat)).flatten.length ≤ 900000 := by rw [← hfl]; exact Nat.le_trans hb hz
    refine ⟨_, free_step l l "down" [enc a] [a.fr l] (by decide +kernel) (by decide +kernel) (by rw [if_neg (by decide +kernel)]) rfl hlen (kids_ok (.dn a) hn) (fun d e hm => ?_), by rw [hfl]; rfl, rfl, rfl⟩
    simp only [List.zip_cons_cons, List.zip_nil_right, List.mem_cons, List.not_mem_nil, or_false] at hm
    cases hm
    obtain ⟨w, a1, a2, a3, _⟩ := h1; exact ⟨w, a1, a2, a3⟩
  | .iff a b c, l, n, h, hz => by
    obtain ⟨n, rfl⟩ : ∃ m, n = m + 1 := ⟨n - 1, by omega⟩
    have h1 := free_ok a l n (by simp only [Tm.ht] at h; omega) (by simp only [Tm.sz] at hz; omega)
    have h2 := free_ok b l n (by simp only [Tm.ht] at h; omega) (by simp only [Tm.sz] at hz; omega)
    have h3 := free_ok c l n (by simp only [Tm.ht] at h; omega) (by simp only [Tm.sz] at hz; omega)
    have hn : 1 ≤ n := by simp only [Tm.ht] at h; omega
    have hb := fr_len (.iff a b c) l
    have hfl : (Tm.iff a b c).fr l = ([a.fr l, b.fr l, c.fr l] : List (List Nat)).flatten := by simp [Tm.fr]
    have hlen : ([a.fr l, b.fr l, c.fr l] : List (List Nat)).flatten.length ≤ 900000 := by rw [← hfl]; exact Nat.le_trans hb hz
    refine ⟨_, free_step l l "if" [enc a, enc b, enc c] [a.fr l, b.fr l, c.fr l] (by decide +kernel) (by decide +kernel) (by rw [if_neg (by decide +kernel)]) rfl hlen (kids_ok (.iff a b c) hn) (fun d e hm => ?_), by rw [hfl]; rfl, rfl, rfl⟩
    simp only [List.zip_cons_cons, List.zip_nil_right, List.mem_cons, List.not_mem_nil, or_false] at hm
    rcases hm with hm | hm | hm
    · cases hm; obtain ⟨w, a1, a2, a3, _⟩ := h1; exact ⟨w, a1, a2, a3⟩
    · cases hm; obtain ⟨w, a1, a2, a3, _⟩ := h2; exact ⟨w, a1, a2, a3⟩
    · cases hm; obtain ⟨w, a1, a2, a3, _⟩ := h3; exact ⟨w, a1, a2, a3⟩
theorem ints_iD : ∀ ns : List Nat, intsD (iD ns) = some (ns.map fun i : Nat => (i : Int))
  | [] => rfl
  | n :: ns => by
    show (intsD (iD ns)).map ((n : Int) :: ·) = _
    rw [ints_iD ns]
    rfl
theorem sum_cast : ∀ ns : List Nat, (ns.map fun i : Nat => (i : Int)).sum = ((ns.sum : Nat) : Int)
  | [] => rfl
  | n :: ns => by
    rw [List.map_cons, List.sum_cons, List.sum_cons, sum_cast ns]
    omega
theorem b1_sum (ns : List Nat) (ρ : Co.Env) : b1F .sum (.w (.own (lO ns))) ρ = .ok (.w (.fz (.int ((ns.sum : Nat) : Int)))) ρ := by
  show ofO (b1D .sum (W.own (lO ns)).dat) ρ = _
  rw [lO_dat]
  show ofO ((intsD (iD ns)).map fun ns => W.fz (.int ns.sum)) ρ = _
  rw [ints_iD]
  show R.ok (Z.w (.fz (.int (ns.map fun i : Nat => (i : Int)).sum))) ρ = _
  rw [sum_cast]
theorem size_step {n : Nat} (d : D) (ts : List D) (ls : List Nat) (hl : ts.length ≤ 900000) (hle : ts.length = ls.length)
    (hk : callN tab g fuel n "_law_kids" [.fz d] = .ret (.fz (.tuple ts)) []) (hr : ∀ x s, (x, s) ∈ ts.zip ls → callN tab g fuel n "_law_size" [.fz x] = .ret (.fz (.int (s : Nat))) []) :
    callN tab g fuel (n + 1) "_law_size" [.fz d] = .ret (.fz (.int ((1 + ls.sum : Nat) : Int))) [] := by
  rw [e__law_size]
  have hlc : ∀ ρ, E.ev (callN tab g fuel n) g (.lc [("own", 1)] (.n 1) (.seq (.call "_law_kids" (.cons (.v 0) .nil))) .yes (.call "_law_size" (.cons (.v 1) .nil))) [some (.fz d), ρ] = .ok (.w (.own (lO ls))) [some (.fz d), none] := by
    intro ρ
    refine lc_map (ds := ts) (ρ := [some (.fz d), ρ]) ?_ (by omega) (fun x e hde => ?_) (by simp only [iD, List.length_map]; exact hle)
    · simp only [ev_v, ev_rd, ev_g, ev_k, ev_bin, ev_cmp, ev_chain, ev_andE, ev_orE, ev_nt, ev_ife, ev_tup, ev_lst, ev_ix, ev_sl, ev_call, ev_callk, ev_own, ev_b1, ev_b2, ev_isi, ev_gin, ev_gix, ss_nil, ss_cons, ex_asg, ex_par, ex_ife, ex_ret, setTg_n, Es.ev, T.tst, I.ev, two_none, two_some, isRd, rdZ, vZ, List.getElem?_cons_zero, List.getElem?_cons_succ, R.bind_ok, ixF_fz, ixT, at0, at1, at2, ofD_some, liftO_some, nonBw_w, cmpT_fz, Z.dat_fz, Fl.of_ok, dc1, dc2, dc3, dc4, dca1, dca2, dca3, dca4, dcaO1, dcaO2, po1, po2, po3, po4, io_fz, wdat, tup0, tup1, tup2, tup3, tup4, lst0, lst1, lst3, hk] <;> rfl
    · obtain ⟨s, he, rfl⟩ : ∃ s : Nat, (x, s) ∈ ts.zip ls ∧ e = .d (.int s) := by
        unfold iD at hde
        rw [List.map_map, List.zip_map_right] at hde
        obtain ⟨p, hp, hq⟩ := List.mem_map.mp hde
        cases hq
        exact ⟨p.2, hp, rfl⟩
      refine ⟨.fz (.int s), ?_, rfl⟩
      simp only [ev_v, ev_rd, ev_g, ev_k, ev_bin, ev_cmp, ev_chain, ev_andE, ev_orE, ev_nt, ev_ife, ev_tup, ev_lst, ev_ix, ev_sl, ev_call, ev_callk, ev_own, ev_b1, ev_b2, ev_isi, ev_gin, ev_gix, ss_nil, ss_cons, ex_asg, ex_par, ex_ife, ex_ret, setTg_n, Es.ev, T.tst, I.ev, two_none, two_some, isRd, rdZ, vZ, List.getElem?_cons_zero, List.getElem?_cons_succ, R.bind_ok, ixF_fz, ixT, at0, at1, at2, ofD_some, liftO_some, nonBw_w, cmpT_fz, Z.dat_fz, Fl.of_ok, dc1, dc2, dc3, dc4, dca1, dca2, dca3, dca4, dcaO1, dcaO2, po1, po2, po3, po4, io_fz, wdat, tup0, tup1, tup2, tup3, tup4, lst0, lst1, lst3, List.set_cons_succ, List.set_cons_zero, hr x s he]
  have e1 : ((1 + ls.sum : Nat) : Int) = 1 + ((ls.sum : Nat) : Int) := by omega
  rw [e1]
  simp only [d__law_size, ev_v, ev_rd, ev_g, ev_k, ev_bin, ev_cmp, ev_chain, ev_andE, ev_orE, ev_nt, ev_ife, ev_tup, ev_lst, ev_ix, ev_sl, ev_call, ev_callk, ev_own, ev_b1, ev_b2, ev_isi, ev_gin, ev_gix, ss_nil, ss_cons, ex_asg, ex_par, ex_ife, ex_ret, setTg_n, Es.ev, T.tst, I.ev, two_none, two_some, isRd, rdZ, vZ, List.getElem?_cons_zero, List.getElem?_cons_succ, R.bind_ok, ixF_fz, ixT, at0, at1, at2, ofD_some, liftO_some, nonBw_w, cmpT_fz, Z.dat_fz, Fl.of_ok, dc1, dc2, dc3, dc4, dca1, dca2, dca3, dca4, dcaO1, dcaO2, po1, po2, po3, po4, io_fz, wdat, tup0, tup1, tup2, tup3, tup4, lst0, lst1, lst3, hlc, b1_sum, binF_fz, addI, ofO_some] <;> rfl
theorem size_ok : ∀ (t : Tm) (n : Nat), t.ht + 1 ≤ n → callN tab g fuel n "_law_size" [.fz (enc t)] = .ret (.fz (.int (t.sz : Nat))) []
  | .var i, n, h => by
    obtain ⟨n, rfl⟩ : ∃ m, n = m + 1 := ⟨n - 1, by omega⟩
    have hn : 1 ≤ n := by simp only [Tm.ht] at h; omega
    have e : (Tm.var i).sz = 1 + ([] : List Nat).sum := by simp [Tm.sz]
    rw [e]
    refine size_step _ [] [] (by simp) rfl (kids_ok (.var i) hn) fun x s hm => ?_
    simp only [List.zip_cons_cons, List.zip_nil_right, List.mem_cons, List.not_mem_nil, or_false] at hm
  | .num i, n, h => by
    obtain ⟨n, rfl⟩ : ∃ m, n = m + 1 := ⟨n - 1, by omega⟩
    have hn : 1 ≤ n := by simp only [Tm.ht] at h; omega
    have e : (Tm.num i).sz = 1 + ([] : List Nat).sum := by simp [Tm.sz]
    rw [e]
    refine size_step _ [] [] (by simp) rfl (kids_ok (.num i) hn) fun x s hm => ?_
    simp only [List.zip_cons_cons, List.zip_nil_right, List.mem_cons, List.not_mem_nil, or_false] at hm
  | .fn a, n, h => by
    obtain ⟨n, rfl⟩ : ∃ m, n = m + 1 := ⟨n - 1, by omega⟩
    have hn : 1 ≤ n := by simp only [Tm.ht] at h; omega
    have h1 := size_ok a n (by simp only [Tm.ht] at h; omega)
    have e : (Tm.fn a).sz = 1 + ([a.sz] : List Nat).sum := by simp [Tm.sz]
    rw [e]
    refine size_step _ [enc a] [a.sz] (by simp) rfl (kids_ok (.fn a) hn) fun x s hm => ?_
    simp only [List.zip_cons_cons, List.zip_nil_right, List.mem_cons, List.not_mem_nil, or_false] at hm
    cases hm
    exact h1
  | .use a b, n, h => by
    obtain ⟨n, rfl⟩ : ∃ m, n = m + 1 := ⟨n - 1, by omega⟩
    have hn : 1 ≤ n := by simp only [Tm.ht] at h; omega
    have h1 := size_ok a n (by simp only [Tm.ht] at h; omega)
    have h2 := size_ok b n (by simp only [Tm.ht] at h; omega)
    have e : (Tm.use a b).sz = 1 + ([a.sz, b.sz] : List Nat).sum := by simp [Tm.sz]
    rw [e]
    refine size_step _ [enc a, enc b] [a.sz, b.sz] (by simp) rfl (kids_ok (.use a b) hn) fun x s hm => ?_
    simp only [List.zip_cons_cons, List.zip_nil_right, List.mem_cons, List.not_mem_nil, or_false] at hm
    rcases hm with hm | hm
    · cases hm; exact h1
    · cases hm; exact h2
  | .up a, n, h => by
    obtain ⟨n, rfl⟩ : ∃ m, n = m + 1 := ⟨n - 1, by omega⟩
    have hn : 1 ≤ n := by simp only [Tm.ht] at h; omega
    have h1 := size_ok a n (by simp only [Tm.ht] at h; omega)
    have e : (Tm.up a).sz = 1 + ([a.sz] : List Nat).sum := by simp [Tm.sz]
    rw [e]
    refine size_step _ [enc a] [a.sz] (by simp) rfl (kids_ok (.up a) hn) fun x s hm => ?_
    simp only [List.zip_cons_cons, List.zip_nil_right, List.mem_cons, List.not_mem_nil, or_false] at hm
    cases hm
    exact h1
  | .dn a, n, h => by
    obtain ⟨n, rfl⟩ : ∃ m, n = m + 1 := ⟨n - 1, by omega⟩
    have hn : 1 ≤ n := by simp only [Tm.ht] at h; omega
    have h1 := size_ok a n (by simp only [Tm.ht] at h; omega)
    have e : (Tm.dn a).sz = 1 + ([a.sz] : List Nat).sum := by simp [Tm.sz]
    rw [e]
    refine size_step _ [enc a] [a.sz] (by simp) rfl (kids_ok (.dn a) hn) fun x s hm => ?_
    simp only [List.zip_cons_cons, List.zip_nil_right, List.mem_cons, List.not_mem_nil, or_false] at hm
    cases hm
    exact h1
  | .iff a b c, n, h => by
    obtain ⟨n, rfl⟩ : ∃ m, n = m + 1 := ⟨n - 1, by omega⟩
    have hn : 1 ≤ n := by simp only [Tm.ht] at h; omega
    have h1 := size_ok a n (by simp only [Tm.ht] at h; omega)
    have h2 := size_ok b n (by simp only [Tm.ht] at h; omega)
    have h3 := size_ok c n (by simp only [Tm.ht] at h; omega)
    have e : (Tm.iff a b c).sz = 1 + ([a.sz, b.sz, c.sz] : List Nat).sum := by simp [Tm.sz]
    rw [e]
    refine size_step _ [enc a, enc b, enc c] [a.sz, b.sz, c.sz] (by simp) rfl (kids_ok (.iff a b c) hn) fun x s hm => ?_
    simp only [List.zip_cons_cons, List.zip_nil_right, List.mem_cons, List.not_mem_nil, or_false] at hm
    rcases hm with hm | hm | hm
    · cases hm; exact h1
    · cases hm; exact h2
    · cases hm; exact h3
theorem closed_cf (cf : CF) (d : D) (t u : Tm) (ns : List Nat) (w : W) (hl : ns.length ≤ 900000) (h1 : cf "sure_term" [.fz d] = .ret (.fz (enc t)) []) (h2 : cf "letters_in" [.fz (enc t), .fz (.int 0)] = .ret w []) (hw : w.isIo = false) (hel : (Z.w w).el = some (.list (iD ns)))
    (h4 : cf "funs_on" [.fz (enc t), .fz (.int (cl ns : Nat))] = .ret (.fz (enc u)) []) : finish [] (d_closed_up.body.ex cf g fuel [some (.fz d), none]) = .ret (.fz (enc u)) [] := by
  have hb : ∀ ρ, binF .add (.w (.own (.l [.d (.int (-1))]))) (.w w) ρ = .ok (.w (.own (.l (((PyData.int (-1)) :: iD ns).map .d)))) ρ := by
    intro ρ
    show (match (Z.w (.own (.l [.d (.int (-1))]))).el, (Z.w w).el with
      | some x, some y => ofO (binD .add x y) ρ
      | _, _ => .bad) = _
    rw [hel]
    show ofO (if okLen (1 + (iD ns).length) then some (W.own (.l (([PyData.int (-1)] ++ iD ns).map .d))) else none) ρ = _
    have : okLen (1 + (iD ns).length) = true := decide_eq_true (by simp only [iD, List.length_map]; rw [sizeLine_eq]; omega)
    rw [if_pos this]
    rfl
  have hm : ∀ ρ, b1F .max (.w (.own (.l (((PyData.int (-1)) :: iD ns).map .d)))) ρ = .ok (.w (.fz (.int ((cl ns : Nat) - 1 : Int)))) ρ := by
    intro ρ
    show ofO ((intsD (O.frzs (((PyData.int (-1)) :: iD ns).map .d))).bind fun ns => (maxI ns).map fun m => W.fz (.int m)) ρ = _
    rw [frz_map]
    show ofO (((intsD (iD ns)).map ((-1 : Int) :: ·)).bind fun ns => (maxI ns).map fun m => W.fz (.int m)) ρ = _
    rw [ints_iD]
    show ofO ((maxI (-1 :: ns.map fun i : Nat => (i : Int))).map fun m => W.fz (.int m)) ρ = _
    rw [max_letters]
    rfl
  have hng : ∀ ρ, E.ev cf g (.ng (.k (.int 1))) ρ = .ok (.w (.fz (.int (-1)))) ρ := fun _ => rfl
  have hd : ∀ ρ, dcA [.a (.fz (enc t)), .a (.fz (.int 0))] [.fz (enc t), .fz (.int 0)] ρ (.ret w []) = .ok (.w w) ρ := fun ρ => dcA_nil _ _ _ _ hw rfl
  have e1 : ((cl ns : Nat) - 1 : Int) + 1 = (cl ns : Nat) := by omega
  simp only [d_closed_up, ev_v, ev_rd, ev_g, ev_k, ev_bin, ev_cmp, ev_chain, ev_andE, ev_orE, ev_nt, ev_ife, ev_tup, ev_lst, ev_ix, ev_sl, ev_call, ev_callk, ev_own, ev_b1, ev_b2, ev_isi, ev_gin, ev_gix, ss_nil, ss_cons, ex_asg, ex_par, ex_ife, ex_ret, setTg_n, Es.ev, T.tst, I.ev, two_none, two_some, isRd, rdZ, vZ, List.getElem?_cons_zero, List.getElem?_cons_succ, R.bind_ok, ixF_fz, ixT, at0, at1, at2, ofD_some, liftO_some, nonBw_w, cmpT_fz, Z.dat_fz, Fl.of_ok, dc1, dc2, dc3, dc4, dca1, dca2, dca3, dca4, dcaO1, dcaO2, po1, po2, po3, po4, io_fz, wdat, tup0, tup1, tup2, tup3, tup4, lst0, lst1, lst3, h1, List.set_cons_succ, List.set_cons_zero, Fl.then_nx, hng, h2, hd, hb, hm, binF_fz, addI, ofO_some, e1, h4] <;> rfl
theorem closed_top {n : Nat} (d : D) (t : Tm) (h : callN tab g fuel n "tupled" [.fz d] = .ret (.fz (enc t)) []) (hn : t.ht + 3 ≤ n) (hz : t.sz ≤ 900000) (hc : cl (t.fr 0) ≤ 1000) : callN tab g fuel (n + 2) "closed_up" [.fz d] = .ret (.fz (enc (t.wrap (cl (t.fr 0))))) [] := by
  obtain ⟨w, h2, hd, hw, hel⟩ := letters_ok t 0 (n + 1) (by omega) hz
  rw [hd] at hel
  exact (e_closed_up (n + 1) d).trans (closed_cf _ d t _ (t.fr 0) w (Nat.le_trans (fr_len t 0) hz) (sure_ok d t h (by omega)) h2 hw hel (funs_on_ok t _ hc (by omega)))
end K04


set_option Elab.async false
set_option linter.all false
set_option maxRecDepth 100000
set_option maxHeartbeats 8000000
namespace K04
open PySem Co
def tinO (a b c : Int) : O := .l [.d (.int a), .d (.int b), .d (.int c)]
theorem ex_set (cf : CF) (gg : G) (fu : Nat) (ρ : Co.Env) (i : Nat) (k e : E) : S.ex cf gg fu (.set i k e) ρ = Fl.of (e.ev cf gg ρ) fun z ρ1 => Fl.of (nonBw z ρ1) fun x ρ2 => if isL i ρ2 then Fl.of (k.ev cf gg ρ2) fun zk ρ3 => chg i ρ3 (setF zk.dat x) else .bad := rfl
theorem rd_io {i : Nat} {ρ : Co.Env} {o : O} (h : ρ[i]? = some (some (.io o))) : rdZ i ρ = .ok (.bw o) ρ := by unfold rdZ; rw [h]
theorem modI (i j : Int) (h : 0 < j) : binD .mod (.int i) (.int j) = some (.fz (.int (i % j))) := by
  show (if 0 < j then some (PyData.int (i % j)) else none).map W.fz = _
  rw [if_pos h]; rfl
theorem fdivI (i j : Int) (h : 0 < j) (h2 : j < 1073741824) : binD .fdiv (.int i) (.int j) = some (.fz (.int (i / j))) := by
  show (if 0 < j ∧ j < 1073741824 then some (PyData.int (i / j)) else none).map W.fz = _
  rw [if_pos ⟨h, h2⟩]; rfl
theorem intI (i : Int) (ρ : Co.Env) : b1F .int (.w (.fz (.int i))) ρ = .ok (.w (.fz (.int i))) ρ := rfl
theorem take_big {n : Nat} (a b c : Int) (m : Nat) (hm : 0 < m) (hm2 : m < 1000000) (ha : 0 < a) (h : 1 ≤ n) : callN tab g fuel n "_law_take" [.io (tinO a b c), .fz (.int m)] = .ret (.fz (.int (a % m))) [tinO (a / m) b c] := by
  obtain ⟨n, rfl⟩ : ∃ m, n = m + 1 := ⟨n - 1, by omega⟩
  rw [e__law_take]
  have h1 : (0 : Int) < m := by omega
  have h2 : (m : Int) < 1073741824 := by omega
  unfold tinO
  simp only [d__law_take, ev_v, ev_rd, ev_g, ev_k, ev_bin, ev_cmp, ev_chain, ev_andE, ev_orE, ev_nt, ev_ife, ev_tup, ev_lst, ev_ix, ev_sl, ev_call, ev_callk, ev_own, ev_b1, ev_b2, ev_isi, ev_gin, ev_gix, ss_nil, ss_cons, ex_asg, ex_par, ex_ife, ex_ret, setTg_n, Es.ev, T.tst, I.ev, two_none, two_some, isRd, rdZ, vZ, List.getElem?_cons_zero, List.getElem?_cons_succ, R.bind_ok, ixF_fz, ixT, at0, at1, at2, ofD_some, liftO_some, nonBw_w, cmpT_fz, Z.dat_fz, Fl.of_ok, dc1, dc2, dc3, dc4, dca1, dca2, dca3, dca4, dcaO1, dcaO2, po1, po2, po3, po4, io_fz, wdat, tup0, tup1, tup2, tup3, tup4, lst0, lst1, lst3, ixF_bw, cmp_gt, decide_eq_true ha, if_true, intI, binF_fz, modI _ _ h1, fdivI _ _ h1 h2, ofO_some, List.set_cons_succ, List.set_cons_zero, Fl.then_nx, ex_set] <;> rfl
theorem mulR (i j : Int) (h : -(2 ^ 64) < j) (h2 : j < 2 ^ 64) : binD .mul (.int i) (.int j) = some (.fz (.int (i * j))) := by
  show (if big i && big j then none else some (PyData.int (i * j))).map W.fz = _
  have : big j = false := by unfold big; rw [decide_eq_true h, decide_eq_true h2]; rfl
  rw [this, Bool.and_false]; rfl
theorem mulL (i j : Int) (h : -(2 ^ 64) < i) (h2 : i < 2 ^ 64) : binD .mul (.int i) (.int j) = some (.fz (.int (i * j))) := by
  show (if big i && big j then none else some (PyData.int (i * j))).map W.fz = _
  have : big i = false := by unfold big; rw [decide_eq_true h, decide_eq_true h2]; rfl
  rw [this, Bool.false_and]; rfl
theorem take_small {n : Nat} (a b c : Int) (m : Nat) (hm : 0 < m) (ha : ¬ 0 < a) (hc : 0 ≤ c) (hc2 : c < 1000000000000) (h : 1 ≤ n) : ∃ r : Nat, r < m ∧ callN tab g fuel n "_law_take" [.io (tinO a b c), .fz (.int m)] = .ret (.fz (.int r)) [tinO a b (c + 1)] := by
  obtain ⟨n, rfl⟩ : ∃ m, n = m + 1 := ⟨n - 1, by omega⟩
  have h1 : (0 : Int) < m := by omega
  generalize hA : (b + 48271 * (c + 1)) * (39373 + (c + 1)) % 2147483647 = A
  generalize hB : A % 40009 + 7 = Bv
  generalize hC : (A + (c + 1) + b / 1000003) * Bv % 2147483629 = Cv
  have hB1 : -(2 ^ 64) < Bv ∧ Bv < 2 ^ 64 := by omega
  refine ⟨((Cv * 48271 + A) % 2147483587 / 64 % m).toNat, ?_, ?_⟩
  · have := Int.emod_lt_of_pos ((Cv * 48271 + A) % 2147483587 / 64) h1
    omega
  · have e : (((Cv * 48271 + A) % 2147483587 / 64 % m).toNat : Int) = (Cv * 48271 + A) % 2147483587 / 64 % m := Int.toNat_of_nonneg (Int.emod_nonneg _ (by omega))
    rw [e, e__law_take]
    have m1 := mulL 48271 (c + 1) (by omega) (by omega)
    have m2 := mulR (b + 48271 * (c + 1)) (39373 + (c + 1)) (by omega) (by omega)
    have m3 := mulR (A + (c + 1) + b / 1000003) Bv hB1.1 hB1.2
    have m4 := mulR Cv 48271 (by omega) (by omega)
    have d1 := modI ((b + 48271 * (c + 1)) * (39373 + (c + 1))) 2147483647 (by omega)
    have d2 := modI A 40009 (by omega)
    have d3 := modI ((A + (c + 1) + b / 1000003) * Bv) 2147483629 (by omega)
    have d4 := modI (Cv * 48271 + A) 2147483587 (by omega)
    have f1 := fdivI b 1000003 (by omega) (by omega)
    have f2 := fdivI ((Cv * 48271 + A) % 2147483587) 64 (by omega) (by omega)
    have d5 := modI ((Cv * 48271 + A) % 2147483587 / 64) m h1
    rw [hA] at d1
    rw [hC] at d3
    have hset : ∀ ρ : List (Option W), chg 0 (some (.io (.l [.d (.int a), .d (.int b), .d (.int c)])) :: ρ) (setF (.int 2) (.fz (.int (c + 1)))) = .nx (some (.io (.l [.d (.int a), .d (.int b), .d (.int (c + 1))])) :: ρ) := fun _ => rfl
    have hl : ∀ ρ : List (Option W), isL 0 (some (.io (.l [.d (.int a), .d (.int b), .d (.int c)])) :: ρ) = true := fun _ => rfl
    unfold tinO
    simp only [d__law_take, ev_v, ev_rd, ev_g, ev_k, ev_bin, ev_cmp, ev_chain, ev_andE, ev_orE, ev_nt, ev_ife, ev_tup, ev_lst, ev_ix, ev_sl, ev_call, ev_callk, ev_own, ev_b1, ev_b2, ev_isi, ev_gin, ev_gix, ss_nil, ss_cons, ex_asg, ex_par, ex_ife, ex_ret, setTg_n, Es.ev, T.tst, I.ev, two_none, two_some, isRd, rdZ, vZ, List.getElem?_cons_zero, List.getElem?_cons_succ, R.bind_ok, ixF_fz, ixT, at0, at1, at2, ofD_some, liftO_some, nonBw_w, cmpT_fz, Z.dat_fz, Fl.of_ok, dc1, dc2, dc3, dc4, dca1, dca2, dca3, dca4, dcaO1, dcaO2, po1, po2, po3, po4, io_fz, wdat, tup0, tup1, tup2, tup3, tup4, lst0, lst1, lst3, ixF_bw, cmp_gt, decide_eq_false ha, Bool.false_eq_true, if_false, if_true, intI, binF_fz, addI, ofO_some, List.set_cons_succ, List.set_cons_zero, Fl.then_nx, ex_set, hl, hset, m1, m2, d1, d2, hB, f1, m3, d3, m4, d4, f2, d5] <;> rfl
end K04


set_option Elab.async false
set_option linter.all false
set_option maxRecDepth 100000
set_option maxHeartbeats 8000000
namespace Co
open PySem
/-- a comprehension over pairs: its element one call of them -/
theorem lc_pairs {cf : CF} {g : G} {i j : Nat} {it : I} {e : E} {n1 n2 : Str} {ρ0 ρ : Env} {ds : List (D × D)} {es : List O} (hij : i ≠ j) (hit : it.ev cf g ρ0 = .ok (ds.map fun p => .tuple [p.1, p.2]) ρ) (hl : ds.length ≤ 1000)
    (h : ∀ p e', (p, e') ∈ ds.zip es → ∃ x, e.ev cf g ((wipeE ρ [i, j]).set i (some (.fz p.1)) |>.set j (some (.fz p.2))) = .ok (.w x) ((wipeE ρ [i, j]).set i (some (.fz p.1)) |>.set j (some (.fz p.2))) ∧ x.o = e') (hle : ds.length = es.length) :
    (E.lc [(n1, i), (n2, j)] (.t [i, j]) it .yes e).ev cf g ρ0 = .ok (.w (.own (.l es))) (wipeE ρ [i, j]) := by
  have key : ∀ (ds : List (D × D)) (es acc : List O), acc.length + ds.length ≤ 1000 → ds.length = es.length → (∀ p e', (p, e') ∈ ds.zip es → ∃ x, e.ev cf g ((wipeE ρ [i, j]).set i (some (.fz p.1)) |>.set j (some (.fz p.2))) = .ok (.w x) ((wipeE ρ [i, j]).set i (some (.fz p.1)) |>.set j (some (.fz p.2))) ∧ x.o = e') →
      lcLoop (fun d ρ => (setTgR (.t [i, j]) d ρ).bind fun _ ρ1 => ((T.yes).tst cf g ρ1).bind fun b ρ2 =>
        if b then (e.ev cf g ρ2).bind fun z ρ3 => (nonBw z ρ3).bind fun x ρ4 => .ok (some x.o) ρ4 else .ok none ρ2) [i, j] (ds.map fun p => .tuple [p.1, p.2]) acc (wipeE ρ [i, j]) = .ok (acc ++ es) (wipeE ρ [i, j]) := by
    intro ds
    induction ds with
    | nil =>
      intro es acc ha hl h
      cases es with
      | nil => simp [lcLoop]
      | cons _ _ => simp at hl
    | cons p ds ih =>
      intro es acc ha hl h
      cases es with
      | nil => simp at hl
      | cons e' es =>
        obtain ⟨x, h1, h2⟩ := h p e' (by simp)
        rw [List.map_cons, lc_cons]
        have hb : ((setTgR (.t [i, j]) (.tuple [p.1, p.2]) (wipeE ρ [i, j])).bind fun _ ρ1 => ((T.yes).tst cf g ρ1).bind fun b ρ2 =>
          if b then (e.ev cf g ρ2).bind fun z ρ3 => (nonBw z ρ3).bind fun x ρ4 => .ok (some x.o) ρ4 else .ok none ρ2) = .ok (some x.o) ((wipeE ρ [i, j]).set i (some (.fz p.1)) |>.set j (some (.fz p.2))) := by
          show ((e.ev cf g ((wipeE ρ [i, j]).set i (some (.fz p.1)) |>.set j (some (.fz p.2)))).bind fun z ρ3 => (nonBw z ρ3).bind fun x ρ4 => R.ok (some x.o) ρ4) = _
          rw [h1]
          rfl
        rw [hb]
        show (if acc.length < sizeLine then lcLoop _ [i, j] (ds.map fun p => .tuple [p.1, p.2]) (acc ++ [x.o]) (wipeE ((wipeE ρ [i, j]).set i (some (.fz p.1)) |>.set j (some (.fz p.2))) [i, j]) else .bad) = _
        have hz : acc.length < sizeLine := by
          rw [sizeLine_eq]
          simp at ha
          omega
        rw [if_pos hz]
        have hw : wipeE ((wipeE ρ [i, j]).set i (some (.fz p.1)) |>.set j (some (.fz p.2))) [i, j] = wipeE ρ [i, j] := by
          show ((((((ρ.set j none).set i none).set i (some (.fz p.1))).set j (some (.fz p.2))).set j none).set i none) = (ρ.set j none).set i none
          rw [List.set_set]
          simp only [List.set_set, List.set_comm _ _ hij]
        rw [hw, h2, ih es (acc ++ [e']) (by simp at ha ⊢; omega) (by simpa using hl) fun p e'' hm => h p e'' (by simp [hm])]
        simp
  show ((it.ev cf g ρ0).bind fun ds ρ1 => ((lcLoop (fun d ρ => (setTgR (.t [i, j]) d ρ).bind fun _ ρ1 => ((T.yes).tst cf g ρ1).bind fun b ρ2 =>
        if b then (e.ev cf g ρ2).bind fun z ρ3 => (nonBw z ρ3).bind fun x ρ4 => .ok (some x.o) ρ4 else .ok none ρ2) [i, j] ds [] (wipeE ρ1 [i, j])).calm).bind fun os ρ2 => R.ok (Z.w (.own (.l os))) ρ2) = _
  rw [hit]
  show (((lcLoop _ [i, j] (ds.map fun p => .tuple [p.1, p.2]) [] (wipeE ρ [i, j])).calm).bind fun os ρ2 => R.ok (Z.w (.own (.l os))) ρ2) = _
  rw [key ds es [] (by simpa using hl) hle h]
  rfl
end Co
namespace K04
open PySem Co
theorem pair_self : ∀ ds : List D, pairD ds ds = (ds.map fun d => (d, d)).map fun p => PyData.tuple [p.1, p.2]
  | [] => rfl
  | d :: ds => by
    show PyData.tuple [d, d] :: pairD ds ds = _
    rw [pair_self ds]
    rfl
theorem same_str {n : Nat} (s : Str) (hs : PyData.strOk s = true) (h : 1 ≤ n) : callN tab g fuel n "_law_same" [.fz (.str s), .fz (.str s)] = .ret (.fz (.bool true)) [] := by
  obtain ⟨n, rfl⟩ : ∃ m, n = m + 1 := ⟨n - 1, by omega⟩
  rw [e__law_same]
  have i1 : ∀ ρ, isiF [.list, .tuple] (.str s) ρ = .ok (.w (.fz (.bool false))) ρ := fun _ => rfl
  have i2 : ∀ ρ, isiF [.bool, .str] (.str s) ρ = .ok (.w (.fz (.bool true))) ρ := fun _ => rfl
  have i3 : ∀ ρ, isiF [.bool] (.str s) ρ = .ok (.w (.fz (.bool false))) ρ := fun _ => rfl
  have i4 : ∀ ρ, isiF [.str] (.str s) ρ = .ok (.w (.fz (.bool true))) ρ := fun _ => rfl
  have e1 : cmpD .is (.str s) .none = some false := rfl
  have e2 : ∀ b : Bool, cmpD .eq (.bool b) (.bool b) = some true := fun b => by cases b <;> rfl
  simp only [d__law_same, ev_v, ev_rd, ev_g, ev_k, ev_bin, ev_cmp, ev_chain, ev_andE, ev_orE, ev_nt, ev_ife, ev_tup, ev_lst, ev_ix, ev_sl, ev_call, ev_callk, ev_own, ev_b1, ev_b2, ev_isi, ev_gin, ev_gix, ss_nil, ss_cons, ex_asg, ex_par, ex_ife, ex_ret, setTg_n, Es.ev, T.tst, I.ev, two_none, two_some, isRd, rdZ, vZ, List.getElem?_cons_zero, List.getElem?_cons_succ, R.bind_ok, ixF_fz, ixT, at0, at1, at2, ofD_some, liftO_some, nonBw_w, cmpT_fz, Z.dat_fz, Fl.of_ok, dc1, dc2, dc3, dc4, dca1, dca2, dca3, dca4, dcaO1, dcaO2, po1, po2, po3, po4, io_fz, wdat, tup0, tup1, tup2, tup3, tup4, lst0, lst1, lst3, i1, i2, i3, i4, trB, e1, e2, Bool.false_eq_true, if_false, if_true, Fl.then_nx, cmpF_fz, map_bool, eq_str, hs, Bool.and_self, BEq.rfl] <;> rfl
theorem same_int {n : Nat} (i : Int) (h : 1 ≤ n) : callN tab g fuel n "_law_same" [.fz (.int i), .fz (.int i)] = .ret (.fz (.bool true)) [] := by
  obtain ⟨n, rfl⟩ : ∃ m, n = m + 1 := ⟨n - 1, by omega⟩
  rw [e__law_same]
  have i1 : ∀ ρ, isiF [.list, .tuple] (.int i) ρ = .ok (.w (.fz (.bool false))) ρ := fun _ => rfl
  have i2 : ∀ ρ, isiF [.bool, .str] (.int i) ρ = .ok (.w (.fz (.bool false))) ρ := fun _ => rfl
  have i3 : ∀ ρ, isiF [.bool] (.int i) ρ = .ok (.w (.fz (.bool false))) ρ := fun _ => rfl
  have i4 : ∀ ρ, isiF [.int] (.int i) ρ = .ok (.w (.fz (.bool true))) ρ := fun _ => rfl
  have e1 : cmpD .is (.int i) .none = some false := rfl
  simp only [d__law_same, ev_v, ev_rd, ev_g, ev_k, ev_bin, ev_cmp, ev_chain, ev_andE, ev_orE, ev_nt, ev_ife, ev_tup, ev_lst, ev_ix, ev_sl, ev_call, ev_callk, ev_own, ev_b1, ev_b2, ev_isi, ev_gin, ev_gix, ss_nil, ss_cons, ex_asg, ex_par, ex_ife, ex_ret, setTg_n, Es.ev, T.tst, I.ev, two_none, two_some, isRd, rdZ, vZ, List.getElem?_cons_zero, List.getElem?_cons_succ, R.bind_ok, ixF_fz, ixT, at0, at1, at2, ofD_some, liftO_some, nonBw_w, cmpT_fz, Z.dat_fz, Fl.of_ok, dc1, dc2, dc3, dc4, dca1, dca2, dca3, dca4, dcaO1, dcaO2, po1, po2, po3, po4, io_fz, wdat, tup0, tup1, tup2, tup3, tup4, lst0, lst1, lst3, i1, i2, i3, i4, trB, e1, Bool.false_eq_true, if_false, if_true, Fl.then_nx, cmpF_fz, map_bool, eq_int, BEq.rfl, Bool.not_false, Option.map_some] <;> rfl
theorem same_tuple {n : Nat} (xs : List D) (hl : xs.length ≤ 900) (hr : ∀ x ∈ xs, callN tab g fuel n "_law_same" [.fz x, .fz x] = .ret (.fz (.bool true)) []) : callN tab g fuel (n + 1) "_law_same" [.fz (.tuple xs), .fz (.tuple xs)] = .ret (.fz (.bool true)) [] := by
  rw [e__law_same]
  generalize callN tab g fuel n = cf at hr ⊢
  have i1 : ∀ ρ, isiF [.list, .tuple] (.tuple xs) ρ = .ok (.w (.fz (.bool true))) ρ := fun _ => rfl
  have i2 : ∀ ρ, isiF [.tuple] (.tuple xs) ρ = .ok (.w (.fz (.bool true))) ρ := fun _ => rfl
  have i3 : ∀ ρ, isiF [.list] (.tuple xs) ρ = .ok (.w (.fz (.bool false))) ρ := fun _ => rfl
  have e1 : ∀ b : Bool, cmpD .ne (.bool b) (.bool b) = some false := fun b => by cases b <;> rfl
  have bl : ∀ ρ, b1F .len (.w (.fz (.tuple xs))) ρ = .ok (.w (.fz (.int xs.length))) ρ := fun _ => rfl
  have hlc : ∀ a b, E.ev cf g (.lc [("mine", 2), ("its", 3)] (.t [2, 3]) (.zip (.v 0) (.v 1)) .yes (.call "_law_same" (.cons (.v 2) (.cons (.v 3) .nil)))) [some (.fz (.tuple xs)), some (.fz (.tuple xs)), a, b] = .ok (.w (.own (.l ((List.replicate xs.length (PyData.bool true)).map .d)))) [some (.fz (.tuple xs)), some (.fz (.tuple xs)), none, none] := by
    intro a b
    refine lc_pairs (i := 2) (j := 3) (ds := xs.map fun d => (d, d)) (ρ := [some (.fz (.tuple xs)), some (.fz (.tuple xs)), a, b]) (by decide) ?_ (by rw [List.length_map]; omega) (fun p e hp => ?_) (by simp)
    · show R.ok (pairD xs xs) _ = _
      rw [pair_self]
    · have hx := (List.of_mem_zip hp).1
      have he := (List.of_mem_zip hp).2
      obtain ⟨x, hx2, rfl⟩ := List.mem_map.mp hx
      obtain ⟨c, hc, rfl⟩ := List.mem_map.mp he
      rw [List.eq_of_mem_replicate hc]
      refine ⟨.fz (.bool true), ?_, rfl⟩
      simp only [wipeE, ev_v, ev_rd, ev_g, ev_k, ev_bin, ev_cmp, ev_chain, ev_andE, ev_orE, ev_nt, ev_ife, ev_tup, ev_lst, ev_ix, ev_sl, ev_call, ev_callk, ev_own, ev_b1, ev_b2, ev_isi, ev_gin, ev_gix, ss_nil, ss_cons, ex_asg, ex_par, ex_ife, ex_ret, setTg_n, Es.ev, T.tst, I.ev, two_none, two_some, isRd, rdZ, vZ, List.getElem?_cons_zero, List.getElem?_cons_succ, R.bind_ok, ixF_fz, ixT, at0, at1, at2, ofD_some, liftO_some, nonBw_w, cmpT_fz, Z.dat_fz, Fl.of_ok, dc1, dc2, dc3, dc4, dca1, dca2, dca3, dca4, dcaO1, dcaO2, po1, po2, po3, po4, io_fz, wdat, tup0, tup1, tup2, tup3, tup4, lst0, lst1, lst3, List.set_cons_succ, List.set_cons_zero, hr x hx2]
  simp only [d__law_same, ev_v, ev_rd, ev_g, ev_k, ev_bin, ev_cmp, ev_chain, ev_andE, ev_orE, ev_nt, ev_ife, ev_tup, ev_lst, ev_ix, ev_sl, ev_call, ev_callk, ev_own, ev_b1, ev_b2, ev_isi, ev_gin, ev_gix, ss_nil, ss_cons, ex_asg, ex_par, ex_ife, ex_ret, setTg_n, Es.ev, T.tst, I.ev, two_none, two_some, isRd, rdZ, vZ, List.getElem?_cons_zero, List.getElem?_cons_succ, R.bind_ok, ixF_fz, ixT, at0, at1, at2, ofD_some, liftO_some, nonBw_w, cmpT_fz, Z.dat_fz, Fl.of_ok, dc1, dc2, dc3, dc4, dca1, dca2, dca3, dca4, dcaO1, dcaO2, po1, po2, po3, po4, io_fz, wdat, tup0, tup1, tup2, tup3, tup4, lst0, lst1, lst3, i1, i2, i3, trB, e1, Bool.false_eq_true, if_false, if_true, Fl.then_nx, cmpT_fz, cmpF_fz, map_bool, eq_int, BEq.rfl, bl, hlc, b1_all] <;> rfl
theorem same_list {n : Nat} (xs : List D) (hl : xs.length ≤ 900) (hr : ∀ x ∈ xs, callN tab g fuel n "_law_same" [.fz x, .fz x] = .ret (.fz (.bool true)) []) : callN tab g fuel (n + 1) "_law_same" [.fz (.list xs), .fz (.list xs)] = .ret (.fz (.bool true)) [] := by
  rw [e__law_same]
  generalize callN tab g fuel n = cf at hr ⊢
  have i1 : ∀ ρ, isiF [.list, .tuple] (.list xs) ρ = .ok (.w (.fz (.bool true))) ρ := fun _ => rfl
  have i2 : ∀ ρ, isiF [.list] (.list xs) ρ = .ok (.w (.fz (.bool true))) ρ := fun _ => rfl
  have i3 : ∀ ρ, isiF [.tuple] (.list xs) ρ = .ok (.w (.fz (.bool false))) ρ := fun _ => rfl
  have e1 : ∀ b : Bool, cmpD .ne (.bool b) (.bool b) = some false := fun b => by cases b <;> rfl
  have bl : ∀ ρ, b1F .len (.w (.fz (.list xs))) ρ = .ok (.w (.fz (.int xs.length))) ρ := fun _ => rfl
  have hlc : ∀ a b, E.ev cf g (.lc [("mine", 2), ("its", 3)] (.t [2, 3]) (.zip (.v 0) (.v 1)) .yes (.call "_law_same" (.cons (.v 2) (.cons (.v 3) .nil)))) [some (.fz (.list xs)), some (.fz (.list xs)), a, b] = .ok (.w (.own (.l ((List.replicate xs.length (PyData.bool true)).map .d)))) [some (.fz (.list xs)), some (.fz (.list xs)), none, none] := by
    intro a b
    refine lc_pairs (i := 2) (j := 3) (ds := xs.map fun d => (d, d)) (ρ := [some (.fz (.list xs)), some (.fz (.list xs)), a, b]) (by decide) ?_ (by rw [List.length_map]; omega) (fun p e hp => ?_) (by simp)
    · show R.ok (pairD xs xs) _ = _
      rw [pair_self]
    · have hx := (List.of_mem_zip hp).1
      have he := (List.of_mem_zip hp).2
      obtain ⟨x, hx2, rfl⟩ := List.mem_map.mp hx
      obtain ⟨c, hc, rfl⟩ := List.mem_map.mp he
      rw [List.eq_of_mem_replicate hc]
      refine ⟨.fz (.bool true), ?_, rfl⟩
      simp only [wipeE, ev_v, ev_rd, ev_g, ev_k, ev_bin, ev_cmp, ev_chain, ev_andE, ev_orE, ev_nt, ev_ife, ev_tup, ev_lst, ev_ix, ev_sl, ev_call, ev_callk, ev_own, ev_b1, ev_b2, ev_isi, ev_gin, ev_gix, ss_nil, ss_cons, ex_asg, ex_par, ex_ife, ex_ret, setTg_n, Es.ev, T.tst, I.ev, two_none, two_some, isRd, rdZ, vZ, List.getElem?_cons_zero, List.getElem?_cons_succ, R.bind_ok, ixF_fz, ixT, at0, at1, at2, ofD_some, liftO_some, nonBw_w, cmpT_fz, Z.dat_fz, Fl.of_ok, dc1, dc2, dc3, dc4, dca1, dca2, dca3, dca4, dcaO1, dcaO2, po1, po2, po3, po4, io_fz, wdat, tup0, tup1, tup2, tup3, tup4, lst0, lst1, lst3, List.set_cons_succ, List.set_cons_zero, hr x hx2]
  simp only [d__law_same, ev_v, ev_rd, ev_g, ev_k, ev_bin, ev_cmp, ev_chain, ev_andE, ev_orE, ev_nt, ev_ife, ev_tup, ev_lst, ev_ix, ev_sl, ev_call, ev_callk, ev_own, ev_b1, ev_b2, ev_isi, ev_gin, ev_gix, ss_nil, ss_cons, ex_asg, ex_par, ex_ife, ex_ret, setTg_n, Es.ev, T.tst, I.ev, two_none, two_some, isRd, rdZ, vZ, List.getElem?_cons_zero, List.getElem?_cons_succ, R.bind_ok, ixF_fz, ixT, at0, at1, at2, ofD_some, liftO_some, nonBw_w, cmpT_fz, Z.dat_fz, Fl.of_ok, dc1, dc2, dc3, dc4, dca1, dca2, dca3, dca4, dcaO1, dcaO2, po1, po2, po3, po4, io_fz, wdat, tup0, tup1, tup2, tup3, tup4, lst0, lst1, lst3, i1, i2, i3, trB, e1, Bool.false_eq_true, if_false, if_true, Fl.then_nx, cmpT_fz, cmpF_fz, map_bool, eq_int, BEq.rfl, bl, hlc, b1_all] <;> rfl
theorem same_tm : ∀ (t : Tm) (n : Nat), t.ht + 1 ≤ n → callN tab g fuel n "_law_same" [.fz (enc t), .fz (enc t)] = .ret (.fz (.bool true)) []
  | .var i, n, h => by
    obtain ⟨n, rfl⟩ : ∃ m, n = m + 1 := ⟨n - 1, by omega⟩
    have hn : 1 ≤ n := by simp only [Tm.ht] at h; omega
    refine same_tuple [.str "var", .int i] (by simp) fun x hm => ?_
    simp only [List.mem_cons, List.not_mem_nil, or_false] at hm
    rcases hm with rfl | rfl
    · exact same_str _ (by decide +kernel) hn
    · exact same_int _ hn
  | .num i, n, h => by
    obtain ⟨n, rfl⟩ : ∃ m, n = m + 1 := ⟨n - 1, by omega⟩
    have hn : 1 ≤ n := by simp only [Tm.ht] at h; omega
    refine same_tuple [.str "num", .int i] (by simp) fun x hm => ?_
    simp only [List.mem_cons, List.not_mem_nil, or_false] at hm
    rcases hm with rfl | rfl
    · exact same_str _ (by decide +kernel) hn
    · exact same_int _ hn
  | .fn a, n, h => by
    obtain ⟨n, rfl⟩ : ∃ m, n = m + 1 := ⟨n - 1, by omega⟩
    have hn : 1 ≤ n := by simp only [Tm.ht] at h; omega
    have h1 := same_tm a n (by simp only [Tm.ht] at h; omega)
    refine same_tuple [.str "fun", enc a] (by simp) fun x hm => ?_
    simp only [List.mem_cons, List.not_mem_nil, or_false] at hm
    rcases hm with rfl | rfl
    · exact same_str _ (by decide +kernel) hn
    · exact h1
  | .use a b, n, h => by
    obtain ⟨n, rfl⟩ : ∃ m, n = m + 1 := ⟨n - 1, by omega⟩
    have hn : 1 ≤ n := by simp only [Tm.ht] at h; omega
    have h1 := same_tm a n (by simp only [Tm.ht] at h; omega)
    have h2 := same_tm b n (by simp only [Tm.ht] at h; omega)
    refine same_tuple [.str "use", enc a, enc b] (by simp) fun x hm => ?_
    simp only [List.mem_cons, List.not_mem_nil, or_false] at hm
    rcases hm with rfl | rfl | rfl
    · exact same_str _ (by decide +kernel) hn
    · exact h1
    · exact h2
  | .up a, n, h => by
    obtain ⟨n, rfl⟩ : ∃ m, n = m + 1 := ⟨n - 1, by omega⟩
    have hn : 1 ≤ n := by simp only [Tm.ht] at h; omega
    have h1 := same_tm a n (by simp only [Tm.ht] at h; omega)
    refine same_tuple [.str "up", enc a] (by simp) fun x hm => ?_
    simp only [List.mem_cons, List.not_mem_nil, or_false] at hm
    rcases hm with rfl | rfl
    · exact same_str _ (by decide +kernel) hn
    · exact h1
  | .dn a, n, h => by
    obtain ⟨n, rfl⟩ : ∃ m, n = m + 1 := ⟨n - 1, by omega⟩
    have hn : 1 ≤ n := by simp only [Tm.ht] at h; omega
    have h1 := same_tm a n (by simp only [Tm.ht] at h; omega)
    refine same_tuple [.str "down", enc a] (by simp) fun x hm => ?_
    simp only [List.mem_cons, List.not_mem_nil, or_false] at hm
    rcases hm with rfl | rfl
    · exact same_str _ (by decide +kernel) hn
    · exact h1
  | .iff a b c, n, h => by
    obtain ⟨n, rfl⟩ : ∃ m, n = m + 1 := ⟨n - 1, by omega⟩
    have hn : 1 ≤ n := by simp only [Tm.ht] at h; omega
    have h1 := same_tm a n (by simp only [Tm.ht] at h; omega)
    have h2 := same_tm b n (by simp only [Tm.ht] at h; omega)
    have h3 := same_tm c n (by simp only [Tm.ht] at h; omega)
    refine same_tuple [.str "if", enc a, enc b, enc c] (by simp) fun x hm => ?_
    simp only [List.mem_cons, List.not_mem_nil, or_false] at hm
    rcases hm with rfl | rfl | rfl | rfl
    · exact same_str _ (by decide +kernel) hn
    · exact h1
    · exact h2
    · exact h3
/-- rows of terms -/
theorem same_row {n : Nat} (ts : List Tm) (b0 : Nat) (hb : ∀ t ∈ ts, t.ht ≤ b0) (hl : ts.length ≤ 900) (hn : b0 + 1 ≤ n) : callN tab g fuel (n + 1) "_law_same" [.fz (.list (ts.map enc)), .fz (.list (ts.map enc))] = .ret (.fz (.bool true)) [] :=
  same_list (ts.map enc) (by rw [List.length_map]; exact hl) fun x hx => by
    obtain ⟨t, ht, rfl⟩ := List.mem_map.mp hx
    exact same_tm t n (by have := hb t ht; omega)
end K04


set_option Elab.async false
set_option linter.all false
set_option maxRecDepth 100000
set_option maxHeartbeats 8000000
namespace Co
open PySem
/-- the caller's list handed on, in slot 0 -/
theorem es_io (cf : CF) (gg : G) (es : Es) (x : W) (r : List (Option W)) : Es.ev cf gg (.cons (.io 0) es) (some x :: r) = (es.ev cf gg (some x :: r)).bind fun as ρ1 => .ok (.io 0 :: as) ρ1 := rfl
theorem dcio1 {cf : CF} {f : Str} {o o' : O} {m v : D} {r : List (Option W)} (h : cf f [.io o, .fz m] = .ret (.fz v) [o']) : doCall cf f [.io 0, .a (.fz m)] (some (.io o) :: r) = .ok (.w (.fz v)) (some (.io o') :: r) := by
  rw [doCall_eq cf f [.io 0, .a (.fz m)] (some (.io o) :: r) (none :: r) [.io o, .fz m] rfl rfl, h]
  rfl
theorem dcio2 {cf : CF} {f : Str} {o o' : O} {m k v : D} {r : List (Option W)} (h : cf f [.io o, .fz m, .fz k] = .ret (.fz v) [o']) : doCall cf f [.io 0, .a (.fz m), .a (.fz k)] (some (.io o) :: r) = .ok (.w (.fz v)) (some (.io o') :: r) := by
  rw [doCall_eq cf f [.io 0, .a (.fz m), .a (.fz k)] (some (.io o) :: r) (none :: r) [.io o, .fz m, .fz k] rfl rfl, h]
  rfl
end Co
namespace K04
open PySem Co
/-- one draw -/
theorem take_ok {n : Nat} (a b c : Int) (m : Nat) (hm : 0 < m) (hm2 : m < 1000000) (hc : 0 ≤ c) (hc2 : c < 1000000000000) (h : 1 ≤ n) : ∃ (r : Nat) (a' c' : Int), r < m ∧ c ≤ c' ∧ c' ≤ c + 1 ∧ callN tab g fuel n "_law_take" [.io (tinO a b c), .fz (.int m)] = .ret (.fz (.int r)) [tinO a' b c'] := by
  by_cases ha : 0 < a
  · have h1 : (0 : Int) < m := by omega
    have e : ((a % m).toNat : Int) = a % m := Int.toNat_of_nonneg (Int.emod_nonneg _ (by omega))
    refine ⟨(a % m).toNat, a / m, c, ?_, by omega, by omega, ?_⟩
    · have := Int.emod_lt_of_pos a h1
      omega
    · rw [e]
      exact take_big a b c m hm hm2 ha h
  · obtain ⟨r, h1, h2⟩ := take_small a b c m hm ha hc hc2 h
    exact ⟨r, a, c + 1, h1, by omega, by omega, h2⟩
theorem drawn_0 {cf : CF} {o o1 o2 : O} {dp ar v : Nat} (hd : 0 < dp) (h1 : cf "_law_take" [.io o, .fz (.int 9)] = .ret (.fz (.int 0)) [o1]) (h2 : cf "_law_take" [.io o1, .fz (.int 5)] = .ret (.fz (.int v)) [o2]) :
    finish [0] (d__law_drawn.body.ex cf g fuel [some (.io o), some (.fz (.int dp)), some (.fz (.int ar)), none]) = .ret (.fz (enc (.num v))) [o2] := by
  have c1 : (0 : Int) < dp := by omega
  have z0 : decide ((0 : Int) < ((0 : Nat) : Int)) = false := rfl
  have q0 : ((0 : Int) == 0) = true := rfl
  have q1 : ((0 : Int) == 1) = false := rfl
  have q4 : decide ((0 : Int) < 4) = true := rfl
  have q6 : decide ((0 : Int) < 6) = true := rfl
  have q8 : decide ((0 : Int) < 8) = true := rfl
  have qe : ((0 : Int) == 6) = false := rfl
  simp only [d__law_drawn, ev_v, ev_rd, ev_g, ev_k, ev_bin, ev_cmp, ev_chain, ev_andE, ev_orE, ev_nt, ev_ife, ev_tup, ev_lst, ev_ix, ev_sl, ev_call, ev_callk, ev_own, ev_b1, ev_b2, ev_isi, ev_gin, ev_gix, ss_nil, ss_cons, ex_asg, ex_par, ex_ife, ex_ret, setTg_n, Es.ev, T.tst, I.ev, two_none, two_some, isRd, rdZ, vZ, List.getElem?_cons_zero, List.getElem?_cons_succ, R.bind_ok, ixF_fz, ixT, at0, at1, at2, ofD_some, liftO_some, nonBw_w, cmpT_fz, Z.dat_fz, Fl.of_ok, dc1, dc2, dc3, dc4, dca1, dca2, dca3, dca4, dcaO1, dcaO2, po1, po2, po3, po4, io_fz, wdat, tup0, tup1, tup2, tup3, tup4, lst0, lst1, lst3, es_io, cmp_gt, cmp_lt, decide_eq_true c1, if_true, dcio1 h1, dcio1 h2, List.set_cons_succ, List.set_cons_zero, Fl.then_nx, eq_int, q0, q1, q4, q6, q8, qe, Bool.false_eq_true, if_false, if_true, binF_fz, addI, subI, ofO_some] <;> rfl
theorem drawn_1 {cf : CF} {o o1 o2 : O} {dp ar v : Nat} (hd : 0 < dp) (h1 : cf "_law_take" [.io o, .fz (.int 9)] = .ret (.fz (.int 1)) [o1]) (h2 : cf "_law_take" [.io o1, .fz (.int ((ar : Int) + 3))] = .ret (.fz (.int v)) [o2]) :
    finish [0] (d__law_drawn.body.ex cf g fuel [some (.io o), some (.fz (.int dp)), some (.fz (.int ar)), none]) = .ret (.fz (enc (.var v))) [o2] := by
  have c1 : (0 : Int) < dp := by omega
  have z0 : decide ((0 : Int) < ((0 : Nat) : Int)) = false := rfl
  have q0 : ((1 : Int) == 0) = false := rfl
  have q1 : ((1 : Int) == 1) = true := rfl
  have q4 : decide ((1 : Int) < 4) = true := rfl
  have q6 : decide ((1 : Int) < 6) = true := rfl
  have q8 : decide ((1 : Int) < 8) = true := rfl
  have qe : ((1 : Int) == 6) = false := rfl
  simp only [d__law_drawn, ev_v, ev_rd, ev_g, ev_k, ev_bin, ev_cmp, ev_chain, ev_andE, ev_orE, ev_nt, ev_ife, ev_tup, ev_lst, ev_ix, ev_sl, ev_call, ev_callk, ev_own, ev_b1, ev_b2, ev_isi, ev_gin, ev_gix, ss_nil, ss_cons, ex_asg, ex_par, ex_ife, ex_ret, setTg_n, Es.ev, T.tst, I.ev, two_none, two_some, isRd, rdZ, vZ, List.getElem?_cons_zero, List.getElem?_cons_succ, R.bind_ok, ixF_fz, ixT, at0, at1, at2, ofD_some, liftO_some, nonBw_w, cmpT_fz, Z.dat_fz, Fl.of_ok, dc1, dc2, dc3, dc4, dca1, dca2, dca3, dca4, dcaO1, dcaO2, po1, po2, po3, po4, io_fz, wdat, tup0, tup1, tup2, tup3, tup4, lst0, lst1, lst3, es_io, cmp_gt, cmp_lt, decide_eq_true c1, if_true, dcio1 h1, dcio1 h2, List.set_cons_succ, List.set_cons_zero, Fl.then_nx, eq_int, q0, q1, q4, q6, q8, qe, Bool.false_eq_true, if_false, if_true, binF_fz, addI, subI, ofO_some] <;> rfl
theorem drawnL_0 {cf : CF} {o o1 o2 : O} {ar v : Nat} (h1 : cf "_law_take" [.io o, .fz (.int 2)] = .ret (.fz (.int 0)) [o1]) (h2 : cf "_law_take" [.io o1, .fz (.int 5)] = .ret (.fz (.int v)) [o2]) :
    finish [0] (d__law_drawn.body.ex cf g fuel [some (.io o), some (.fz (.int (0 : Nat))), some (.fz (.int ar)), none]) = .ret (.fz (enc (.num v))) [o2] := by
  have z0 : decide ((0 : Int) < ((0 : Nat) : Int)) = false := rfl
  have q0 : ((0 : Int) == 0) = true := rfl
  have q1 : ((0 : Int) == 1) = false := rfl
  have q4 : decide ((0 : Int) < 4) = true := rfl
  have q6 : decide ((0 : Int) < 6) = true := rfl
  have q8 : decide ((0 : Int) < 8) = true := rfl
  have qe : ((0 : Int) == 6) = false := rfl
  simp only [d__law_drawn, ev_v, ev_rd, ev_g, ev_k, ev_bin, ev_cmp, ev_chain, ev_andE, ev_orE, ev_nt, ev_ife, ev_tup, ev_lst, ev_ix, ev_sl, ev_call, ev_callk, ev_own, ev_b1, ev_b2, ev_isi, ev_gin, ev_gix, ss_nil, ss_cons, ex_asg, ex_par, ex_ife, ex_ret, setTg_n, Es.ev, T.tst, I.ev, two_none, two_some, isRd, rdZ, vZ, List.getElem?_cons_zero, List.getElem?_cons_succ, R.bind_ok, ixF_fz, ixT, at0, at1, at2, ofD_some, liftO_some, nonBw_w, cmpT_fz, Z.dat_fz, Fl.of_ok, dc1, dc2, dc3, dc4, dca1, dca2, dca3, dca4, dcaO1, dcaO2, po1, po2, po3, po4, io_fz, wdat, tup0, tup1, tup2, tup3, tup4, lst0, lst1, lst3, es_io, cmp_gt, cmp_lt, z0, Bool.false_eq_true, if_false, dcio1 h1, dcio1 h2, List.set_cons_succ, List.set_cons_zero, Fl.then_nx, eq_int, q0, q1, q4, q6, q8, qe, Bool.false_eq_true, if_false, if_true, binF_fz, addI, subI, ofO_some] <;> rfl
theorem drawnL_1 {cf : CF} {o o1 o2 : O} {ar v : Nat} (h1 : cf "_law_take" [.io o, .fz (.int 2)] = .ret (.fz (.int 1)) [o1]) (h2 : cf "_law_take" [.io o1, .fz (.int ((ar : Int) + 3))] = .ret (.fz (.int v)) [o2]) :
    finish [0] (d__law_drawn.body.ex cf g fuel [some (.io o), some (.fz (.int (0 : Nat))), some (.fz (.int ar)), none]) = .ret (.fz (enc (.var v))) [o2] := by
  have z0 : decide ((0 : Int) < ((0 : Nat) : Int)) = false := rfl
  have q0 : ((1 : Int) == 0) = false := rfl
  have q1 : ((1 : Int) == 1) = true := rfl
  have q4 : decide ((1 : Int) < 4) = true := rfl
  have q6 : decide ((1 : Int) < 6) = true := rfl
  have q8 : decide ((1 : Int) < 8) = true := rfl
  have qe : ((1 : Int) == 6) = false := rfl
  simp only [d__law_drawn, ev_v, ev_rd, ev_g, ev_k, ev_bin, ev_cmp, ev_chain, ev_andE, ev_orE, ev_nt, ev_ife, ev_tup, ev_lst, ev_ix, ev_sl, ev_call, ev_callk, ev_own, ev_b1, ev_b2, ev_isi, ev_gin, ev_gix, ss_nil, ss_cons, ex_asg, ex_par, ex_ife, ex_ret, setTg_n, Es.ev, T.tst, I.ev, two_none, two_some, isRd, rdZ, vZ, List.getElem?_cons_zero, List.getElem?_cons_succ, R.bind_ok, ixF_fz, ixT, at0, at1, at2, ofD_some, liftO_some, nonBw_w, cmpT_fz, Z.dat_fz, Fl.of_ok, dc1, dc2, dc3, dc4, dca1, dca2, dca3, dca4, dcaO1, dcaO2, po1, po2, po3, po4, io_fz, wdat, tup0, tup1, tup2, tup3, tup4, lst0, lst1, lst3, es_io, cmp_gt, cmp_lt, z0, Bool.false_eq_true, if_false, dcio1 h1, dcio1 h2, List.set_cons_succ, List.set_cons_zero, Fl.then_nx, eq_int, q0, q1, q4, q6, q8, qe, Bool.false_eq_true, if_false, if_true, binF_fz, addI, subI, ofO_some] <;> rfl
theorem drawn_2 {cf : CF} {o o1 o2 : O} {dp ar : Nat} {a : Tm} (hd : 0 < dp) (h1 : cf "_law_take" [.io o, .fz (.int 9)] = .ret (.fz (.int 2)) [o1]) (h2 : cf "_law_drawn" [.io o1, .fz (.int ((dp : Int) - 1)), .fz (.int ((ar : Int) + 1))] = .ret (.fz (enc a)) [o2]) :
    finish [0] (d__law_drawn.body.ex cf g fuel [some (.io o), some (.fz (.int dp)), some (.fz (.int ar)), none]) = .ret (.fz (enc (.fn a))) [o2] := by
  have c1 : (0 : Int) < dp := by omega
  have z0 : decide ((0 : Int) < ((0 : Nat) : Int)) = false := rfl
  have q0 : ((2 : Int) == 0) = false := rfl
  have q1 : ((2 : Int) == 1) = false := rfl
  have q4 : decide ((2 : Int) < 4) = true := rfl
  have q6 : decide ((2 : Int) < 6) = true := rfl
  have q8 : decide ((2 : Int) < 8) = true := rfl
  have qe : ((2 : Int) == 6) = false := rfl
  simp only [d__law_drawn, ev_v, ev_rd, ev_g, ev_k, ev_bin, ev_cmp, ev_chain, ev_andE, ev_orE, ev_nt, ev_ife, ev_tup, ev_lst, ev_ix, ev_sl, ev_call, ev_callk, ev_own, ev_b1, ev_b2, ev_isi, ev_gin, ev_gix, ss_nil, ss_cons, ex_asg, ex_par, ex_ife, ex_ret, setTg_n, Es.ev, T.tst, I.ev, two_none, two_some, isRd, rdZ, vZ, List.getElem?_cons_zero, List.getElem?_cons_succ, R.bind_ok, ixF_fz, ixT, at0, at1, at2, ofD_some, liftO_some, nonBw_w, cmpT_fz, Z.dat_fz, Fl.of_ok, dc1, dc2, dc3, dc4, dca1, dca2, dca3, dca4, dcaO1, dcaO2, po1, po2, po3, po4, io_fz, wdat, tup0, tup1, tup2, tup3, tup4, lst0, lst1, lst3, es_io, cmp_gt, cmp_lt, decide_eq_true c1, if_true, dcio1 h1, dcio2 h2, List.set_cons_succ, List.set_cons_zero, Fl.then_nx, eq_int, q0, q1, q4, q6, q8, qe, Bool.false_eq_true, if_false, if_true, binF_fz, addI, subI, ofO_some] <;> rfl
theorem drawn_3 {cf : CF} {o o1 o2 : O} {dp ar : Nat} {a : Tm} (hd : 0 < dp) (h1 : cf "_law_take" [.io o, .fz (.int 9)] = .ret (.fz (.int 3)) [o1]) (h2 : cf "_law_drawn" [.io o1, .fz (.int ((dp : Int) - 1)), .fz (.int ((ar : Int) + 1))] = .ret (.fz (enc a)) [o2]) :
    finish [0] (d__law_drawn.body.ex cf g fuel [some (.io o), some (.fz (.int dp)), some (.fz (.int ar)), none]) = .ret (.fz (enc (.fn a))) [o2] := by
  have c1 : (0 : Int) < dp := by omega
  have z0 : decide ((0 : Int) < ((0 : Nat) : Int)) = false := rfl
  have q0 : ((3 : Int) == 0) = false := rfl
  have q1 : ((3 : Int) == 1) = false := rfl
  have q4 : decide ((3 : Int) < 4) = true := rfl
  have q6 : decide ((3 : Int) < 6) = true := rfl
  have q8 : decide ((3 : Int) < 8) = true := rfl
  have qe : ((3 : Int) == 6) = false := rfl
  simp only [d__law_drawn, ev_v, ev_rd, ev_g, ev_k, ev_bin, ev_cmp, ev_chain, ev_andE, ev_orE, ev_nt, ev_ife, ev_tup, ev_lst, ev_ix, ev_sl, ev_call, ev_callk, ev_own, ev_b1, ev_b2, ev_isi, ev_gin, ev_gix, ss_nil, ss_cons, ex_asg, ex_par, ex_ife, ex_ret, setTg_n, Es.ev, T.tst, I.ev, two_none, two_some, isRd, rdZ, vZ, List.getElem?_cons_zero, List.getElem?_cons_succ, R.bind_ok, ixF_fz, ixT, at0, at1, at2, ofD_some, liftO_some, nonBw_w, cmpT_fz, Z.dat_fz, Fl.of_ok, dc1, dc2, dc3, dc4, dca1, dca2, dca3, dca4, dcaO1, dcaO2, po1, po2, po3, po4, io_fz, wdat, tup0, tup1, tup2, tup3, tup4, lst0, lst1, lst3, es_io, cmp_gt, cmp_lt, decide_eq_true c1, if_true, dcio1 h1, dcio2 h2, List.set_cons_succ, List.set_cons_zero, Fl.then_nx, eq_int, q0, q1, q4, q6, q8, qe, Bool.false_eq_true, if_false, if_true, binF_fz, addI, subI, ofO_some] <;> rfl
theorem drawn_4 {cf : CF} {o o1 o2 o3 : O} {dp ar : Nat} {a b : Tm} (hd : 0 < dp) (h1 : cf "_law_take" [.io o, .fz (.int 9)] = .ret (.fz (.int 4)) [o1]) (h2 : cf "_law_drawn" [.io o1, .fz (.int ((dp : Int) - 1)), .fz (.int ar)] = .ret (.fz (enc a)) [o2]) (h3 : cf "_law_drawn" [.io o2, .fz (.int ((dp : Int) - 1)), .fz (.int ar)] = .ret (.fz (enc b)) [o3]) :
    finish [0] (d__law_drawn.body.ex cf g fuel [some (.io o), some (.fz (.int dp)), some (.fz (.int ar)), none]) = .ret (.fz (enc (.use a b))) [o3] := by
  have c1 : (0 : Int) < dp := by omega
  have z0 : decide ((0 : Int) < ((0 : Nat) : Int)) = false := rfl
  have q0 : ((4 : Int) == 0) = false := rfl
  have q1 : ((4 : Int) == 1) = false := rfl
  have q4 : decide ((4 : Int) < 4) = false := rfl
  have q6 : decide ((4 : Int) < 6) = true := rfl
  have q8 : decide ((4 : Int) < 8) = true := rfl
  have qe : ((4 : Int) == 6) = false := rfl
  simp only [d__law_drawn, ev_v, ev_rd, ev_g, ev_k, ev_bin, ev_cmp, ev_chain, ev_andE, ev_orE, ev_nt, ev_ife, ev_tup, ev_lst, ev_ix, ev_sl, ev_call, ev_callk, ev_own, ev_b1, ev_b2, ev_isi, ev_gin, ev_gix, ss_nil, ss_cons, ex_asg, ex_par, ex_ife, ex_ret, setTg_n, Es.ev, T.tst, I.ev, two_none, two_some, isRd, rdZ, vZ, List.getElem?_cons_zero, List.getElem?_cons_succ, R.bind_ok, ixF_fz, ixT, at0, at1, at2, ofD_some, liftO_some, nonBw_w, cmpT_fz, Z.dat_fz, Fl.of_ok, dc1, dc2, dc3, dc4, dca1, dca2, dca3, dca4, dcaO1, dcaO2, po1, po2, po3, po4, io_fz, wdat, tup0, tup1, tup2, tup3, tup4, lst0, lst1, lst3, es_io, cmp_gt, cmp_lt, decide_eq_true c1, if_true, dcio1 h1, dcio2 h2, dcio2 h3, List.set_cons_succ, List.set_cons_zero, Fl.then_nx, eq_int, q0, q1, q4, q6, q8, qe, Bool.false_eq_true, if_false, if_true, binF_fz, addI, subI, ofO_some] <;> rfl
theorem drawn_5 {cf : CF} {o o1 o2 o3 : O} {dp ar : Nat} {a b : Tm} (hd : 0 < dp) (h1 : cf "_law_take" [.io o, .fz (.int 9)] = .ret (.fz (.int 5)) [o1]) (h2 : cf "_law_drawn" [.io o1, .fz (.int ((dp : Int) - 1)), .fz (.int ar)] = .ret (.fz (enc a)) [o2]) (h3 : cf "_law_drawn" [.io o2, .fz (.int ((dp : Int) - 1)), .fz (.int ar)] = .ret (.fz (enc b)) [o3]) :
    finish [0] (d__law_drawn.body.ex cf g fuel [some (.io o), some (.fz (.int dp)), some (.fz (.int ar)), none]) = .ret (.fz (enc (.use a b))) [o3] := by
  have c1 : (0 : Int) < dp := by omega
  have z0 : decide ((0 : Int) < ((0 : Nat) : Int)) = false := rfl
  have q0 : ((5 : Int) == 0) = false := rfl
  have q1 : ((5 : Int) == 1) = false := rfl
  have q4 : decide ((5 : Int) < 4) = false := rfl
  have q6 : decide ((5 : Int) < 6) = true := rfl
  have q8 : decide ((5 : Int) < 8) = true := rfl
  have qe : ((5 : Int) == 6) = false := rfl
  simp only [d__law_drawn, ev_v, ev_rd, ev_g, ev_k, ev_bin, ev_cmp, ev_chain, ev_andE, ev_orE, ev_nt, ev_ife, ev_tup, ev_lst, ev_ix, ev_sl, ev_call, ev_callk, ev_own, ev_b1, ev_b2, ev_isi, ev_gin, ev_gix, ss_nil, ss_cons, ex_asg, ex_par, ex_ife, ex_ret, setTg_n, Es.ev, T.tst, I.ev, two_none, two_some, isRd, rdZ, vZ, List.getElem?_cons_zero, List.getElem?_cons_succ, R.bind_ok, ixF_fz, ixT, at0, at1, at2, ofD_some, liftO_some, nonBw_w, cmpT_fz, Z.dat_fz, Fl.of_ok, dc1, dc2, dc3, dc4, dca1, dca2, dca3, dca4, dcaO1, dcaO2, po1, po2, po3, po4, io_fz, wdat, tup0, tup1, tup2, tup3, tup4, lst0, lst1, lst3, es_io, cmp_gt, cmp_lt, decide_eq_true c1, if_true, dcio1 h1, dcio2 h2, dcio2 h3, List.set_cons_succ, List.set_cons_zero, Fl.then_nx, eq_int, q0, q1, q4, q6, q8, qe, Bool.false_eq_true, if_false, if_true, binF_fz, addI, subI, ofO_some] <;> rfl
theorem drawn_6 {cf : CF} {o o1 o2 : O} {dp ar : Nat} {a : Tm} (hd : 0 < dp) (h1 : cf "_law_take" [.io o, .fz (.int 9)] = .ret (.fz (.int 6)) [o1]) (h2 : cf "_law_drawn" [.io o1, .fz (.int ((dp : Int) - 1)), .fz (.int ar)] = .ret (.fz (enc a)) [o2]) :
    finish [0] (d__law_drawn.body.ex cf g fuel [some (.io o), some (.fz (.int dp)), some (.fz (.int ar)), none]) = .ret (.fz (enc (.up a))) [o2] := by
  have c1 : (0 : Int) < dp := by omega
  have z0 : decide ((0 : Int) < ((0 : Nat) : Int)) = false := rfl
  have q0 : ((6 : Int) == 0) = false := rfl
  have q1 : ((6 : Int) == 1) = false := rfl
  have q4 : decide ((6 : Int) < 4) = false := rfl
  have q6 : decide ((6 : Int) < 6) = false := rfl
  have q8 : decide ((6 : Int) < 8) = true := rfl
  have qe : ((6 : Int) == 6) = true := rfl
  simp only [d__law_drawn, ev_v, ev_rd, ev_g, ev_k, ev_bin, ev_cmp, ev_chain, ev_andE, ev_orE, ev_nt, ev_ife, ev_tup, ev_lst, ev_ix, ev_sl, ev_call, ev_callk, ev_own, ev_b1, ev_b2, ev_isi, ev_gin, ev_gix, ss_nil, ss_cons, ex_asg, ex_par, ex_ife, ex_ret, setTg_n, Es.ev, T.tst, I.ev, two_none, two_some, isRd, rdZ, vZ, List.getElem?_cons_zero, List.getElem?_cons_succ, R.bind_ok, ixF_fz, ixT, at0, at1, at2, ofD_some, liftO_some, nonBw_w, cmpT_fz, Z.dat_fz, Fl.of_ok, dc1, dc2, dc3, dc4, dca1, dca2, dca3, dca4, dcaO1, dcaO2, po1, po2, po3, po4, io_fz, wdat, tup0, tup1, tup2, tup3, tup4, lst0, lst1, lst3, es_io, cmp_gt, cmp_lt, decide_eq_true c1, if_true, dcio1 h1, dcio2 h2, List.set_cons_succ, List.set_cons_zero, Fl.then_nx, eq_int, q0, q1, q4, q6, q8, qe, Bool.false_eq_true, if_false, if_true, binF_fz, addI, subI, ofO_some] <;> rfl
theorem drawn_7 {cf : CF} {o o1 o2 : O} {dp ar : Nat} {a : Tm} (hd : 0 < dp) (h1 : cf "_law_take" [.io o, .fz (.int 9)] = .ret (.fz (.int 7)) [o1]) (h2 : cf "_law_drawn" [.io o1, .fz (.int ((dp : Int) - 1)), .fz (.int ar)] = .ret (.fz (enc a)) [o2]) :
    finish [0] (d__law_drawn.body.ex cf g fuel [some (.io o), some (.fz (.int dp)), some (.fz (.int ar)), none]) = .ret (.fz (enc (.dn a))) [o2] := by
  have c1 : (0 : Int) < dp := by omega
  have z0 : decide ((0 : Int) < ((0 : Nat) : Int)) = false := rfl
  have q0 : ((7 : Int) == 0) = false := rfl
  have q1 : ((7 : Int) == 1) = false := rfl
  have q4 : decide ((7 : Int) < 4) = false := rfl
  have q6 : decide ((7 : Int) < 6) = false := rfl
  have q8 : decide ((7 : Int) < 8) = true := rfl
  have qe : ((7 : Int) == 6) = false := rfl
  simp only [d__law_drawn, ev_v, ev_rd, ev_g, ev_k, ev_bin, ev_cmp, ev_chain, ev_andE, ev_orE, ev_nt, ev_ife, ev_tup, ev_lst, ev_ix, ev_sl, ev_call, ev_callk, ev_own, ev_b1, ev_b2, ev_isi, ev_gin, ev_gix, ss_nil, ss_cons, ex_asg, ex_par, ex_ife, ex_ret, setTg_n, Es.ev, T.tst, I.ev, two_none, two_some, isRd, rdZ, vZ, List.getElem?_cons_zero, List.getElem?_cons_succ, R.bind_ok, ixF_fz, ixT, at0, at1, at2, ofD_some, liftO_some, nonBw_w, cmpT_fz, Z.dat_fz, Fl.of_ok, dc1, dc2, dc3, dc4, dca1, dca2, dca3, dca4, dcaO1, dcaO2, po1, po2, po3, po4, io_fz, wdat, tup0, tup1, tup2, tup3, tup4, lst0, lst1, lst3, es_io, cmp_gt, cmp_lt, decide_eq_true c1, if_true, dcio1 h1, dcio2 h2, List.set_cons_succ, List.set_cons_zero, Fl.then_nx, eq_int, q0, q1, q4, q6, q8, qe, Bool.false_eq_true, if_false, if_true, binF_fz, addI, subI, ofO_some] <;> rfl
theorem drawn_8 {cf : CF} {o o1 o2 o3 o4 : O} {dp ar : Nat} {a b c : Tm} (hd : 0 < dp) (h1 : cf "_law_take" [.io o, .fz (.int 9)] = .ret (.fz (.int 8)) [o1]) (h2 : cf "_law_drawn" [.io o1, .fz (.int ((dp : Int) - 1)), .fz (.int ar)] = .ret (.fz (enc a)) [o2]) (h3 : cf "_law_drawn" [.io o2, .fz (.int ((dp : Int) - 1)), .fz (.int ar)] = .ret (.fz (enc b)) [o3]) (h4 : cf "_law_drawn" [.io o3, .fz (.int ((dp : Int) - 1)), .fz (.int ar)] = .ret (.fz (enc c)) [o4]) :
    finish [0] (d__law_drawn.body.ex cf g fuel [some (.io o), some (.fz (.int dp)), some (.fz (.int ar)), none]) = .ret (.fz (enc (.iff a b c))) [o4] := by
  have c1 : (0 : Int) < dp := by omega
  have z0 : decide ((0 : Int) < ((0 : Nat) : Int)) = false := rfl
  have q0 : ((8 : Int) == 0) = false := rfl
  have q1 : ((8 : Int) == 1) = false := rfl
  have q4 : decide ((8 : Int) < 4) = false := rfl
  have q6 : decide ((8 : Int) < 6) = false := rfl
  have q8 : decide ((8 : Int) < 8) = false := rfl
  have qe : ((8 : Int) == 6) = false := rfl
  simp only [d__law_drawn, ev_v, ev_rd, ev_g, ev_k, ev_bin, ev_cmp, ev_chain, ev_andE, ev_orE, ev_nt, ev_ife, ev_tup, ev_lst, ev_ix, ev_sl, ev_call, ev_callk, ev_own, ev_b1, ev_b2, ev_isi, ev_gin, ev_gix, ss_nil, ss_cons, ex_asg, ex_par, ex_ife, ex_ret, setTg_n, Es.ev, T.tst, I.ev, two_none, two_some, isRd, rdZ, vZ, List.getElem?_cons_zero, List.getElem?_cons_succ, R.bind_ok, ixF_fz, ixT, at0, at1, at2, ofD_some, liftO_some, nonBw_w, cmpT_fz, Z.dat_fz, Fl.of_ok, dc1, dc2, dc3, dc4, dca1, dca2, dca3, dca4, dcaO1, dcaO2, po1, po2, po3, po4, io_fz, wdat, tup0, tup1, tup2, tup3, tup4, lst0, lst1, lst3, es_io, cmp_gt, cmp_lt, decide_eq_true c1, if_true, dcio1 h1, dcio2 h2, dcio2 h3, dcio2 h4, List.set_cons_succ, List.set_cons_zero, Fl.then_nx, eq_int, q0, q1, q4, q6, q8, qe, Bool.false_eq_true, if_false, if_true, binF_fz, addI, subI, ofO_some] <;> rfl
end K04


set_option Elab.async false
set_option linter.all false
set_option maxRecDepth 100000
set_option maxHeartbeats 8000000
namespace K04
open PySem Co
/-- one more than the greatest letter's number -/
def Tm.mv : Tm → Nat
  | .var i => i + 1
  | .num _ => 0
  | .fn a => a.mv
  | .use a b => max a.mv b.mv
  | .up a => a.mv
  | .dn a => a.mv
  | .iff a b c => max a.mv (max b.mv c.mv)
theorem fr_mv : ∀ (t : Tm) (d x : Nat), x ∈ t.fr d → x + 1 ≤ t.mv
  | .var i, d, x, h => by
    unfold Tm.fr at h
    split at h
    · simp at h; show x + 1 ≤ i + 1; omega
    · simp at h
  | .num i, d, x, h => by simp [Tm.fr] at h
  | .fn a, d, x, h => fr_mv a (d + 1) x h
  | .use a b, d, x, h => by
    show x + 1 ≤ max a.mv b.mv
    rcases List.mem_append.mp h with z | z
    · have := fr_mv a d x z; omega
    · have := fr_mv b d x z; omega
  | .up a, d, x, h => fr_mv a d x h
  | .dn a, d, x, h => fr_mv a d x h
  | .iff a b c, d, x, h => by
    show x + 1 ≤ max a.mv (max b.mv c.mv)
    rcases List.mem_append.mp h with z | z
    · have := fr_mv a d x z; omega
    · rcases List.mem_append.mp z with z | z
      · have := fr_mv b d x z; omega
      · have := fr_mv c d x z; omega
theorem cl_le : ∀ (xs : List Nat) (a m : Nat), a ≤ m → (∀ x ∈ xs, x + 1 ≤ m) → xs.foldl (fun m x => max m (x + 1)) a ≤ m
  | [], a, m, h, _ => h
  | y :: xs, a, m, h, hx => cl_le xs _ m (Nat.max_le.mpr ⟨h, hx y List.mem_cons_self⟩) fun x hm => hx x (List.mem_cons_of_mem _ hm)
theorem cl_mv (t : Tm) (d : Nat) : cl (t.fr d) ≤ t.mv := cl_le _ 0 _ (Nat.zero_le _) fun x h => fr_mv t d x h
def Drawn (n dp ar : Nat) (a b c : Int) : Prop := ∃ (t : Tm) (a' c' : Int), c ≤ c' ∧ c' ≤ c + ((4 ^ (dp + 1) : Nat) : Int) ∧ t.ht ≤ dp + 1 ∧ t.mv ≤ ar + dp + 3 ∧
  callN tab g fuel n "_law_drawn" [.io (tinO a b c), .fz (.int dp), .fz (.int ar)] = .ret (.fz (enc t)) [tinO a' b c']
theorem drawn_ok : ∀ (dp ar n : Nat) (a b c : Int), 0 ≤ c → c + ((4 ^ (dp + 1) : Nat) : Int) < 1000000000000 → ar + dp ≤ 900000 → dp + 2 ≤ n → Drawn n dp ar a b c
  | 0, ar, n, a, b, c, h0, h1, h2, hn => by
    obtain ⟨n, rfl⟩ : ∃ m, n = m + 1 := ⟨n - 1, by omega⟩
    have hp : (4 ^ (0 + 1) : Nat) = 4 := rfl
    unfold Drawn
    rw [hp] at h1 ⊢
    obtain ⟨r, a1, c1, hr, k1, k2, e1⟩ := take_ok (n := n) a b c 2 (by omega) (by omega) h0 (by omega) (by omega)
    rcases (by omega : r = 0 ∨ r = 1) with rfl | rfl
    · obtain ⟨v, a2, c2, hv, k3, k4, e2⟩ := take_ok (n := n) a1 b c1 5 (by omega) (by omega) (by omega) (by omega) (by omega)
      exact ⟨.num v, a2, c2, by omega, by omega, by simp [Tm.ht], by simp [Tm.mv], (e__law_drawn n _ _ _).trans (drawnL_0 (v := v) e1 e2)⟩
    · obtain ⟨v, a2, c2, hv, k3, k4, e2⟩ := take_ok (n := n) a1 b c1 (ar + 3) (by omega) (by omega) (by omega) (by omega) (by omega)
      have q : (((ar + 3 : Nat)) : Int) = (ar : Int) + 3 := by omega
      rw [q] at e2
      exact ⟨.var v, a2, c2, by omega, by omega, by simp [Tm.ht], by simp [Tm.mv]; omega, (e__law_drawn n _ _ _).trans (drawnL_1 (v := v) e1 e2)⟩
  | dp + 1, ar, n, a, b, c, h0, h1, h2, hn => by
    obtain ⟨n, rfl⟩ : ∃ m, n = m + 1 := ⟨n - 1, by omega⟩
    have hp : (4 ^ (dp + 1 + 1) : Nat) = 4 * 4 ^ (dp + 1) := by rw [Nat.pow_succ, Nat.mul_comm]
    have hp1 : 4 ≤ (4 ^ (dp + 1) : Nat) := by rw [Nat.pow_succ]; have : 0 < 4 ^ dp := Nat.pow_pos (by omega); omega
    have IH := fun ar a b c => drawn_ok dp ar n a b c
    unfold Drawn at IH ⊢
    rw [hp] at h1 ⊢
    generalize 4 ^ (dp + 1) = P at *
    have hd : (((dp + 1 : Nat) : Int) - 1) = (dp : Int) := by omega
    obtain ⟨r, a1, c1, hr, k1, k2, e1⟩ := take_ok (n := n) a b c 9 (by omega) (by omega) h0 (by omega) (by omega)
    rcases (by omega : r = 0 ∨ r = 1 ∨ r = 2 ∨ r = 3 ∨ r = 4 ∨ r = 5 ∨ r = 6 ∨ r = 7 ∨ r = 8) with rfl | rfl | rfl | rfl | rfl | rfl | rfl | rfl | rfl
    · obtain ⟨v, a2, c2, hv, k3, k4, e2⟩ := take_ok (n := n) a1 b c1 5 (by omega) (by omega) (by omega) (by omega) (by omega)
      exact ⟨.num v, a2, c2, by omega, by omega, by simp [Tm.ht], by simp [Tm.mv], (e__law_drawn n _ _ _).trans (drawn_0 (v := v) (by omega) e1 e2)⟩
    · obtain ⟨v, a2, c2, hv, k3, k4, e2⟩ := take_ok (n := n) a1 b c1 (ar + 3) (by omega) (by omega) (by omega) (by omega) (by omega)
      have q : (((ar + 3 : Nat)) : Int) = (ar : Int) + 3 := by omega
      rw [q] at e2
      exact ⟨.var v, a2, c2, by omega, by omega, by simp [Tm.ht], by simp [Tm.mv]; omega, (e__law_drawn n _ _ _).trans (drawn_1 (v := v) (by omega) e1 e2)⟩
    · obtain ⟨t, a2, c2, k3, k4, k5, k6, e2⟩ := IH (ar + 1) a1 b c1 (by omega) (by omega) (by omega) (by omega)
      have q : (((ar + 1 : Nat)) : Int) = (ar : Int) + 1 := by omega
      rw [q, ← hd] at e2
      exact ⟨.fn t, a2, c2, by omega, by omega, by simp [Tm.ht]; omega, by simp [Tm.mv]; omega, (e__law_drawn n _ _ _).trans (drawn_2 (a := t) (by omega) e1 e2)⟩
    · obtain ⟨t, a2, c2, k3, k4, k5, k6, e2⟩ := IH (ar + 1) a1 b c1 (by omega) (by omega) (by omega) (by omega)
      have q : (((ar + 1 : Nat)) : Int) = (ar : Int) + 1 := by omega
      rw [q, ← hd] at e2
      exact ⟨.fn t, a2, c2, by omega, by omega, by simp [Tm.ht]; omega, by simp [Tm.mv]; omega, (e__law_drawn n _ _ _).trans (drawn_3 (a := t) (by omega) e1 e2)⟩
    · obtain ⟨t, a2, c2, k3, k4, k5, k6, e2⟩ := IH ar a1 b c1 (by omega) (by omega) (by omega) (by omega)
      obtain ⟨u, a3, c3, l3, l4, l5, l6, e3⟩ := IH ar a2 b c2 (by omega) (by omega) (by omega) (by omega)
      rw [← hd] at e2 e3
      exact ⟨.use t u, a3, c3, by omega, by omega, by simp [Tm.ht]; omega, by simp [Tm.mv]; omega, (e__law_drawn n _ _ _).trans (drawn_4 (a := t) (b := u) (by omega) e1 e2 e3)⟩
    · obtain ⟨t, a2, c2, k3, k4, k5, k6, e2⟩ := IH ar a1 b c1 (by omega) (by omega) (by omega) (by omega)
      obtain ⟨u, a3, c3, l3, l4, l5, l6, e3⟩ := IH ar a2 b c2 (by omega) (by omega) (by omega) (by omega)
      rw [← hd] at e2 e3
      exact ⟨.use t u, a3, c3, by omega, by omega, by simp [Tm.ht]; omega, by simp [Tm.mv]; omega, (e__law_drawn n _ _ _).trans (drawn_5 (a := t) (b := u) (by omega) e1 e2 e3)⟩
    · obtain ⟨t, a2, c2, k3, k4, k5, k6, e2⟩ := IH ar a1 b c1 (by omega) (by omega) (by omega) (by omega)
      rw [← hd] at e2
      exact ⟨.up t, a2, c2, by omega, by omega, by simp [Tm.ht]; omega, by simp [Tm.mv]; omega, (e__law_drawn n _ _ _).trans (drawn_6 (a := t) (by omega) e1 e2)⟩
    · obtain ⟨t, a2, c2, k3, k4, k5, k6, e2⟩ := IH ar a1 b c1 (by omega) (by omega) (by omega) (by omega)
      rw [← hd] at e2
      exact ⟨.dn t, a2, c2, by omega, by omega, by simp [Tm.ht]; omega, by simp [Tm.mv]; omega, (e__law_drawn n _ _ _).trans (drawn_7 (a := t) (by omega) e1 e2)⟩
    · obtain ⟨t, a2, c2, k3, k4, k5, k6, e2⟩ := IH ar a1 b c1 (by omega) (by omega) (by omega) (by omega)
      obtain ⟨u, a3, c3, l3, l4, l5, l6, e3⟩ := IH ar a2 b c2 (by omega) (by omega) (by omega) (by omega)
      obtain ⟨s, a4, c4, m3, m4, m5, m6, e4⟩ := IH ar a3 b c3 (by omega) (by omega) (by omega) (by omega)
      rw [← hd] at e2 e3 e4
      exact ⟨.iff t u s, a4, c4, by omega, by omega, by simp [Tm.ht]; omega, by simp [Tm.mv]; omega, (e__law_drawn n _ _ _).trans (drawn_8 (a := t) (b := u) (c := s) (by omega) e1 e2 e3 e4)⟩
end K04


set_option Elab.async false
set_option linter.all false
set_option maxRecDepth 100000
set_option maxHeartbeats 8000000
namespace K04
open PySem Co
def anS0 : S := (.for (.n 3) (.rng1 (.k (.int 8))) (.cons (.asg (.n 4) (.call "_law_drawn" (.cons (.io 0) (.cons (.v 1) (.cons (.v 2) .nil)))))
    (.cons (.ife (.cmp .le (.call "_law_size" (.cons (.v 4) .nil)) (.k (.int 36))) (.cons (.ret (.v 4))
    .nil) .nil)
    .nil)))
def anS1 : S := (.ret (.tup (.cons (.k (.str "use")) (.cons (.tup (.cons (.k (.str "fun")) (.cons (.tup (.cons (.k (.str "use")) (.cons (.tup (.cons (.k (.str "var")) (.cons (.k (.int 0)) .nil))) (.cons (.tup (.cons (.k (.str "var")) (.cons (.k (.int 1)) .nil))) .nil)))) .nil))) (.cons (.tup (.cons (.k (.str "up")) (.cons (.tup (.cons (.k (.str "num")) (.cons (.k (.int 2)) .nil))) .nil))) .nil)))))
theorem anS_body : d__law_any.body = .cons anS0 (.cons anS1 (.nil)) := rfl


theorem any_body {cf : CF} {o o1 : O} {dp ar s : Nat} {t : Tm} {x y : Option W} {b : Bool} (hs : decide ((s : Int) ≤ 36) = b) (h1 : cf "_law_drawn" [.io o, .fz (.int dp), .fz (.int ar)] = .ret (.fz (enc t)) [o1]) (h2 : cf "_law_size" [.fz (enc t)] = .ret (.fz (.int s)) []) :
    Ss.ex cf g fuel (.cons (.asg (.n 4) (.call "_law_drawn" (.cons (.io 0) (.cons (.v 1) (.cons (.v 2) .nil)))))
    (.cons (.ife (.cmp .le (.call "_law_size" (.cons (.v 4) .nil)) (.k (.int 36))) (.cons (.ret (.v 4)) .nil) .nil) .nil)) [some (.io o), some (.fz (.int dp)), some (.fz (.int ar)), x, y] = if b then .rt (.fz (enc t)) [some (.io o1), some (.fz (.int dp)), some (.fz (.int ar)), x, some (.fz (enc t))] else .nx [some (.io o1), some (.fz (.int dp)), some (.fz (.int ar)), x, some (.fz (enc t))] := by
  simp only [ev_v, ev_rd, ev_g, ev_k, ev_bin, ev_cmp, ev_chain, ev_andE, ev_orE, ev_nt, ev_ife, ev_tup, ev_lst, ev_ix, ev_sl, ev_call, ev_callk, ev_own, ev_b1, ev_b2, ev_isi, ev_gin, ev_gix, ss_nil, ss_cons, ex_asg, ex_par, ex_ife, ex_ret, setTg_n, Es.ev, T.tst, I.ev, two_none, two_some, isRd, rdZ, vZ, List.getElem?_cons_zero, List.getElem?_cons_succ, R.bind_ok, ixF_fz, ixT, at0, at1, at2, ofD_some, liftO_some, nonBw_w, cmpT_fz, Z.dat_fz, Fl.of_ok, dc1, dc2, dc3, dc4, dca1, dca2, dca3, dca4, dcaO1, dcaO2, po1, po2, po3, po4, io_fz, wdat, tup0, tup1, tup2, tup3, tup4, lst0, lst1, lst3, es_io, dcio2 h1, List.set_cons_succ, List.set_cons_zero, Fl.then_nx, h2, cmp_le, hs]
  cases b <;> rfl
def aenv (o : O) (dp ar : Nat) (x y : Option W) : Co.Env := [some (.io o), some (.fz (.int dp)), some (.fz (.int ar)), x, y]
theorem any_ok (dp ar n : Nat) (a b c : Int) (h0 : 0 ≤ c) (h1 : c + 8 * ((4 ^ (dp + 1) : Nat) : Int) < 1000000000000) (h2 : ar + dp ≤ 900000) (hn : dp + 3 ≤ n) : ∃ (t : Tm) (a' c' : Int), c ≤ c' ∧ c' ≤ c + 8 * ((4 ^ (dp + 1) : Nat) : Int) ∧ t.ht ≤ dp + 4 ∧ t.sz ≤ 36 ∧ t.mv ≤ ar + dp + 3 ∧
    callN tab g fuel n "_law_any" [.io (tinO a b c), .fz (.int dp), .fz (.int ar)] = .ret (.fz (enc t)) [tinO a' b c'] := by
  obtain ⟨n, rfl⟩ : ∃ m, n = m + 1 := ⟨n - 1, by omega⟩
  have IH := fun a c hc hc2 => drawn_ok dp ar n a b c hc hc2 h2 (by omega)
  unfold Drawn at IH
  generalize 4 ^ (dp + 1) = P at *
  rw [e__law_any]
  have key := for_ret (Iv := fun k ρ => ∃ a' c' x y, ρ = aenv (tinO a' b c') dp ar x y ∧ c ≤ c' ∧ c' ≤ c + k * (P : Int))
    (Q := fun x ρ => ∃ (t : Tm) (a' c' : Int) (p q : Option W), x = .fz (enc t) ∧ ρ = aenv (tinO a' b c') dp ar p q ∧ t.sz ≤ 36 ∧ t.ht ≤ dp + 1 ∧ t.mv ≤ ar + dp + 3 ∧ c ≤ c' ∧ c' ≤ c + 8 * (P : Int))
    (body := fun d ρ => match setTg (.n 3) d ρ with
      | some ρ' => Ss.ex (callN tab g fuel n) g fuel (.cons (.asg (.n 4) (.call "_law_drawn" (.cons (.io 0) (.cons (.v 1) (.cons (.v 2) .nil))))) (.cons (.ife (.cmp .le (.call "_law_size" (.cons (.v 4) .nil)) (.k (.int 36))) (.cons (.ret (.v 4)) .nil) .nil) .nil)) ρ'
      | none => .bad)
    (rngD 0 1 8) 0 (aenv (tinO a b c) dp ar none none) ⟨a, c, none, none, rfl, by omega, by omega⟩ (by
      rintro i d ρ hd ⟨a', c', x, y, rfl, k1, k2⟩
      have hi : i < 8 := by
        have := (List.getElem?_eq_some_iff.mp hd).1
        simpa [rngD] using this
      have e8 : ((0 + i : Nat) : Int) * (P : Int) ≤ 7 * (P : Int) := Int.mul_le_mul_of_nonneg_right (by omega) (by omega)
      have e9 : ((0 + i + 1 : Nat) : Int) * (P : Int) = ((0 + i : Nat) : Int) * (P : Int) + P := by push_cast; rw [Int.add_mul]; omega
      obtain ⟨t, a2, c2, l1, l2, l3, l4, e⟩ := IH a' c' (by omega) (by omega)
      have hb := any_body (x := some (.fz d)) (y := y) (b := decide ((t.sz : Int) ≤ 36)) rfl e (size_ok t n (by omega))
      show (∃ ρ', Ss.ex (callN tab g fuel n) g fuel _ [some (.io (tinO a' b c')), some (.fz (.int dp)), some (.fz (.int ar)), some (.fz d), y] = .nx ρ' ∧ _) ∨ ∃ x ρ', Ss.ex (callN tab g fuel n) g fuel _ [some (.io (tinO a' b c')), some (.fz (.int dp)), some (.fz (.int ar)), some (.fz d), y] = .rt x ρ' ∧ _
      rw [hb]
      by_cases hz : (t.sz : Int) ≤ 36
      · rw [if_pos (decide_eq_true hz)]
        exact .inr ⟨_, _, rfl, t, a2, c2, _, _, rfl, rfl, by omega, l3, l4, by omega, by omega⟩
      · rw [if_neg (by simpa using hz)]
        exact .inl ⟨_, rfl, a2, c2, _, _, rfl, by omega, by omega⟩)
  have hit : S.ex (callN tab g fuel n) g fuel anS0 (aenv (tinO a b c) dp ar none none) = forLoop (fun d ρ => match setTg (.n 3) d ρ with
      | some ρ' => Ss.ex (callN tab g fuel n) g fuel (.cons (.asg (.n 4) (.call "_law_drawn" (.cons (.io 0) (.cons (.v 1) (.cons (.v 2) .nil))))) (.cons (.ife (.cmp .le (.call "_law_size" (.cons (.v 4) .nil)) (.k (.int 36))) (.cons (.ret (.v 4)) .nil) .nil) .nil)) ρ'
      | none => .bad) (rngD 0 1 8) (aenv (tinO a b c) dp ar none none) := by
    unfold anS0
    rw [ex_for, rng1_ev _ _ _ (.k (.int 8)) (.w (.fz (.int 8))) _ 8 (by omega) rfl rfl]
    rfl
  rw [anS_body]
  show ∃ (t : Tm) (a' c' : Int), _ ∧ _ ∧ _ ∧ _ ∧ _ ∧ finish [0] (Ss.ex (callN tab g fuel n) g fuel (.cons anS0 (.cons anS1 .nil)) (aenv (tinO a b c) dp ar none none)) = _
  rcases key with ⟨ρ', e, a', c', x, y, rfl, k1, k2⟩ | ⟨w, ρ', e, t, a', c', x, y, rfl, rfl, k1, k2, k3, k4, k5⟩
  · rw [ss_step (hit.trans e) rfl]
    have : (rngD 0 1 8).length = 8 := by simp [rngD]
    rw [this] at k2
    refine ⟨.use (.fn (.use (.var 0) (.var 1))) (.up (.num 2)), a', c', k1, by simpa using k2, by simp [Tm.ht], by simp [Tm.sz], by simp [Tm.mv], ?_⟩
    kernel_rfl
  · rw [ss_rt (hit.trans e)]
    exact ⟨t, a', c', k4, k5, by omega, k1, k3, rfl⟩
end K04

set_option Elab.async false
set_option linter.all false
set_option maxRecDepth 100000
namespace K04
open PySem Co
/-! ### putting in, one behind the other: plain facts -/
theorem rs_var_ge (k l i : Nat) (h : l ≤ i) : (Tm.var i).rs k l = .var (i + k) := by unfold Tm.rs; rw [if_pos h]
theorem rs_var_lt (k l i : Nat) (h : ¬ l ≤ i) : (Tm.var i).rs k l = .var i := by unfold Tm.rs; rw [if_neg h]
theorem lt_var_lt (row : List Tm) (d i : Nat) (h : i < d) : (Tm.var i).lt row 0 d = .var i := by unfold Tm.lt; rw [if_pos h]
theorem lt_var_in (row : List Tm) (d i : Nat) (u : Tm) (h : ¬ i < d) (hu : row[i - d]? = some u) : (Tm.var i).lt row 0 d = u.rs d 0 := by unfold Tm.lt; rw [if_neg h, hu]
theorem lt_var_out (row : List Tm) (d i : Nat) (h : ¬ i < d) (hu : row[i - d]? = none) : (Tm.var i).lt row 0 d = .var (i - row.length) := by unfold Tm.lt; rw [if_neg h, hu]; rfl
/-- raising and raising -/
theorem rs_comm (k m : Nat) : ∀ (t : Tm) (l j : Nat), l ≤ j → (t.rs k l).rs m (j + k) = (t.rs m j).rs k l
  | .var i, l, j, h => by
    by_cases c : l ≤ i
    · rw [rs_var_ge k l i c]
      by_cases c2 : j ≤ i
      · rw [rs_var_ge m _ _ (by omega), rs_var_ge m j i c2, rs_var_ge k l _ (by omega)]; congr 1; omega
      · rw [rs_var_lt m _ _ (by omega), rs_var_lt m j i c2, rs_var_ge k l _ c]
    · rw [rs_var_lt k l i c, rs_var_lt m _ _ (by omega), rs_var_lt m j i (by omega), rs_var_lt k l i c]
  | .num i, l, j, h => rfl
  | .fn a, l, j, h => by
    have := rs_comm k m a (l + 1) (j + 1) (by omega)
    rw [show j + 1 + k = j + k + 1 by omega] at this
    show Tm.fn _ = Tm.fn _
    rw [this]
  | .use a b, l, j, h => by show Tm.use _ _ = Tm.use _ _; rw [rs_comm k m a l j h, rs_comm k m b l j h]
  | .up a, l, j, h => by show Tm.up _ = Tm.up _; rw [rs_comm k m a l j h]
  | .dn a, l, j, h => by show Tm.dn _ = Tm.dn _; rw [rs_comm k m a l j h]
  | .iff a b c, l, j, h => by show Tm.iff _ _ _ = Tm.iff _ _ _; rw [rs_comm k m a l j h, rs_comm k m b l j h, rs_comm k m c l j h]
/-- raising, then putting in beyond -/
theorem rs_lt (row : List Tm) (k : Nat) : ∀ (t : Tm) (l d : Nat), l ≤ d → (t.rs k l).lt row 0 (d + k) = (t.lt row 0 d).rs k l
  | .var i, l, d, h => by
    by_cases c : i < d
    · rw [lt_var_lt row d i c]
      by_cases c2 : l ≤ i
      · rw [rs_var_ge k l i c2, lt_var_lt row _ _ (by omega)]
      · rw [rs_var_lt k l i c2, lt_var_lt row _ _ (by omega)]
    · rw [rs_var_ge k l i (by omega)]
      have e : i + k - (d + k) = i - d := by omega
      cases q : row[i - d]? with
      | some u =>
        rw [lt_var_in row _ _ u (by omega) (by rw [e]; exact q), lt_var_in row d i u c q, rs_rs d k u 0 l (by omega) (by omega)]
        congr 1; omega
      | none =>
        rw [lt_var_out row _ _ (by omega) (by rw [e]; exact q), lt_var_out row d i c q]
        have : row.length ≤ i - d := List.getElem?_eq_none_iff.mp q
        rw [rs_var_ge k l _ (by omega)]
        congr 1; omega
  | .num i, l, d, h => rfl
  | .fn a, l, d, h => by
    have := rs_lt row k a (l + 1) (d + 1) (by omega)
    rw [show d + 1 + k = d + k + 1 by omega] at this
    show Tm.fn _ = Tm.fn _
    rw [this]
  | .use a b, l, d, h => by show Tm.use _ _ = Tm.use _ _; rw [rs_lt row k a l d h, rs_lt row k b l d h]
  | .up a, l, d, h => by show Tm.up _ = Tm.up _; rw [rs_lt row k a l d h]
  | .dn a, l, d, h => by show Tm.dn _ = Tm.dn _; rw [rs_lt row k a l d h]
  | .iff a b c, l, d, h => by show Tm.iff _ _ _ = Tm.iff _ _ _; rw [rs_lt row k a l d h, rs_lt row k b l d h, rs_lt row k c l d h]
/-- one put in where raising left room -/
theorem rs_lt1 (u : Tm) (k : Nat) : ∀ (t : Tm) (l d : Nat), l ≤ d → d ≤ l + k → (t.rs (k + 1) l).lt [u] 0 d = t.rs k l
  | .var i, l, d, h, h2 => by
    by_cases c : l ≤ i
    · rw [rs_var_ge _ l i c, rs_var_ge k l i c, lt_var_out [u] d _ (by omega) (by
        apply List.getElem?_eq_none_iff.mpr
        simp
        omega)]
      congr 1
    · rw [rs_var_lt _ l i c, rs_var_lt k l i c, lt_var_lt [u] d i (by omega)]
  | .num i, l, d, h, h2 => rfl
  | .fn a, l, d, h, h2 => by show Tm.fn _ = Tm.fn _; rw [rs_lt1 u k a (l + 1) (d + 1) (by omega) (by omega)]
  | .use a b, l, d, h, h2 => by show Tm.use _ _ = Tm.use _ _; rw [rs_lt1 u k a l d h h2, rs_lt1 u k b l d h h2]
  | .up a, l, d, h, h2 => by show Tm.up _ = Tm.up _; rw [rs_lt1 u k a l d h h2]
  | .dn a, l, d, h, h2 => by show Tm.dn _ = Tm.dn _; rw [rs_lt1 u k a l d h h2]
  | .iff a b c, l, d, h, h2 => by show Tm.iff _ _ _ = Tm.iff _ _ _; rw [rs_lt1 u k a l d h h2, rs_lt1 u k b l d h h2, rs_lt1 u k c l d h h2]
/-- a row, then one: at once -/
theorem lt_row1 (row : List Tm) (w : Tm) : ∀ (t : Tm) (d : Nat), (t.lt row 0 d).lt [w] 0 d = t.lt (row.map (fun r => r.lt [w] 0 0) ++ [w]) 0 d
  | .var i, d => by
    by_cases c : i < d
    · rw [lt_var_lt row d i c, lt_var_lt [w] d i c, lt_var_lt _ d i c]
    · cases q : row[i - d]? with
      | some u =>
        have hl : i - d < row.length := (List.getElem?_eq_some_iff.mp q).1
        have q2 : (row.map (fun r => r.lt [w] 0 0) ++ [w])[i - d]? = some (u.lt [w] 0 0) := by
          rw [List.getElem?_append_left (by rw [List.length_map]; exact hl), List.getElem?_map, q]; rfl
        rw [lt_var_in row d i u c q, lt_var_in _ d i _ c q2]
        have := rs_lt [w] d u 0 0 (by omega)
        rw [Nat.zero_add] at this
        exact this
      | none =>
        have hl : row.length ≤ i - d := List.getElem?_eq_none_iff.mp q
        rw [lt_var_out row d i c q]
        by_cases c2 : i - d = row.length
        · have q2 : (row.map (fun r => r.lt [w] 0 0) ++ [w])[i - d]? = some w := by
            rw [List.getElem?_append_right (by rw [List.length_map]; omega), List.length_map, c2, Nat.sub_self]; rfl
          rw [lt_var_in _ d i w c q2, lt_var_in [w] d _ w (by omega) (by rw [show i - row.length - d = 0 by omega]; rfl)]
        · have q2 : (row.map (fun r => r.lt [w] 0 0) ++ [w])[i - d]? = none := by
            apply List.getElem?_eq_none_iff.mpr
            simp
            omega
          rw [lt_var_out _ d i c q2, lt_var_out [w] d _ (by omega) (by
            apply List.getElem?_eq_none_iff.mpr
            simp
            omega)]
          congr 1
          simp
          omega
  | .num i, d => rfl
  | .fn a, d => by show Tm.fn _ = Tm.fn _; rw [lt_row1 row w a]
  | .use a b, d => by show Tm.use _ _ = Tm.use _ _; rw [lt_row1 row w a, lt_row1 row w b]
  | .up a, d => by show Tm.up _ = Tm.up _; rw [lt_row1 row w a]
  | .dn a, d => by show Tm.dn _ = Tm.dn _; rw [lt_row1 row w a]
  | .iff a b c, d => by show Tm.iff _ _ _ = Tm.iff _ _ _; rw [lt_row1 row w a, lt_row1 row w b, lt_row1 row w c]
/-- the law of putting in behind putting in -/
theorem lt_lt (row : List Tm) (b : Tm) (e : Nat) : ∀ (a : Tm) (d : Nat), (a.lt [b] 0 d).lt row 0 (d + e) = (a.lt row 0 (d + e + 1)).lt [b.lt row 0 e] 0 d
  | .var i, d => by
    by_cases c : i < d
    · rw [lt_var_lt [b] d i c, lt_var_lt row _ i (by omega), lt_var_lt row _ i (by omega), lt_var_lt _ d i c]
    · by_cases c2 : i = d
      · subst c2
        rw [lt_var_in [b] i i b c (by rw [Nat.sub_self]; rfl), lt_var_lt row (i + e + 1) i (by omega), lt_var_in [b.lt row 0 e] i i _ c (by rw [Nat.sub_self]; rfl)]
        have := rs_lt row i b 0 e (by omega)
        rw [Nat.add_comm e i] at this
        exact this
      · have q0 : ∀ (x : Tm), ([x] : List Tm)[i - d]? = none := fun x => List.getElem?_eq_none_iff.mpr (by simp; omega)
        rw [lt_var_out [b] d i c (q0 b)]
        show (Tm.var (i - 1)).lt row 0 (d + e) = _
        by_cases c3 : i < d + e + 1
        · rw [lt_var_lt row _ (i - 1) (by omega), lt_var_lt row _ i c3, lt_var_out _ d i c (q0 _)]
          rfl
        · have e2 : i - 1 - (d + e) = i - (d + e + 1) := by omega
          cases q : row[i - (d + e + 1)]? with
          | some u =>
            rw [lt_var_in row (d + e) (i - 1) u (by omega) (by rw [e2]; exact q), lt_var_in row (d + e + 1) i u c3 q, rs_lt1 (b.lt row 0 e) (d + e) u 0 d (by omega) (by omega)]
          | none =>
            have hl : row.length ≤ i - (d + e + 1) := List.getElem?_eq_none_iff.mp q
            rw [lt_var_out row (d + e) (i - 1) (by omega) (by rw [e2]; exact q), lt_var_out row (d + e + 1) i c3 q, lt_var_out _ d (i - row.length) (by omega) (List.getElem?_eq_none_iff.mpr (by simp; omega))]
            congr 1
            simp
            omega
  | .num i, d => rfl
  | .fn a, d => by
    have := lt_lt row b e a (d + 1)
    rw [show d + 1 + e = d + e + 1 by omega] at this
    show Tm.fn _ = Tm.fn _
    rw [this]
  | .use a a2, d => by show Tm.use _ _ = Tm.use _ _; rw [lt_lt row b e a, lt_lt row b e a2]
  | .up a, d => by show Tm.up _ = Tm.up _; rw [lt_lt row b e a]
  | .dn a, d => by show Tm.dn _ = Tm.dn _; rw [lt_lt row b e a]
  | .iff a a2 a3, d => by show Tm.iff _ _ _ = Tm.iff _ _ _; rw [lt_lt row b e a, lt_lt row b e a2, lt_lt row b e a3]
/-- putting in, then raising -/
theorem lt_rs (b : Tm) (k e : Nat) : ∀ (a : Tm) (d : Nat), (a.lt [b] 0 d).rs k (d + e) = (a.rs k (d + e + 1)).lt [b.rs k e] 0 d
  | .var i, d => by
    by_cases c : i < d
    · rw [lt_var_lt [b] d i c, rs_var_lt k _ i (by omega), rs_var_lt k _ i (by omega), lt_var_lt _ d i c]
    · by_cases c2 : i = d
      · subst c2
        rw [lt_var_in [b] i i b c (by rw [Nat.sub_self]; rfl), rs_var_lt k _ i (by omega), lt_var_in [b.rs k e] i i _ c (by rw [Nat.sub_self]; rfl)]
        have := rs_comm i k b 0 e (by omega)
        rw [Nat.add_comm e i] at this
        exact this
      · have q0 : ∀ (x : Tm), ([x] : List Tm)[i - d]? = none := fun x => List.getElem?_eq_none_iff.mpr (by simp; omega)
        rw [lt_var_out [b] d i c (q0 b)]
        show (Tm.var (i - 1)).rs k (d + e) = _
        by_cases c3 : d + e + 1 ≤ i
        · rw [rs_var_ge k _ (i - 1) (by omega), rs_var_ge k _ i c3, lt_var_out _ d _ (by omega) (List.getElem?_eq_none_iff.mpr (by simp; omega))]
          congr 1
          simp
          omega
        · rw [rs_var_lt k _ (i - 1) (by omega), rs_var_lt k _ i c3, lt_var_out _ d i c (q0 _)]
          rfl
  | .num i, d => rfl
  | .fn a, d => by
    have := lt_rs b k e a (d + 1)
    rw [show d + 1 + e = d + e + 1 by omega] at this
    show Tm.fn _ = Tm.fn _
    rw [this]
  | .use a a2, d => by show Tm.use _ _ = Tm.use _ _; rw [lt_rs b k e a, lt_rs b k e a2]
  | .up a, d => by show Tm.up _ = Tm.up _; rw [lt_rs b k e a]
  | .dn a, d => by show Tm.dn _ = Tm.dn _; rw [lt_rs b k e a]
  | .iff a a2 a3, d => by show Tm.iff _ _ _ = Tm.iff _ _ _; rw [lt_rs b k e a, lt_rs b k e a2, lt_rs b k e a3]
/-! ### steps -/
def Tm.st : Tm → Option Tm
  | .use (.fn a) b => some (a.lt [b] 0 0)
  | .up (.num i) => some (.num (i + 1))
  | .dn (.num i) => some (.num (i - 1))
  | .iff (.num i) a b => some (if i = 0 then a else b)
  | _ => none
theorem st_lt (row : List Tm) (d : Nat) : ∀ (t u : Tm), t.st = some u → (t.lt row 0 d).st = some (u.lt row 0 d)
  | .use (.fn a) b, u, h => by
    cases h
    have := lt_lt row b d a 0
    rw [Nat.zero_add] at this
    rw [this]
    rfl
  | .up (.num i), u, h => by cases h; rfl
  | .dn (.num i), u, h => by cases h; rfl
  | .iff (.num i) a b, u, h => by
    cases h
    show some (if i = 0 then a.lt row 0 d else b.lt row 0 d) = _
    split <;> rfl
theorem st_rs (k l : Nat) : ∀ (t u : Tm), t.st = some u → (t.rs k l).st = some (u.rs k l)
  | .use (.fn a) b, u, h => by
    cases h
    have := lt_rs b k l a 0
    rw [Nat.zero_add] at this
    rw [this]
    rfl
  | .up (.num i), u, h => by cases h; rfl
  | .dn (.num i), u, h => by cases h; rfl
  | .iff (.num i) a b, u, h => by
    cases h
    show some (if i = 0 then a.rs k l else b.rs k l) = _
    split <;> rfl
/-- a step at a place -/
def Tm.sa : Tm → List Nat → Option Tm
  | t, [] => t.st
  | .fn a, 0 :: p => (a.sa p).map .fn
  | .use a b, 0 :: p => (a.sa p).map fun x => .use x b
  | .use a b, 1 :: p => (b.sa p).map fun x => .use a x
  | .up a, 0 :: p => (a.sa p).map .up
  | .dn a, 0 :: p => (a.sa p).map .dn
  | .iff a b c, 0 :: p => (a.sa p).map fun x => .iff x b c
  | .iff a b c, 1 :: p => (b.sa p).map fun x => .iff a x c
  | .iff a b c, 2 :: p => (c.sa p).map fun x => .iff a b x
  | _, _ => none
theorem sa_nil (t : Tm) : t.sa [] = t.st := by cases t <;> rfl
theorem sa_lt (row : List Tm) : ∀ (p : List Nat) (t u : Tm) (d : Nat), t.sa p = some u → (t.lt row 0 d).sa p = some (u.lt row 0 d)
  | [], t, u, d, h => by
    rw [sa_nil] at h ⊢
    exact st_lt row d t u h
  | i :: p, t, u, d, h => by
    unfold Tm.sa at h
    split at h <;> first | (cases h; done) | skip
    case h_1 e => cases e
    all_goals
      rename_i e
      cases e
      obtain ⟨x, hx, rfl⟩ := Option.map_eq_some_iff.mp h
      have ih := fun d => sa_lt row p _ x d hx
      first
        | (show Option.map _ ((Tm.lt row 0 (d + 1) _).sa p) = _; rw [ih]; rfl)
        | (show Option.map _ ((Tm.lt row 0 d _).sa p) = _; rw [ih]; rfl)
theorem sa_rs (k : Nat) : ∀ (p : List Nat) (t u : Tm) (l : Nat), t.sa p = some u → (t.rs k l).sa p = some (u.rs k l)
  | [], t, u, l, h => by
    rw [sa_nil] at h ⊢
    exact st_rs k l t u h
  | i :: p, t, u, l, h => by
    unfold Tm.sa at h
    split at h <;> first | (cases h; done) | skip
    case h_1 e => cases e
    all_goals
      rename_i e
      cases e
      obtain ⟨x, hx, rfl⟩ := Option.map_eq_some_iff.mp h
      have ih := fun l => sa_rs k p _ x l hx
      first
        | (show Option.map _ ((Tm.rs k (l + 1) _).sa p) = _; rw [ih]; rfl)
        | (show Option.map _ ((Tm.rs k l _).sa p) = _; rw [ih]; rfl)
end K04

set_option Elab.async false
set_option linter.all false
set_option maxRecDepth 100000
namespace K04
open PySem Co
/-! ### places -/
def Tm.pl : Tm → List (List Nat)
  | .var _ => [[]]
  | .num _ => [[]]
  | .fn a => [] :: a.pl.map (0 :: ·)
  | .use a b => [] :: (a.pl.map (0 :: ·) ++ b.pl.map (1 :: ·))
  | .up a => [] :: a.pl.map (0 :: ·)
  | .dn a => [] :: a.pl.map (0 :: ·)
  | .iff a b c => [] :: (a.pl.map (0 :: ·) ++ (b.pl.map (1 :: ·) ++ c.pl.map (2 :: ·)))
def plK : Nat → List Tm → List (List Nat)
  | _, [] => []
  | i, a :: as => a.pl.map (i :: ·) ++ plK (i + 1) as
theorem pl_kids (t : Tm) : t.pl = [] :: plK 0 t.kids := by cases t <;> simp [Tm.pl, Tm.kids, plK]
theorem plK_snoc (a : Tm) : ∀ (xs : List Tm) (j : Nat), plK j (xs ++ [a]) = plK j xs ++ a.pl.map ((j + xs.length) :: ·)
  | [], j => by simp [plK]
  | x :: xs, j => by
    simp only [List.cons_append, plK, plK_snoc a xs (j + 1), List.append_assoc, List.length_cons]
    rw [show j + 1 + xs.length = j + (xs.length + 1) by omega]
theorem pl_len : ∀ t : Tm, t.pl.length = t.sz
  | .var _ => rfl
  | .num _ => rfl
  | .fn a => by simp [Tm.pl, Tm.sz, pl_len a]; omega
  | .use a b => by simp [Tm.pl, Tm.sz, pl_len a, pl_len b]; omega
  | .up a => by simp [Tm.pl, Tm.sz, pl_len a]; omega
  | .dn a => by simp [Tm.pl, Tm.sz, pl_len a]; omega
  | .iff a b c => by simp [Tm.pl, Tm.sz, pl_len a, pl_len b, pl_len c]; omega
theorem kids_sz (t : Tm) : ∀ a ∈ t.kids, a.sz + 1 ≤ t.sz := by
  cases t <;> (simp [Tm.kids, Tm.sz]; try omega)
theorem kids_ht (t : Tm) : ∀ a ∈ t.kids, a.ht + 1 ≤ t.ht := by
  cases t <;> (simp [Tm.kids, Tm.ht]; try omega)
theorem kids_len (t : Tm) : t.kids.length ≤ 3 := by cases t <;> simp [Tm.kids]
theorem plK_len : ∀ (xs : List Tm) (j : Nat), (plK j xs).length = (xs.map Tm.sz).sum
  | [], j => rfl
  | a :: xs, j => by simp [plK, plK_len xs, pl_len]
theorem sz_kids (t : Tm) : t.sz = 1 + (t.kids.map Tm.sz).sum := by rw [← pl_len, pl_kids, List.length_cons, plK_len]; omega
/-- the part at a place -/
def Tm.pt : Tm → List Nat → Option Tm
  | t, [] => some t
  | t, i :: p => match t.kids[i]? with
    | some a => a.pt p
    | none => none
/-- another part put right within -/
def Tm.sk : Tm → Nat → Tm → Tm
  | .fn _, 0, y => .fn y
  | .use _ b, 0, y => .use y b
  | .use a _, 1, y => .use a y
  | .up _, 0, y => .up y
  | .dn _, 0, y => .dn y
  | .iff _ b c, 0, y => .iff y b c
  | .iff a _ c, 1, y => .iff a y c
  | .iff a b _, 2, y => .iff a b y
  | t, _, _ => t
theorem sk_kids (t y : Tm) (i : Nat) : (t.sk i y).kids = t.kids.set i y := by
  rcases t with _ | _ | a | ⟨a, b⟩ | a | a | ⟨a, b, c⟩ <;> rcases i with _ | _ | _ | i <;> rfl
theorem sa_cons (t : Tm) (i : Nat) (p : List Nat) : t.sa (i :: p) = match t.kids[i]? with
    | some a => (a.sa p).map (t.sk i)
    | none => none := by
  rcases t with _ | _ | a | ⟨a, b⟩ | a | a | ⟨a, b, c⟩ <;> rcases i with _ | _ | _ | i <;> rfl
def Tm.pu : Tm → List Nat → Tm → Tm
  | _, [], y => y
  | t, i :: p, y => match t.kids[i]? with
    | some a => t.sk i (a.pu p y)
    | none => t
theorem sa_pt : ∀ (p : List Nat) (t u : Tm), t.sa p = some u → ∃ x y, t.pt p = some x ∧ x.st = some y ∧ u = t.pu p y
  | [], t, u, h => by
    rw [sa_nil] at h
    exact ⟨t, u, rfl, h, rfl⟩
  | i :: p, t, u, h => by
    rw [sa_cons] at h
    cases q : t.kids[i]? with
    | none => rw [q] at h; cases h
    | some a =>
      rw [q] at h
      obtain ⟨v, hv, rfl⟩ := Option.map_eq_some_iff.mp h
      obtain ⟨x, y, h1, h2, rfl⟩ := sa_pt p a v hv
      refine ⟨x, y, ?_, h2, ?_⟩
      · show (match t.kids[i]? with | some a => a.pt p | none => none) = _
        rw [q]; exact h1
      · show _ = (match t.kids[i]? with | some a => t.sk i (a.pu p y) | none => t)
        rw [q]
theorem pt_sa : ∀ (p : List Nat) (t x : Tm), t.pt p = some x → t.sa p = x.st.map (t.pu p)
  | [], t, x, h => by
    cases h
    rw [sa_nil]
    show t.st = t.st.map fun y => y
    simp
  | i :: p, t, x, h => by
    have h : (match t.kids[i]? with | some a => a.pt p | none => none) = some x := h
    rw [sa_cons]
    cases q : t.kids[i]? with
    | none => rw [q] at h; cases h
    | some a =>
      rw [q] at h
      have := pt_sa p a x h
      show (a.sa p).map (t.sk i) = _
      rw [this, Option.map_map]
      congr 1
      funext y
      show t.sk i (a.pu p y) = (match t.kids[i]? with | some a => t.sk i (a.pu p y) | none => t)
      rw [q]
theorem plK_mem : ∀ (xs : List Tm) (j : Nat) (p : List Nat), p ∈ plK j xs ↔ ∃ i a q, xs[i]? = some a ∧ q ∈ a.pl ∧ p = (j + i) :: q
  | [], j, p => by simp [plK]
  | x :: xs, j, p => by
    rw [plK, List.mem_append, plK_mem xs (j + 1) p]
    constructor
    · rintro (h | ⟨i, a, q, h1, h2, rfl⟩)
      · obtain ⟨q, hq, rfl⟩ := List.mem_map.mp h
        exact ⟨0, x, q, rfl, hq, rfl⟩
      · exact ⟨i + 1, a, q, h1, h2, by rw [show j + 1 + i = j + (i + 1) by omega]⟩
    · rintro ⟨i, a, q, h1, h2, rfl⟩
      cases i with
      | zero => cases h1; exact .inl (List.mem_map.mpr ⟨q, h2, rfl⟩)
      | succ i => exact .inr ⟨i, a, q, h1, h2, by rw [show j + 1 + i = j + (i + 1) by omega]⟩
theorem pt_mem : ∀ (p : List Nat) (t : Tm), p ∈ t.pl ↔ (t.pt p).isSome = true
  | [], t => by rw [pl_kids]; simp [Tm.pt]
  | i :: p, t => by
    rw [pl_kids]
    have e : t.pt (i :: p) = match t.kids[i]? with | some a => a.pt p | none => none := rfl
    rw [e]
    constructor
    · intro h
      rcases List.mem_cons.mp h with h | h
      · cases h
      · obtain ⟨k, a, q, h1, h2, h3⟩ := (plK_mem _ _ _).mp h
        rw [Nat.zero_add] at h3
        cases h3
        rw [h1]
        exact (pt_mem p a).mp h2
    · intro h
      cases q : t.kids[i]? with
      | none => rw [q] at h; cases h
      | some a =>
        rw [q] at h
        exact List.mem_cons_of_mem _ ((plK_mem _ _ _).mpr ⟨i, a, p, q, (pt_mem p a).mpr h, by rw [Nat.zero_add]⟩)
theorem sa_mem (t u : Tm) (p : List Nat) (h : t.sa p = some u) : p ∈ t.pl := by
  obtain ⟨x, y, h1, _⟩ := sa_pt p t u h
  rw [pt_mem, h1]
  rfl
theorem pt_small : ∀ (p : List Nat) (t x : Tm), t.pt p = some x → (∀ i ∈ p, i ≤ 2) ∧ p.length + x.ht ≤ t.ht
  | [], t, x, h => by cases h; simp
  | i :: p, t, x, h => by
    have h : (match t.kids[i]? with | some a => a.pt p | none => none) = some x := h
    cases q : t.kids[i]? with
    | none => rw [q] at h; cases h
    | some a =>
      rw [q] at h
      obtain ⟨h1, h2⟩ := pt_small p a x h
      have hl := (List.getElem?_eq_some_iff.mp q).1
      have := kids_len t
      have hk := kids_ht t a (List.mem_of_getElem? q)
      refine ⟨fun j hj => ?_, by simp only [List.length_cons]; omega⟩
      rcases List.mem_cons.mp hj with rfl | hj
      · omega
      · exact h1 j hj
def Tm.spots (t : Tm) : List (List Nat) := t.pl.filter fun p => (t.sa p).isSome
theorem spots_sa (t : Tm) (p : List Nat) (h : p ∈ t.spots) : ∃ u, t.sa p = some u := by
  obtain ⟨_, h2⟩ := List.mem_filter.mp h
  exact Option.isSome_iff_exists.mp h2
theorem sa_spots (t u : Tm) (p : List Nat) (h : t.sa p = some u) : p ∈ t.spots := List.mem_filter.mpr ⟨sa_mem t u p h, by rw [h]; rfl⟩
/-! ### where a letter stands -/
/-- functions around -/
def Tm.isF : Tm → Nat
  | .fn _ => 1
  | _ => 0
def Tm.fu : Tm → List Nat → Nat
  | _, [] => 0
  | t, i :: p => t.isF + match t.kids[i]? with
    | some a => a.fu p
    | none => 0
def Tm.hm : Tm → Nat → List (List Nat)
  | .var i, d => if i = d then [[]] else []
  | .num _, _ => []
  | .fn a, d => (a.hm (d + 1)).map (0 :: ·)
  | .use a b, d => (a.hm d).map (0 :: ·) ++ (b.hm d).map (1 :: ·)
  | .up a, d => (a.hm d).map (0 :: ·)
  | .dn a, d => (a.hm d).map (0 :: ·)
  | .iff a b c, d => (a.hm d).map (0 :: ·) ++ ((b.hm d).map (1 :: ·) ++ (c.hm d).map (2 :: ·))
def isV (t : Tm) (d : Nat) (p : List Nat) : Bool := match t.pt p with
  | some (.var i) => i == d + t.fu p
  | _ => false
theorem isV_cons (t a : Tm) (d i : Nat) (p : List Nat) (h : t.kids[i]? = some a) : isV t d (i :: p) = isV a (d + t.isF) p := by
  unfold isV
  have e : t.pt (i :: p) = a.pt p := by
    show (match t.kids[i]? with | some a => a.pt p | none => none) = _
    rw [h]
  have e2 : t.fu (i :: p) = t.isF + a.fu p := by
    show t.isF + (match t.kids[i]? with | some a => a.fu p | none => 0) = _
    rw [h]
  rw [e, e2]
  split
  · congr 1; omega
  · rfl
theorem filter_map_cons (t a : Tm) (d i : Nat) (h : t.kids[i]? = some a) : (a.pl.map (i :: ·)).filter (isV t d) = (a.pl.filter (isV a (d + t.isF))).map (i :: ·) := by
  rw [List.filter_map]
  congr 1
  apply List.filter_congr
  intro p _
  exact isV_cons t a d i p h
theorem hm_filter : ∀ (t : Tm) (d : Nat), t.pl.filter (isV t d) = t.hm d
  | .var i, d => by
    unfold Tm.pl Tm.hm
    by_cases h : i = d
    · subst h
      simp [isV, Tm.pt, Tm.fu]
    · simp [isV, Tm.pt, Tm.fu, h]
  | .num i, d => by simp [Tm.pl, Tm.hm, isV, Tm.pt]
  | .fn a, d => by
    have e : isV (.fn a) d [] = false := rfl
    unfold Tm.pl Tm.hm
    rw [List.filter_cons_of_neg (by rw [e]; exact Bool.false_ne_true), filter_map_cons (.fn a) a d 0 rfl, ← hm_filter a]
    rfl
  | .use a b, d => by
    have e : isV (.use a b) d [] = false := rfl
    unfold Tm.pl Tm.hm
    rw [List.filter_cons_of_neg (by rw [e]; exact Bool.false_ne_true), List.filter_append, filter_map_cons (.use a b) a d 0 rfl, filter_map_cons (.use a b) b d 1 rfl, ← hm_filter a, ← hm_filter b]
    rfl
  | .up a, d => by
    have e : isV (.up a) d [] = false := rfl
    unfold Tm.pl Tm.hm
    rw [List.filter_cons_of_neg (by rw [e]; exact Bool.false_ne_true), filter_map_cons (.up a) a d 0 rfl, ← hm_filter a]
    rfl
  | .dn a, d => by
    have e : isV (.dn a) d [] = false := rfl
    unfold Tm.pl Tm.hm
    rw [List.filter_cons_of_neg (by rw [e]; exact Bool.false_ne_true), filter_map_cons (.dn a) a d 0 rfl, ← hm_filter a]
    rfl
  | .iff a b c, d => by
    have e : isV (.iff a b c) d [] = false := rfl
    unfold Tm.pl Tm.hm
    rw [List.filter_cons_of_neg (by rw [e]; exact Bool.false_ne_true), List.filter_append, List.filter_append, filter_map_cons (.iff a b c) a d 0 rfl, filter_map_cons (.iff a b c) b d 1 rfl, filter_map_cons (.iff a b c) c d 2 rfl, ← hm_filter a, ← hm_filter b, ← hm_filter c]
    rfl
/-- a step of what is put in, home by home -/
def foldS (q : List Nat) : List (List Nat) → Tm → Option Tm
  | [], t => some t
  | p :: ps, t => match t.sa (p ++ q) with
    | some u => foldS q ps u
    | none => none
theorem foldS_append (q : List Nat) : ∀ (ps qs : List (List Nat)) (t u : Tm), foldS q ps t = some u → foldS q (ps ++ qs) t = foldS q qs u
  | [], qs, t, u, h => by cases h; rfl
  | p :: ps, qs, t, u, h => by
    have h : (match t.sa (p ++ q) with | some u => foldS q ps u | none => none) = some u := h
    show (match t.sa (p ++ q) with | some u => foldS q (ps ++ qs) u | none => none) = _
    cases e : t.sa (p ++ q) with
    | none => rw [e] at h; cases h
    | some v =>
      rw [e] at h
      exact foldS_append q ps qs v u h
theorem foldS_kid (q : List Nat) (i : Nat) : ∀ (ps : List (List Nat)) (t a b : Tm), t.kids[i]? = some a → foldS q ps a = some b → foldS q (ps.map (i :: ·)) t = some (t.sk i b)
  | [], t, a, b, ht, h => by
    cases h
    show some t = _
    congr 1
    rcases t with _ | _ | a | ⟨a, b⟩ | a | a | ⟨a, b, c⟩ <;> rcases i with _ | _ | _ | i <;> (cases ht) <;> rfl
  | p :: ps, t, a, b, ht, h => by
    have h : (match a.sa (p ++ q) with | some u => foldS q ps u | none => none) = some b := h
    show (match t.sa (i :: (p ++ q)) with | some u => foldS q (ps.map (i :: ·)) u | none => none) = _
    rw [sa_cons, ht]
    cases e : a.sa (p ++ q) with
    | none => rw [e] at h; cases h
    | some v =>
      rw [e] at h
      have hv : (match (some a : Option Tm) with | some a => (a.sa (p ++ q)).map (t.sk i) | none => none) = some (t.sk i v) := by
        show (a.sa (p ++ q)).map (t.sk i) = _
        rw [e]; rfl
      rw [hv]
      have hk : (t.sk i v).kids[i]? = some v := by
        rw [sk_kids, List.getElem?_set_self (List.getElem?_eq_some_iff.mp ht).1]
      have := foldS_kid q i ps (t.sk i v) v b hk h
      show foldS q (ps.map (i :: ·)) (t.sk i v) = _
      rw [this]
      congr 1
      rcases t with _ | _ | a | ⟨a, b⟩ | a | a | ⟨a, b, c⟩ <;> rcases i with _ | _ | _ | i <;> (cases ht) <;> rfl
theorem foldS_ok (o o' : Tm) (q : List Nat) (h : o.sa q = some o') : ∀ (t : Tm) (d : Nat), foldS q (t.hm d) (t.lt [o] 0 d) = some (t.lt [o'] 0 d)
  | .var i, d => by
    unfold Tm.hm
    by_cases c : i = d
    · subst c
      rw [if_pos rfl, lt_var_in [o] i i o (by omega) (by rw [Nat.sub_self]; rfl), lt_var_in [o'] i i o' (by omega) (by rw [Nat.sub_self]; rfl)]
      show (match (o.rs i 0).sa ([] ++ q) with | some u => foldS q [] u | none => none) = _
      rw [List.nil_append, sa_rs i q o o' 0 h]
      rfl
    · rw [if_neg c]
      show some ((Tm.var i).lt [o] 0 d) = some ((Tm.var i).lt [o'] 0 d)
      congr 1
      by_cases c2 : i < d
      · rw [lt_var_lt _ d i c2, lt_var_lt _ d i c2]
      · have q0 : ∀ (x : Tm), ([x] : List Tm)[i - d]? = none := fun x => List.getElem?_eq_none_iff.mpr (by simp; omega)
        rw [lt_var_out _ d i c2 (q0 _), lt_var_out _ d i c2 (q0 _)]
        rfl
  | .num i, d => rfl
  | .fn a, d => foldS_kid q 0 (a.hm (d + 1)) (.fn (a.lt [o] 0 (d + 1))) _ _ rfl (foldS_ok o o' q h a (d + 1))
  | .use a b, d => by
    have h1 := foldS_kid q 0 (a.hm d) (.use (a.lt [o] 0 d) (b.lt [o] 0 d)) _ _ rfl (foldS_ok o o' q h a d)
    have h2 := foldS_kid q 1 (b.hm d) (.use (a.lt [o'] 0 d) (b.lt [o] 0 d)) _ _ rfl (foldS_ok o o' q h b d)
    show foldS q (_ ++ _) (Tm.use _ _) = _
    rw [foldS_append q _ _ _ _ h1]
    exact h2
  | .up a, d => foldS_kid q 0 (a.hm d) (.up (a.lt [o] 0 d)) _ _ rfl (foldS_ok o o' q h a d)
  | .dn a, d => foldS_kid q 0 (a.hm d) (.dn (a.lt [o] 0 d)) _ _ rfl (foldS_ok o o' q h a d)
  | .iff a b c, d => by
    have h1 := foldS_kid q 0 (a.hm d) (.iff (a.lt [o] 0 d) (b.lt [o] 0 d) (c.lt [o] 0 d)) _ _ rfl (foldS_ok o o' q h a d)
    have h2 := foldS_kid q 1 (b.hm d) (.iff (a.lt [o'] 0 d) (b.lt [o] 0 d) (c.lt [o] 0 d)) _ _ rfl (foldS_ok o o' q h b d)
    have h3 := foldS_kid q 2 (c.hm d) (.iff (a.lt [o'] 0 d) (b.lt [o'] 0 d) (c.lt [o] 0 d)) _ _ rfl (foldS_ok o o' q h c d)
    show foldS q (_ ++ (_ ++ _)) (Tm.iff _ _ _) = _
    rw [foldS_append q _ _ _ _ h1]
    have h2' : foldS q ((b.hm d).map (1 :: ·)) ((Tm.iff (a.lt [o] 0 d) (b.lt [o] 0 d) (c.lt [o] 0 d)).sk 0 (a.lt [o'] 0 d)) = some (.iff (a.lt [o'] 0 d) (b.lt [o'] 0 d) (c.lt [o] 0 d)) := h2
    rw [foldS_append q _ _ _ _ h2']
    exact h3
/-! ### letters -/
theorem fr_rs (k : Nat) : ∀ (t : Tm) (l j : Nat), l ≤ j → (t.rs k l).fr (j + k) = t.fr j
  | .var i, l, j, h => by
    by_cases c : l ≤ i
    · rw [rs_var_ge k l i c]
      unfold Tm.fr
      by_cases c2 : j ≤ i
      · rw [if_pos c2, if_pos (by omega)]; congr 1; omega
      · rw [if_neg c2, if_neg (by omega)]
    · rw [rs_var_lt k l i c]
      unfold Tm.fr
      rw [if_neg (by omega), if_neg (by omega)]
  | .num i, l, j, h => rfl
  | .fn a, l, j, h => by
    have := fr_rs k a (l + 1) (j + 1) (by omega)
    rw [show j + 1 + k = j + k + 1 by omega] at this
    exact this
  | .use a b, l, j, h => by show _ ++ _ = _ ++ _; rw [fr_rs k a l j h, fr_rs k b l j h]
  | .up a, l, j, h => fr_rs k a l j h
  | .dn a, l, j, h => fr_rs k a l j h
  | .iff a b c, l, j, h => by show _ ++ (_ ++ _) = _ ++ (_ ++ _); rw [fr_rs k a l j h, fr_rs k b l j h, fr_rs k c l j h]
theorem fr_lt (o : Tm) (x : Nat) : ∀ (t : Tm) (d : Nat), x ∈ (t.lt [o] 0 d).fr d ↔ x + 1 ∈ t.fr d ∨ (0 ∈ t.fr d ∧ x ∈ o.fr 0)
  | .var i, d => by
    by_cases c : i < d
    · rw [lt_var_lt _ d i c]
      unfold Tm.fr
      rw [if_neg (by omega)]
      simp
    · by_cases c2 : i = d
      · subst c2
        rw [lt_var_in [o] i i o c (by rw [Nat.sub_self]; rfl)]
        have := fr_rs i o 0 0 (by omega)
        rw [Nat.zero_add] at this
        rw [this]
        simp [Tm.fr]
      · rw [lt_var_out [o] d i c (List.getElem?_eq_none_iff.mpr (by simp; omega))]
        unfold Tm.fr
        rw [if_pos (by simp; omega), if_pos (by omega)]
        simp
        omega
  | .num i, d => by simp [Tm.lt, Tm.fr]
  | .fn a, d => fr_lt o x a (d + 1)
  | .use a b, d => by
    show x ∈ _ ++ _ ↔ x + 1 ∈ _ ++ _ ∨ (0 ∈ _ ++ _ ∧ _)
    rw [List.mem_append, List.mem_append, List.mem_append, fr_lt o x a d, fr_lt o x b d]
    constructor
    · rintro ((h | ⟨h, h2⟩) | (h | ⟨h, h2⟩))
      · exact .inl (.inl h)
      · exact .inr ⟨.inl h, h2⟩
      · exact .inl (.inr h)
      · exact .inr ⟨.inr h, h2⟩
    · rintro ((h | h) | ⟨h | h, h2⟩)
      · exact .inl (.inl h)
      · exact .inr (.inl h)
      · exact .inl (.inr ⟨h, h2⟩)
      · exact .inr (.inr ⟨h, h2⟩)
  | .up a, d => fr_lt o x a d
  | .dn a, d => fr_lt o x a d
  | .iff a b c, d => by
    show x ∈ _ ++ (_ ++ _) ↔ x + 1 ∈ _ ++ (_ ++ _) ∨ (0 ∈ _ ++ (_ ++ _) ∧ _)
    rw [List.mem_append, List.mem_append, List.mem_append, List.mem_append, List.mem_append, List.mem_append, fr_lt o x a d, fr_lt o x b d, fr_lt o x c d]
    constructor
    · rintro ((h | ⟨h, h2⟩) | (h | ⟨h, h2⟩) | (h | ⟨h, h2⟩))
      · exact .inl (.inl h)
      · exact .inr ⟨.inl h, h2⟩
      · exact .inl (.inr (.inl h))
      · exact .inr ⟨.inr (.inl h), h2⟩
      · exact .inl (.inr (.inr h))
      · exact .inr ⟨.inr (.inr h), h2⟩
    · rintro ((h | h | h) | ⟨h | h | h, h2⟩)
      · exact .inl (.inl h)
      · exact .inr (.inl (.inl h))
      · exact .inr (.inr (.inl h))
      · exact .inl (.inr ⟨h, h2⟩)
      · exact .inr (.inl (.inr ⟨h, h2⟩))
      · exact .inr (.inr (.inr ⟨h, h2⟩))
theorem closed_lt (row : List Tm) : ∀ (t : Tm) (d : Nat), t.fr d = [] → t.lt row 0 d = t
  | .var i, d, h => by
    unfold Tm.fr at h
    split at h
    · cases h
    · rename_i c; exact lt_var_lt row d i (by omega)
  | .num i, d, h => rfl
  | .fn a, d, h => by show Tm.fn _ = _; rw [closed_lt row a (d + 1) h]
  | .use a b, d, h => by
    have h : a.fr d ++ b.fr d = [] := h
    obtain ⟨h1, h2⟩ := List.append_eq_nil_iff.mp h
    show Tm.use _ _ = _; rw [closed_lt row a d h1, closed_lt row b d h2]
  | .up a, d, h => by show Tm.up _ = _; rw [closed_lt row a d h]
  | .dn a, d, h => by show Tm.dn _ = _; rw [closed_lt row a d h]
  | .iff a b c, d, h => by
    have h : a.fr d ++ (b.fr d ++ c.fr d) = [] := h
    obtain ⟨h1, h2⟩ := List.append_eq_nil_iff.mp h
    obtain ⟨h2, h3⟩ := List.append_eq_nil_iff.mp h2
    show Tm.iff _ _ _ = _; rw [closed_lt row a d h1, closed_lt row b d h2, closed_lt row c d h3]
theorem closed_rs (k : Nat) : ∀ (t : Tm) (d : Nat), t.fr d = [] → t.rs k d = t
  | .var i, d, h => by
    unfold Tm.fr at h
    split at h
    · cases h
    · rename_i c; exact rs_var_lt k d i c
  | .num i, d, h => rfl
  | .fn a, d, h => by show Tm.fn _ = _; rw [closed_rs k a (d + 1) h]
  | .use a b, d, h => by
    have h : a.fr d ++ b.fr d = [] := h
    obtain ⟨h1, h2⟩ := List.append_eq_nil_iff.mp h
    show Tm.use _ _ = _; rw [closed_rs k a d h1, closed_rs k b d h2]
  | .up a, d, h => by show Tm.up _ = _; rw [closed_rs k a d h]
  | .dn a, d, h => by show Tm.dn _ = _; rw [closed_rs k a d h]
  | .iff a b c, d, h => by
    have h : a.fr d ++ (b.fr d ++ c.fr d) = [] := h
    obtain ⟨h1, h2⟩ := List.append_eq_nil_iff.mp h
    obtain ⟨h2, h3⟩ := List.append_eq_nil_iff.mp h2
    show Tm.iff _ _ _ = _; rw [closed_rs k a d h1, closed_rs k b d h2, closed_rs k c d h3]
end K04

set_option Elab.async false
set_option linter.all false
set_option maxRecDepth 100000
set_option maxHeartbeats 8000000
namespace K04
open PySem Co
theorem ht_pos (t : Tm) : 1 ≤ t.ht := by cases t <;> simp [Tm.ht]
def plD (p : List Nat) : D := .tuple (p.map fun i : Nat => PyData.int i)
theorem zipm2 {α β γ : Type} (f : α → β) (h : α → γ) : ∀ (xs : List α) (x : β) (r : γ), (x, r) ∈ (xs.map f).zip (xs.map h) → ∃ t ∈ xs, x = f t ∧ r = h t
  | [], x, r, hm => by simp at hm
  | a :: xs, x, r, hm => by
    simp only [List.map_cons, List.zip_cons_cons, List.mem_cons] at hm
    rcases hm with hm | hm
    · cases hm; exact ⟨a, List.mem_cons_self, rfl, rfl⟩
    · obtain ⟨t, h1, h2⟩ := zipm2 f h xs x r hm
      exact ⟨t, List.mem_cons_of_mem _ h1, h2⟩
theorem numD_at : ∀ (ds : List D) (m i : Nat), (numD m ds)[i]? = (ds[i]?).map fun d => .tuple [.int (m + i : Nat), d]
  | [], m, i => by simp [numD]
  | d :: ds, m, 0 => by simp [numD]
  | d :: ds, m, i + 1 => by
    show (numD (m + 1) ds)[i]? = _
    rw [numD_at ds (m + 1) i, show m + 1 + i = m + (i + 1) by omega]
    simp
theorem numD_len : ∀ (ds : List D) (m : Nat), (numD m ds).length = ds.length
  | [], m => rfl
  | d :: ds, m => by simp [numD, numD_len ds]
theorem addP (i : Nat) (p : List Nat) (h : p.length ≤ 990) : binD .add (.tuple [.int i]) (plD p) = some (.fz (plD (i :: p))) := by
  unfold plD
  rw [addT (by simp; omega)]
  rfl
def plO (ps : List (List Nat)) : O := .l (ps.map fun p => O.d (plD p))
theorem plO_frz (ps : List (List Nat)) : (plO ps).frz = .list (ps.map plD) := by
  show PyData.list (O.frzs _) = _
  rw [show (ps.map fun p => O.d (plD p)) = (ps.map plD).map .d by rw [List.map_map]; rfl, frz_map]
def pl0 : S := (.asg (.n 1) (.lst (.cons (.tup .nil) .nil)))
def pl1 : S := (.for (.t [2, 3]) (.enum (.call "children" (.cons (.v 0) .nil))) (.cons (.ext 1 (.lc [("place", 4)] (.n 4) (.seq (.call "places_in" (.cons (.v 3) .nil))) .yes (.bin .add (.tup (.cons (.v 2) .nil)) (.rd 4))))
    .nil))
def pl2 : S := (.ret (.v 1))
theorem pl_body : d_places_in.body = .cons pl0 (.cons pl1 (.cons pl2 (.nil))) := rfl


theorem pl_lc (cf : CF) (t a : Tm) (i : Nat) (x1 : Option W) (ha : a.ht ≤ 900) (hz : a.sz ≤ 900000) (hr : cf "places_in" [.fz (enc a)] = .ret (.fz (.list (a.pl.map plD))) []) :
    E.ev cf g (.lc [("place", 4)] (.n 4) (.seq (.call "places_in" (.cons (.v 3) .nil))) .yes (.bin .add (.tup (.cons (.v 2) .nil)) (.rd 4))) [some (.fz (enc t)), x1, some (.fz (.int i)), some (.fz (enc a)), none] = .ok (.w (.own (.l (a.pl.map fun p => O.d (plD (i :: p)))))) [some (.fz (enc t)), x1, some (.fz (.int i)), some (.fz (enc a)), none] := by
  have hit : I.ev cf g (.seq (.call "places_in" (.cons (.v 3) .nil))) [some (.fz (enc t)), x1, some (.fz (.int i)), some (.fz (enc a)), none] = .ok (a.pl.map plD) [some (.fz (enc t)), x1, some (.fz (.int i)), some (.fz (enc a)), none] := by
    simp only [ev_v, ev_rd, ev_g, ev_k, ev_bin, ev_cmp, ev_chain, ev_andE, ev_orE, ev_nt, ev_ife, ev_tup, ev_lst, ev_ix, ev_sl, ev_call, ev_callk, ev_own, ev_b1, ev_b2, ev_isi, ev_gin, ev_gix, ss_nil, ss_cons, ex_asg, ex_par, ex_ife, ex_ret, setTg_n, Es.ev, T.tst, I.ev, two_none, two_some, isRd, rdZ, vZ, List.getElem?_cons_zero, List.getElem?_cons_succ, R.bind_ok, ixF_fz, ixT, at0, at1, at2, ofD_some, liftO_some, nonBw_w, cmpT_fz, Z.dat_fz, Fl.of_ok, dc1, dc2, dc3, dc4, dca1, dca2, dca3, dca4, dcaO1, dcaO2, po1, po2, po3, po4, io_fz, wdat, tup0, tup1, tup2, tup3, tup4, lst0, lst1, lst3, hr] <;> rfl
  refine lc_map (ρ := [some (.fz (enc t)), x1, some (.fz (.int i)), some (.fz (enc a)), none]) hit (by rw [List.length_map, pl_len]; omega) (fun d e hde => ?_) (by rw [List.length_map, List.length_map])
  obtain ⟨p, hp, rfl, rfl⟩ := zipm2 plD (fun p => O.d (plD (i :: p))) a.pl d e hde
  obtain ⟨x, hx⟩ := Option.isSome_iff_exists.mp ((pt_mem p a).mp hp)
  have hl := (pt_small p a x hx).2
  refine ⟨.fz (plD (i :: p)), ?_, rfl⟩
  simp only [ev_v, ev_rd, ev_g, ev_k, ev_bin, ev_cmp, ev_chain, ev_andE, ev_orE, ev_nt, ev_ife, ev_tup, ev_lst, ev_ix, ev_sl, ev_call, ev_callk, ev_own, ev_b1, ev_b2, ev_isi, ev_gin, ev_gix, ss_nil, ss_cons, ex_asg, ex_par, ex_ife, ex_ret, setTg_n, Es.ev, T.tst, I.ev, two_none, two_some, isRd, rdZ, vZ, List.getElem?_cons_zero, List.getElem?_cons_succ, R.bind_ok, ixF_fz, ixT, at0, at1, at2, ofD_some, liftO_some, nonBw_w, cmpT_fz, Z.dat_fz, Fl.of_ok, dc1, dc2, dc3, dc4, dca1, dca2, dca3, dca4, dcaO1, dcaO2, po1, po2, po3, po4, io_fz, wdat, tup0, tup1, tup2, tup3, tup4, lst0, lst1, lst3, List.set_cons_succ, List.set_cons_zero, binF_fz, addP i p (by omega), ofO_some]
theorem pl_cf (cf : CF) (t : Tm) (ht : t.ht ≤ 900) (hz : t.sz ≤ 900000) (hk : cf "children" [.fz (enc t)] = .ret (.fz (.tuple (t.kids.map enc))) []) (hr : ∀ a ∈ t.kids, cf "places_in" [.fz (enc a)] = .ret (.fz (.list (a.pl.map plD))) []) :
    finish [] (d_places_in.body.ex cf g fuel [some (.fz (enc t)), none, none, none, none]) = .ret (.fz (.list (t.pl.map plD))) [] := by
  have s0 : S.ex cf g fuel pl0 [some (.fz (enc t)), none, none, none, none] = .nx [some (.fz (enc t)), some (.own (plO [[]])), none, none, none] := by
    simp only [pl0, ev_v, ev_rd, ev_g, ev_k, ev_bin, ev_cmp, ev_chain, ev_andE, ev_orE, ev_nt, ev_ife, ev_tup, ev_lst, ev_ix, ev_sl, ev_call, ev_callk, ev_own, ev_b1, ev_b2, ev_isi, ev_gin, ev_gix, ss_nil, ss_cons, ex_asg, ex_par, ex_ife, ex_ret, setTg_n, Es.ev, T.tst, I.ev, two_none, two_some, isRd, rdZ, vZ, List.getElem?_cons_zero, List.getElem?_cons_succ, R.bind_ok, ixF_fz, ixT, at0, at1, at2, ofD_some, liftO_some, nonBw_w, cmpT_fz, Z.dat_fz, Fl.of_ok, dc1, dc2, dc3, dc4, dca1, dca2, dca3, dca4, dcaO1, dcaO2, po1, po2, po3, po4, io_fz, wdat, tup0, tup1, tup2, tup3, tup4, lst0, lst1, lst3, List.set_cons_succ, List.set_cons_zero] <;> rfl
  obtain ⟨ρ', e1, x2, x3, rfl⟩ := for_inv (body := fun d ρ => match setTg (.t [2, 3]) d ρ with
      | some ρ' => Ss.ex cf g fuel (.cons (.ext 1 (.lc [("place", 4)] (.n 4) (.seq (.call "places_in" (.cons (.v 3) .nil))) .yes (.bin .add (.tup (.cons (.v 2) .nil)) (.rd 4)))) .nil) ρ'
      | none => .bad) (Iv := fun i ρ => ∃ x2 x3, ρ = [some (.fz (enc t)), some (.own (plO ([] :: plK 0 (t.kids.take i)))), x2, x3, none]) (numD 0 (t.kids.map enc)) 0 _ ⟨none, none, rfl⟩ (by
    rintro i d ρ hd ⟨x2, x3, rfl⟩
    rw [numD_at, List.getElem?_map] at hd
    rw [Nat.zero_add]
    cases q : t.kids[i]? with
    | none => rw [q] at hd; cases hd
    | some a =>
      rw [q] at hd
      cases hd
      have hm := List.mem_of_getElem? q
      have h1 := kids_ht t a hm
      have h2 := kids_sz t a hm
      rw [Nat.zero_add]
      have hlc := pl_lc cf t a i (some (.own (plO ([] :: plK 0 (t.kids.take i))))) (by omega) (by omega) (hr a hm)
      have hlen : ([] :: plK 0 (t.kids.take i)).length + (a.pl.map (i :: ·)).length ≤ t.sz := by
        have e : plK 0 (t.kids.take (i + 1)) = plK 0 (t.kids.take i) ++ a.pl.map (i :: ·) := by
          rw [List.take_add_one, q]
          show plK 0 (t.kids.take i ++ [a]) = _
          rw [plK_snoc, List.length_take, Nat.zero_add, Nat.min_eq_left (Nat.le_of_lt (List.getElem?_eq_some_iff.mp q).1)]
        have e2 : (plK 0 (t.kids.take (i + 1))).length ≤ (plK 0 t.kids).length := by
          rw [plK_len, plK_len]
          conv => rhs; rw [← List.take_append_drop (i + 1) t.kids, List.map_append, List.sum_append]
          exact Nat.le_add_right _ _
        have e3 : t.pl.length = (plK 0 t.kids).length + 1 := by rw [pl_kids]; rfl
        rw [pl_len] at e3
        rw [e, List.length_append] at e2
        simp only [List.length_cons]
        omega
      have hx := ext_ev (fuel := fuel) (i := 1) (os := ([] :: plK 0 (t.kids.take i)).map fun p => O.d (plD p)) (ds := (a.pl.map (i :: ·)).map plD) (ρ := [some (.fz (enc t)), some (.own (plO ([] :: plK 0 (t.kids.take i)))), some (.fz (.int i)), some (.fz (enc a)), none]) rfl hlc (by
        show PyData.list (O.frzs _) = _
        rw [show (a.pl.map fun p => O.d (plD (i :: p))) = ((a.pl.map (i :: ·)).map plD).map .d by rw [List.map_map, List.map_map]; rfl, frz_map]) (by rw [List.length_map, List.length_map]; omega)
      refine ⟨[some (.fz (enc t)), some (.own (plO ([] :: plK 0 (t.kids.take (i + 1))))), some (.fz (.int i)), some (.fz (enc a)), none], ?_, _, _, rfl⟩
      have e : plK 0 (t.kids.take (i + 1)) = plK 0 (t.kids.take i) ++ a.pl.map (i :: ·) := by
        rw [List.take_add_one, q]
        show plK 0 (t.kids.take i ++ [a]) = _
        rw [plK_snoc, List.length_take, Nat.zero_add, Nat.min_eq_left (Nat.le_of_lt (List.getElem?_eq_some_iff.mp q).1)]
      show Ss.ex cf g fuel (.cons (.ext 1 _) .nil) [some (.fz (enc t)), some (.own (plO ([] :: plK 0 (t.kids.take i)))), some (.fz (.int i)), some (.fz (enc a)), none] = _
      rw [ss_cons, hx, Fl.then_nx, ss_nil, e]
      show Fl.nx [_, some (.own (.l (_ ++ _))), _, _, _] = Fl.nx [_, some (.own (.l _)), _, _, _]
      rw [show (([] : List Nat) :: (plK 0 (t.kids.take i) ++ a.pl.map (i :: ·))) = ([] :: plK 0 (t.kids.take i)) ++ a.pl.map (i :: ·) from rfl, List.map_append, List.map_map (f := plD)]
      rfl)
  rw [Nat.zero_add, numD_len, List.length_map, List.take_length, ← pl_kids] at e1
  have hit : I.ev cf g (.enum (.call "children" (.cons (.v 0) .nil))) [some (.fz (enc t)), some (.own (plO [[]])), none, none, none] = .ok (numD 0 (t.kids.map enc)) [some (.fz (enc t)), some (.own (plO [[]])), none, none, none] := by
    simp only [ev_v, ev_rd, ev_g, ev_k, ev_bin, ev_cmp, ev_chain, ev_andE, ev_orE, ev_nt, ev_ife, ev_tup, ev_lst, ev_ix, ev_sl, ev_call, ev_callk, ev_own, ev_b1, ev_b2, ev_isi, ev_gin, ev_gix, ss_nil, ss_cons, ex_asg, ex_par, ex_ife, ex_ret, setTg_n, Es.ev, T.tst, I.ev, two_none, two_some, isRd, rdZ, vZ, List.getElem?_cons_zero, List.getElem?_cons_succ, R.bind_ok, ixF_fz, ixT, at0, at1, at2, ofD_some, liftO_some, nonBw_w, cmpT_fz, Z.dat_fz, Fl.of_ok, dc1, dc2, dc3, dc4, dca1, dca2, dca3, dca4, dcaO1, dcaO2, po1, po2, po3, po4, io_fz, wdat, tup0, tup1, tup2, tup3, tup4, lst0, lst1, lst3, hk] <;> rfl
  have s1 : S.ex cf g fuel pl1 [some (.fz (enc t)), some (.own (plO [[]])), none, none, none] = .nx [some (.fz (enc t)), some (.own (plO t.pl)), x2, x3, none] := by
    unfold pl1
    rw [ex_for, hit]
    exact e1
  have s2 : S.ex cf g fuel pl2 [some (.fz (enc t)), some (.own (plO t.pl)), x2, x3, none] = .rt (.fz (.list (t.pl.map plD))) [some (.fz (enc t)), some (.fz (.list (t.pl.map plD))), x2, x3, none] := by
    simp only [pl2, ev_v, ev_rd, ev_g, ev_k, ev_bin, ev_cmp, ev_chain, ev_andE, ev_orE, ev_nt, ev_ife, ev_tup, ev_lst, ev_ix, ev_sl, ev_call, ev_callk, ev_own, ev_b1, ev_b2, ev_isi, ev_gin, ev_gix, ss_nil, ss_cons, ex_asg, ex_par, ex_ife, ex_ret, setTg_n, Es.ev, T.tst, I.ev, two_none, two_some, isRd, rdZ, vZ, List.getElem?_cons_zero, List.getElem?_cons_succ, R.bind_ok, ixF_fz, ixT, at0, at1, at2, ofD_some, liftO_some, nonBw_w, cmpT_fz, Z.dat_fz, Fl.of_ok, dc1, dc2, dc3, dc4, dca1, dca2, dca3, dca4, dcaO1, dcaO2, po1, po2, po3, po4, io_fz, wdat, tup0, tup1, tup2, tup3, tup4, lst0, lst1, lst3, plO_frz, List.set_cons_succ, List.set_cons_zero]
  rw [pl_body, ss_step s0 (ss_step s1 (ss_rt s2))]
  rfl
theorem pl_ok : ∀ (n : Nat) (t : Tm), t.ht + 1 ≤ n → t.ht ≤ 900 → t.sz ≤ 900000 → callN tab g fuel n "places_in" [.fz (enc t)] = .ret (.fz (.list (t.pl.map plD))) []
  | 0, t, h, _, _ => by omega
  | n + 1, t, h, h2, h3 => (e_places_in n (enc t)).trans (pl_cf _ t h2 h3 (children_ok t (by have := ht_pos t; omega)) fun a ha => pl_ok n a (by have := kids_ht t a ha; omega) (by have := kids_ht t a ha; omega) (by have := kids_sz t a ha; omega))
def lp0 : S := (.asg (.n 1) (.lst (.cons (.tup .nil) .nil)))
def lp1 : S := (.for (.t [2, 3]) (.enum (.call "_law_kids" (.cons (.v 0) .nil))) (.cons (.ext 1 (.lc [("its", 4)] (.n 4) (.seq (.call "_law_places" (.cons (.v 3) .nil))) .yes (.bin .add (.tup (.cons (.v 2) .nil)) (.rd 4))))
    .nil))
def lp2 : S := (.ret (.v 1))
theorem lp_body : d__law_places.body = .cons lp0 (.cons lp1 (.cons lp2 (.nil))) := rfl


theorem lp_lc (cf : CF) (t a : Tm) (i : Nat) (x1 : Option W) (ha : a.ht ≤ 900) (hz : a.sz ≤ 900000) (hr : cf "_law_places" [.fz (enc a)] = .ret (.fz (.list (a.pl.map plD))) []) :
    E.ev cf g (.lc [("its", 4)] (.n 4) (.seq (.call "_law_places" (.cons (.v 3) .nil))) .yes (.bin .add (.tup (.cons (.v 2) .nil)) (.rd 4))) [some (.fz (enc t)), x1, some (.fz (.int i)), some (.fz (enc a)), none] = .ok (.w (.own (.l (a.pl.map fun p => O.d (plD (i :: p)))))) [some (.fz (enc t)), x1, some (.fz (.int i)), some (.fz (enc a)), none] := by
  have hit : I.ev cf g (.seq (.call "_law_places" (.cons (.v 3) .nil))) [some (.fz (enc t)), x1, some (.fz (.int i)), some (.fz (enc a)), none] = .ok (a.pl.map plD) [some (.fz (enc t)), x1, some (.fz (.int i)), some (.fz (enc a)), none] := by
    simp only [ev_v, ev_rd, ev_g, ev_k, ev_bin, ev_cmp, ev_chain, ev_andE, ev_orE, ev_nt, ev_ife, ev_tup, ev_lst, ev_ix, ev_sl, ev_call, ev_callk, ev_own, ev_b1, ev_b2, ev_isi, ev_gin, ev_gix, ss_nil, ss_cons, ex_asg, ex_par, ex_ife, ex_ret, setTg_n, Es.ev, T.tst, I.ev, two_none, two_some, isRd, rdZ, vZ, List.getElem?_cons_zero, List.getElem?_cons_succ, R.bind_ok, ixF_fz, ixT, at0, at1, at2, ofD_some, liftO_some, nonBw_w, cmpT_fz, Z.dat_fz, Fl.of_ok, dc1, dc2, dc3, dc4, dca1, dca2, dca3, dca4, dcaO1, dcaO2, po1, po2, po3, po4, io_fz, wdat, tup0, tup1, tup2, tup3, tup4, lst0, lst1, lst3, hr] <;> rfl
  refine lc_map (ρ := [some (.fz (enc t)), x1, some (.fz (.int i)), some (.fz (enc a)), none]) hit (by rw [List.length_map, pl_len]; omega) (fun d e hde => ?_) (by rw [List.length_map, List.length_map])
  obtain ⟨p, hp, rfl, rfl⟩ := zipm2 plD (fun p => O.d (plD (i :: p))) a.pl d e hde
  obtain ⟨x, hx⟩ := Option.isSome_iff_exists.mp ((pt_mem p a).mp hp)
  have hl := (pt_small p a x hx).2
  refine ⟨.fz (plD (i :: p)), ?_, rfl⟩
  simp only [ev_v, ev_rd, ev_g, ev_k, ev_bin, ev_cmp, ev_chain, ev_andE, ev_orE, ev_nt, ev_ife, ev_tup, ev_lst, ev_ix, ev_sl, ev_call, ev_callk, ev_own, ev_b1, ev_b2, ev_isi, ev_gin, ev_gix, ss_nil, ss_cons, ex_asg, ex_par, ex_ife, ex_ret, setTg_n, Es.ev, T.tst, I.ev, two_none, two_some, isRd, rdZ, vZ, List.getElem?_cons_zero, List.getElem?_cons_succ, R.bind_ok, ixF_fz, ixT, at0, at1, at2, ofD_some, liftO_some, nonBw_w, cmpT_fz, Z.dat_fz, Fl.of_ok, dc1, dc2, dc3, dc4, dca1, dca2, dca3, dca4, dcaO1, dcaO2, po1, po2, po3, po4, io_fz, wdat, tup0, tup1, tup2, tup3, tup4, lst0, lst1, lst3, List.set_cons_succ, List.set_cons_zero, binF_fz, addP i p (by omega), ofO_some]
theorem lp_cf (cf : CF) (t : Tm) (ht : t.ht ≤ 900) (hz : t.sz ≤ 900000) (hk : cf "_law_kids" [.fz (enc t)] = .ret (.fz (.tuple (t.kids.map enc))) []) (hr : ∀ a ∈ t.kids, cf "_law_places" [.fz (enc a)] = .ret (.fz (.list (a.pl.map plD))) []) :
    finish [] (d__law_places.body.ex cf g fuel [some (.fz (enc t)), none, none, none, none]) = .ret (.fz (.list (t.pl.map plD))) [] := by
  have s0 : S.ex cf g fuel lp0 [some (.fz (enc t)), none, none, none, none] = .nx [some (.fz (enc t)), some (.own (plO [[]])), none, none, none] := by
    simp only [lp0, ev_v, ev_rd, ev_g, ev_k, ev_bin, ev_cmp, ev_chain, ev_andE, ev_orE, ev_nt, ev_ife, ev_tup, ev_lst, ev_ix, ev_sl, ev_call, ev_callk, ev_own, ev_b1, ev_b2, ev_isi, ev_gin, ev_gix, ss_nil, ss_cons, ex_asg, ex_par, ex_ife, ex_ret, setTg_n, Es.ev, T.tst, I.ev, two_none, two_some, isRd, rdZ, vZ, List.getElem?_cons_zero, List.getElem?_cons_succ, R.bind_ok, ixF_fz, ixT, at0, at1, at2, ofD_some, liftO_some, nonBw_w, cmpT_fz, Z.dat_fz, Fl.of_ok, dc1, dc2, dc3, dc4, dca1, dca2, dca3, dca4, dcaO1, dcaO2, po1, po2, po3, po4, io_fz, wdat, tup0, tup1, tup2, tup3, tup4, lst0, lst1, lst3, List.set_cons_succ, List.set_cons_zero] <;> rfl
  obtain ⟨ρ', e1, x2, x3, rfl⟩ := for_inv (body := fun d ρ => match setTg (.t [2, 3]) d ρ with
      | some ρ' => Ss.ex cf g fuel (.cons (.ext 1 (.lc [("its", 4)] (.n 4) (.seq (.call "_law_places" (.cons (.v 3) .nil))) .yes (.bin .add (.tup (.cons (.v 2) .nil)) (.rd 4)))) .nil) ρ'
      | none => .bad) (Iv := fun i ρ => ∃ x2 x3, ρ = [some (.fz (enc t)), some (.own (plO ([] :: plK 0 (t.kids.take i)))), x2, x3, none]) (numD 0 (t.kids.map enc)) 0 _ ⟨none, none, rfl⟩ (by
    rintro i d ρ hd ⟨x2, x3, rfl⟩
    rw [numD_at, List.getElem?_map] at hd
    rw [Nat.zero_add]
    cases q : t.kids[i]? with
    | none => rw [q] at hd; cases hd
    | some a =>
      rw [q] at hd
      cases hd
      have hm := List.mem_of_getElem? q
      have h1 := kids_ht t a hm
      have h2 := kids_sz t a hm
      rw [Nat.zero_add]
      have hlc := lp_lc cf t a i (some (.own (plO ([] :: plK 0 (t.kids.take i))))) (by omega) (by omega) (hr a hm)
      have hlen : ([] :: plK 0 (t.kids.take i)).length + (a.pl.map (i :: ·)).length ≤ t.sz := by
        have e : plK 0 (t.kids.take (i + 1)) = plK 0 (t.kids.take i) ++ a.pl.map (i :: ·) := by
          rw [List.take_add_one, q]
          show plK 0 (t.kids.take i ++ [a]) = _
          rw [plK_snoc, List.length_take, Nat.zero_add, Nat.min_eq_left (Nat.le_of_lt (List.getElem?_eq_some_iff.mp q).1)]
        have e2 : (plK 0 (t.kids.take (i + 1))).length ≤ (plK 0 t.kids).length := by
          rw [plK_len, plK_len]
          conv => rhs; rw [← List.take_append_drop (i + 1) t.kids, List.map_append, List.sum_append]
          exact Nat.le_add_right _ _
        have e3 : t.pl.length = (plK 0 t.kids).length + 1 := by rw [pl_kids]; rfl
        rw [pl_len] at e3
        rw [e, List.length_append] at e2
        simp only [List.length_cons]
        omega
      have hx := ext_ev (fuel := fuel) (i := 1) (os := ([] :: plK 0 (t.kids.take i)).map fun p => O.d (plD p)) (ds := (a.pl.map (i :: ·)).map plD) (ρ := [some (.fz (enc t)), some (.own (plO ([] :: plK 0 (t.kids.take i)))), some (.fz (.int i)), some (.fz (enc a)), none]) rfl hlc (by
        show PyData.list (O.frzs _) = _
        rw [show (a.pl.map fun p => O.d (plD (i :: p))) = ((a.pl.map (i :: ·)).map plD).map .d by rw [List.map_map, List.map_map]; rfl, frz_map]) (by rw [List.length_map, List.length_map]; omega)
      refine ⟨[some (.fz (enc t)), some (.own (plO ([] :: plK 0 (t.kids.take (i + 1))))), some (.fz (.int i)), some (.fz (enc a)), none], ?_, _, _, rfl⟩
      have e : plK 0 (t.kids.take (i + 1)) = plK 0 (t.kids.take i) ++ a.pl.map (i :: ·) := by
        rw [List.take_add_one, q]
        show plK 0 (t.kids.take i ++ [a]) = _
        rw [plK_snoc, List.length_take, Nat.zero_add, Nat.min_eq_left (Nat.le_of_lt (List.getElem?_eq_some_iff.mp q).1)]
      show Ss.ex cf g fuel (.cons (.ext 1 _) .nil) [some (.fz (enc t)), some (.own (plO ([] :: plK 0 (t.kids.take i)))), some (.fz (.int i)), some (.fz (enc a)), none] = _
      rw [ss_cons, hx, Fl.then_nx, ss_nil, e]
      show Fl.nx [_, some (.own (.l (_ ++ _))), _, _, _] = Fl.nx [_, some (.own (.l _)), _, _, _]
      rw [show (([] : List Nat) :: (plK 0 (t.kids.take i) ++ a.pl.map (i :: ·))) = ([] :: plK 0 (t.kids.take i)) ++ a.pl.map (i :: ·) from rfl, List.map_append, List.map_map (f := plD)]
      rfl)
  rw [Nat.zero_add, numD_len, List.length_map, List.take_length, ← pl_kids] at e1
  have hit : I.ev cf g (.enum (.call "_law_kids" (.cons (.v 0) .nil))) [some (.fz (enc t)), some (.own (plO [[]])), none, none, none] = .ok (numD 0 (t.kids.map enc)) [some (.fz (enc t)), some (.own (plO [[]])), none, none, none] := by
    simp only [ev_v, ev_rd, ev_g, ev_k, ev_bin, ev_cmp, ev_chain, ev_andE, ev_orE, ev_nt, ev_ife, ev_tup, ev_lst, ev_ix, ev_sl, ev_call, ev_callk, ev_own, ev_b1, ev_b2, ev_isi, ev_gin, ev_gix, ss_nil, ss_cons, ex_asg, ex_par, ex_ife, ex_ret, setTg_n, Es.ev, T.tst, I.ev, two_none, two_some, isRd, rdZ, vZ, List.getElem?_cons_zero, List.getElem?_cons_succ, R.bind_ok, ixF_fz, ixT, at0, at1, at2, ofD_some, liftO_some, nonBw_w, cmpT_fz, Z.dat_fz, Fl.of_ok, dc1, dc2, dc3, dc4, dca1, dca2, dca3, dca4, dcaO1, dcaO2, po1, po2, po3, po4, io_fz, wdat, tup0, tup1, tup2, tup3, tup4, lst0, lst1, lst3, hk] <;> rfl
  have s1 : S.ex cf g fuel lp1 [some (.fz (enc t)), some (.own (plO [[]])), none, none, none] = .nx [some (.fz (enc t)), some (.own (plO t.pl)), x2, x3, none] := by
    unfold lp1
    rw [ex_for, hit]
    exact e1
  have s2 : S.ex cf g fuel lp2 [some (.fz (enc t)), some (.own (plO t.pl)), x2, x3, none] = .rt (.fz (.list (t.pl.map plD))) [some (.fz (enc t)), some (.fz (.list (t.pl.map plD))), x2, x3, none] := by
    simp only [lp2, ev_v, ev_rd, ev_g, ev_k, ev_bin, ev_cmp, ev_chain, ev_andE, ev_orE, ev_nt, ev_ife, ev_tup, ev_lst, ev_ix, ev_sl, ev_call, ev_callk, ev_own, ev_b1, ev_b2, ev_isi, ev_gin, ev_gix, ss_nil, ss_cons, ex_asg, ex_par, ex_ife, ex_ret, setTg_n, Es.ev, T.tst, I.ev, two_none, two_some, isRd, rdZ, vZ, List.getElem?_cons_zero, List.getElem?_cons_succ, R.bind_ok, ixF_fz, ixT, at0, at1, at2, ofD_some, liftO_some, nonBw_w, cmpT_fz, Z.dat_fz, Fl.of_ok, dc1, dc2, dc3, dc4, dca1, dca2, dca3, dca4, dcaO1, dcaO2, po1, po2, po3, po4, io_fz, wdat, tup0, tup1, tup2, tup3, tup4, lst0, lst1, lst3, plO_frz, List.set_cons_succ, List.set_cons_zero]
  rw [lp_body, ss_step s0 (ss_step s1 (ss_rt s2))]
  rfl
theorem lp_ok : ∀ (n : Nat) (t : Tm), t.ht + 1 ≤ n → t.ht ≤ 900 → t.sz ≤ 900000 → callN tab g fuel n "_law_places" [.fz (enc t)] = .ret (.fz (.list (t.pl.map plD))) []
  | 0, t, h, _, _ => by omega
  | n + 1, t, h, h2, h3 => (e__law_places n (enc t)).trans (lp_cf _ t h2 h3 (kids_ok t (by have := ht_pos t; omega)) fun a ha => lp_ok n a (by have := kids_ht t a ha; omega) (by have := kids_ht t a ha; omega) (by have := kids_sz t a ha; omega))
end K04

set_option Elab.async false
set_option linter.all false
set_option maxRecDepth 100000
set_option maxHeartbeats 8000000
namespace K04
open PySem Co
def Tm.hd : Tm → Str
  | .var _ => "var"
  | .num _ => "num"
  | .fn _ => "fun"
  | .use _ _ => "use"
  | .up _ => "up"
  | .dn _ => "down"
  | .iff _ _ _ => "if"
theorem enc_kids (t a : Tm) (i : Nat) (h : t.kids[i]? = some a) : enc t = .tuple (.str t.hd :: t.kids.map enc) := by
  cases t <;> first | rfl | (simp [Tm.kids] at h)
theorem enc_sk (t a y : Tm) (i : Nat) (h : t.kids[i]? = some a) : enc (t.sk i y) = .tuple (.str t.hd :: (t.kids.set i y).map enc) := by
  rcases t with _ | _ | a | ⟨a, b⟩ | a | a | ⟨a, b, c⟩ <;> rcases i with _ | _ | _ | i <;> first | rfl | (simp [Tm.kids] at h)
theorem at_kid (t a : Tm) (i : Nat) (h : t.kids[i]? = some a) : ixD (enc t) (.int ((i : Int) + 1)) = some (enc a) := by
  rw [enc_kids t a i h]
  show L2.atI _ _ = _
  rw [show (i : Int) + 1 = ((i + 1 : Nat) : Int) by omega, atN]
  show (t.kids.map enc)[i]? = _
  rw [List.getElem?_map, h]; rfl
theorem pt_cons (t x : Tm) (i : Nat) (p : List Nat) (h : t.pt (i :: p) = some x) : ∃ a, t.kids[i]? = some a ∧ a.pt p = some x := by
  have h : (match t.kids[i]? with | some a => a.pt p | none => none) = some x := h
  cases q : t.kids[i]? with
  | none => rw [q] at h; cases h
  | some a => rw [q] at h; exact ⟨a, rfl, h⟩
theorem pt_app (p : List Nat) (i : Nat) : ∀ (q : List Nat) (t x : Tm), t.pt (q ++ i :: p) = some x → ∃ y a, t.pt q = some y ∧ y.kids[i]? = some a ∧ a.pt p = some x
  | [], t, x, h => by
    obtain ⟨a, h1, h2⟩ := pt_cons t x i p h
    exact ⟨t, a, rfl, h1, h2⟩
  | j :: q, t, x, h => by
    obtain ⟨b, h1, h2⟩ := pt_cons t x j (q ++ i :: p) h
    obtain ⟨y, a, h3, h4, h5⟩ := pt_app p i q b x h2
    refine ⟨y, a, ?_, h4, h5⟩
    show (match t.kids[j]? with | some a => a.pt q | none => none) = _
    rw [h1]; exact h3
theorem pt_snoc (i : Nat) (y a : Tm) (h2 : y.kids[i]? = some a) : ∀ (q : List Nat) (t : Tm), t.pt q = some y → t.pt (q ++ [i]) = some a
  | [], t, h => by
    cases h
    show (match y.kids[i]? with | some a => a.pt [] | none => none) = _
    rw [h2]; rfl
  | j :: q, t, h => by
    obtain ⟨b, h3, h4⟩ := pt_cons t y j q h
    show (match t.kids[j]? with | some a => a.pt (q ++ [i]) | none => none) = _
    rw [h3]
    exact pt_snoc i y a h2 q b h4
/-- along a place -/
theorem along (t x : Tm) (p : List Nat) (h : t.pt p = some x) (i j : Nat) (hi : p[i]? = some j) : ∃ y a, t.pt (p.take i) = some y ∧ y.kids[j]? = some a ∧ t.pt (p.take (i + 1)) = some a := by
  have e : p = p.take i ++ j :: p.drop (i + 1) := by
    have hl := (List.getElem?_eq_some_iff.mp hi).1
    have : p.drop i = j :: p.drop (i + 1) := by
      rw [List.drop_eq_getElem_cons hl]
      congr 1
      exact (List.getElem?_eq_some_iff.mp hi).2
    rw [← this, List.take_append_drop]
  rw [e] at h
  obtain ⟨y, a, h1, h2, h3⟩ := pt_app _ _ _ _ _ h
  refine ⟨y, a, h1, h2, ?_⟩
  rw [List.take_add_one, hi]
  exact pt_snoc j y a h2 _ _ h1
theorem it_pl (cf : CF) (p : List Nat) (x0 x2 : Option W) (xs : List (Option W)) : I.ev cf g (.seq (.v 1)) (x0 :: some (.fz (plD p)) :: xs) = .ok (p.map fun i : Nat => PyData.int i) (x0 :: some (.fz (plD p)) :: xs) := rfl
def pi0 : S := (.for (.n 2) (.seq (.v 1)) (.cons (.asg (.n 0) (.ix (.rd 0) (.bin .add (.rd 2) (.k (.int 1)))))
    .nil))
def pi1 : S := (.ret (.v 0))
theorem pi_body : d_part_in.body = .cons pi0 (.cons pi1 (.nil)) := rfl


theorem pi_ok {n : Nat} (t x : Tm) (p : List Nat) (h : t.pt p = some x) (hn : 1 ≤ n) : callN tab g fuel n "part_in" [.fz (enc t), .fz (plD p)] = .ret (.fz (enc x)) [] := by
  obtain ⟨n, rfl⟩ : ∃ m, n = m + 1 := ⟨n - 1, by omega⟩
  rw [e_part_in]
  generalize callN tab g fuel n = cf
  obtain ⟨ρ', e1, y, x2, hy, rfl⟩ := for_inv (body := fun d ρ => match setTg (.n 2) d ρ with
      | some ρ' => Ss.ex cf g fuel (.cons (.asg (.n 0) (.ix (.rd 0) (.bin .add (.rd 2) (.k (.int 1))))) .nil) ρ'
      | none => .bad) (Iv := fun i ρ => ∃ y x2, t.pt (p.take i) = some y ∧ ρ = [some (.fz (enc y)), some (.fz (plD p)), x2]) (p.map fun i : Nat => PyData.int i) 0 [some (.fz (enc t)), some (.fz (plD p)), none] ⟨t, none, rfl, rfl⟩ (by
    rintro i d ρ hd ⟨y, x2, hy, rfl⟩
    rw [List.getElem?_map] at hd
    rw [Nat.zero_add] at hy ⊢
    cases q : p[i]? with
    | none => rw [q] at hd; cases hd
    | some j =>
      rw [q] at hd
      cases hd
      obtain ⟨y', a, h1, h2, h3⟩ := along t x p h i j q
      rw [hy] at h1
      cases h1
      refine ⟨[some (.fz (enc a)), some (.fz (plD p)), some (.fz (.int j))], ?_, a, _, h3, rfl⟩
      simp only [ev_v, ev_rd, ev_g, ev_k, ev_bin, ev_cmp, ev_chain, ev_andE, ev_orE, ev_nt, ev_ife, ev_tup, ev_lst, ev_ix, ev_sl, ev_call, ev_callk, ev_own, ev_b1, ev_b2, ev_isi, ev_gin, ev_gix, ss_nil, ss_cons, ex_asg, ex_par, ex_ife, ex_ret, setTg_n, Es.ev, T.tst, I.ev, two_none, two_some, isRd, rdZ, vZ, List.getElem?_cons_zero, List.getElem?_cons_succ, R.bind_ok, ixF_fz, ixT, at0, at1, at2, ofD_some, liftO_some, nonBw_w, cmpT_fz, Z.dat_fz, Fl.of_ok, dc1, dc2, dc3, dc4, dca1, dca2, dca3, dca4, dcaO1, dcaO2, po1, po2, po3, po4, io_fz, wdat, tup0, tup1, tup2, tup3, tup4, lst0, lst1, lst3, List.set_cons_succ, List.set_cons_zero, binF_fz, addI, ofO_some, at_kid y a j h2, Fl.then_nx])
  rw [Nat.zero_add, List.length_map, List.take_length, h] at hy
  cases hy
  have s0 : S.ex cf g fuel pi0 [some (.fz (enc t)), some (.fz (plD p)), none] = .nx [some (.fz (enc x)), some (.fz (plD p)), x2] := by
    unfold pi0
    rw [ex_for, it_pl cf p _ none]
    exact e1
  rw [pi_body, ss_step s0 (ss_rt (show S.ex cf g fuel pi1 _ = .rt (.fz (enc x)) [some (.fz (enc x)), some (.fz (plD p)), x2] from rfl))]
  rfl
def lq0 : S := (.for (.n 2) (.seq (.v 1)) (.cons (.asg (.n 0) (.ix (.rd 0) (.bin .add (.rd 2) (.k (.int 1)))))
    .nil))
def lq1 : S := (.ret (.v 0))
theorem lq_body : d__law_part.body = .cons lq0 (.cons lq1 (.nil)) := rfl


theorem lq_ok {n : Nat} (t x : Tm) (p : List Nat) (h : t.pt p = some x) (hn : 1 ≤ n) : callN tab g fuel n "_law_part" [.fz (enc t), .fz (plD p)] = .ret (.fz (enc x)) [] := by
  obtain ⟨n, rfl⟩ : ∃ m, n = m + 1 := ⟨n - 1, by omega⟩
  rw [e__law_part]
  generalize callN tab g fuel n = cf
  obtain ⟨ρ', e1, y, x2, hy, rfl⟩ := for_inv (body := fun d ρ => match setTg (.n 2) d ρ with
      | some ρ' => Ss.ex cf g fuel (.cons (.asg (.n 0) (.ix (.rd 0) (.bin .add (.rd 2) (.k (.int 1))))) .nil) ρ'
      | none => .bad) (Iv := fun i ρ => ∃ y x2, t.pt (p.take i) = some y ∧ ρ = [some (.fz (enc y)), some (.fz (plD p)), x2]) (p.map fun i : Nat => PyData.int i) 0 [some (.fz (enc t)), some (.fz (plD p)), none] ⟨t, none, rfl, rfl⟩ (by
    rintro i d ρ hd ⟨y, x2, hy, rfl⟩
    rw [List.getElem?_map] at hd
    rw [Nat.zero_add] at hy ⊢
    cases q : p[i]? with
    | none => rw [q] at hd; cases hd
    | some j =>
      rw [q] at hd
      cases hd
      obtain ⟨y', a, h1, h2, h3⟩ := along t x p h i j q
      rw [hy] at h1
      cases h1
      refine ⟨[some (.fz (enc a)), some (.fz (plD p)), some (.fz (.int j))], ?_, a, _, h3, rfl⟩
      simp only [ev_v, ev_rd, ev_g, ev_k, ev_bin, ev_cmp, ev_chain, ev_andE, ev_orE, ev_nt, ev_ife, ev_tup, ev_lst, ev_ix, ev_sl, ev_call, ev_callk, ev_own, ev_b1, ev_b2, ev_isi, ev_gin, ev_gix, ss_nil, ss_cons, ex_asg, ex_par, ex_ife, ex_ret, setTg_n, Es.ev, T.tst, I.ev, two_none, two_some, isRd, rdZ, vZ, List.getElem?_cons_zero, List.getElem?_cons_succ, R.bind_ok, ixF_fz, ixT, at0, at1, at2, ofD_some, liftO_some, nonBw_w, cmpT_fz, Z.dat_fz, Fl.of_ok, dc1, dc2, dc3, dc4, dca1, dca2, dca3, dca4, dcaO1, dcaO2, po1, po2, po3, po4, io_fz, wdat, tup0, tup1, tup2, tup3, tup4, lst0, lst1, lst3, List.set_cons_succ, List.set_cons_zero, binF_fz, addI, ofO_some, at_kid y a j h2, Fl.then_nx])
  rw [Nat.zero_add, List.length_map, List.take_length, h] at hy
  cases hy
  have s0 : S.ex cf g fuel lq0 [some (.fz (enc t)), some (.fz (plD p)), none] = .nx [some (.fz (enc x)), some (.fz (plD p)), x2] := by
    unfold lq0
    rw [ex_for, it_pl cf p _ none]
    exact e1
  rw [lq_body, ss_step s0 (ss_rt (show S.ex cf g fuel lq1 _ = .rt (.fz (enc x)) [some (.fz (enc x)), some (.fz (plD p)), x2] from rfl))]
  rfl
def ip0 : S := (.for (.n 2) (.seq (.v 1)) (.cons (.ife (.nt (.chain .le .lt (.k (.int 0)) (.v 2) (.b1 .len (.call "children" (.cons (.v 0) .nil))))) (.cons (.ret (.k (.bool false)))
    .nil) .nil)
    (.cons (.asg (.n 0) (.ix (.call "children" (.cons (.v 0) .nil)) (.rd 2)))
    .nil)))
def ip1 : S := (.ret (.k (.bool true)))
theorem ip_body : d_is_place_in.body = .cons ip0 (.cons ip1 (.nil)) := rfl


theorem ix_kid (t a : Tm) (i : Nat) (h : t.kids[i]? = some a) : ixD (.tuple (t.kids.map enc)) (.int (i : Int)) = some (enc a) := by
  show L2.atI _ _ = _
  rw [atN, List.getElem?_map, h]; rfl
theorem ip_ok {n : Nat} (t x : Tm) (p : List Nat) (h : t.pt p = some x) (hn : 2 ≤ n) : callN tab g fuel n "is_place_in" [.fz (enc t), .fz (plD p)] = .ret (.fz (.bool true)) [] := by
  obtain ⟨n, rfl⟩ : ∃ m, n = m + 1 := ⟨n - 1, by omega⟩
  rw [e_is_place_in]
  have hch := fun u => children_ok u (n := n) (by omega)
  generalize callN tab g fuel n = cf at hch
  obtain ⟨ρ', e1, y, x2, hy, rfl⟩ := for_inv (body := fun d ρ => match setTg (.n 2) d ρ with
      | some ρ' => Ss.ex cf g fuel (.cons (.ife (.nt (.chain .le .lt (.k (.int 0)) (.v 2) (.b1 .len (.call "children" (.cons (.v 0) .nil))))) (.cons (.ret (.k (.bool false)))
    .nil) .nil)
    (.cons (.asg (.n 0) (.ix (.call "children" (.cons (.v 0) .nil)) (.rd 2)))
    .nil)) ρ'
      | none => .bad) (Iv := fun i ρ => ∃ y x2, t.pt (p.take i) = some y ∧ ρ = [some (.fz (enc y)), some (.fz (plD p)), x2]) (p.map fun i : Nat => PyData.int i) 0 [some (.fz (enc t)), some (.fz (plD p)), none] ⟨t, none, rfl, rfl⟩ (by
    rintro i d ρ hd ⟨y, x2, hy, rfl⟩
    rw [List.getElem?_map] at hd
    rw [Nat.zero_add] at hy ⊢
    cases q : p[i]? with
    | none => rw [q] at hd; cases hd
    | some j =>
      rw [q] at hd
      cases hd
      obtain ⟨y', a, h1, h2, h3⟩ := along t x p h i j q
      rw [hy] at h1
      cases h1
      refine ⟨[some (.fz (enc a)), some (.fz (plD p)), some (.fz (.int j))], ?_, a, _, h3, rfl⟩
      have c1 : (0 : Int) ≤ j := by omega
      have c2 : (j : Int) < ((y.kids.map enc).length : Nat) := by have := (List.getElem?_eq_some_iff.mp h2).1; rw [List.length_map]; omega
      simp only [ev_v, ev_rd, ev_g, ev_k, ev_bin, ev_cmp, ev_chain, ev_andE, ev_orE, ev_nt, ev_ife, ev_tup, ev_lst, ev_ix, ev_sl, ev_call, ev_callk, ev_own, ev_b1, ev_b2, ev_isi, ev_gin, ev_gix, ss_nil, ss_cons, ex_asg, ex_par, ex_ife, ex_ret, setTg_n, Es.ev, T.tst, I.ev, two_none, two_some, isRd, rdZ, vZ, List.getElem?_cons_zero, List.getElem?_cons_succ, R.bind_ok, ixF_fz, ixT, at0, at1, at2, ofD_some, liftO_some, nonBw_w, cmpT_fz, Z.dat_fz, Fl.of_ok, dc1, dc2, dc3, dc4, dca1, dca2, dca3, dca4, dcaO1, dcaO2, po1, po2, po3, po4, io_fz, wdat, tup0, tup1, tup2, tup3, tup4, lst0, lst1, lst3, List.set_cons_succ, List.set_cons_zero, cmp_le, cmp_lt, decide_eq_true c1, decide_eq_true c2, hch, b1_lenT, Bool.not_true, Bool.false_eq_true, if_false, ix_kid y a j h2, Fl.then_nx])
  rw [Nat.zero_add, List.length_map, List.take_length, h] at hy
  cases hy
  have s0 : S.ex cf g fuel ip0 [some (.fz (enc t)), some (.fz (plD p)), none] = .nx [some (.fz (enc x)), some (.fz (plD p)), x2] := by
    unfold ip0
    rw [ex_for, it_pl cf p _ none]
    exact e1
  rw [ip_body, ss_step s0 (ss_rt (show S.ex cf g fuel ip1 _ = .rt (.fz (.bool true)) [some (.fz (enc x)), some (.fz (plD p)), x2] from rfl))]
  rfl
def pu0 : S := (.ife (.cmp .eq (.rd 1) (.tup .nil)) (.cons (.ret (.v 2))
    .nil) .nil)
def pu1 : S := (.asg (.n 3) (.bin .add (.ix (.rd 1) (.k (.int 0))) (.k (.int 1))))
def pu2 : S := (.ret (.bin .add (.bin .add (.sl (.rd 0) (.k .none) (.rd 3)) (.tup (.cons (.call "put_in" (.cons (.ix (.rd 0) (.rd 3)) (.cons (.sl (.rd 1) (.k (.int 1)) (.k .none)) (.cons (.v 2) .nil)))) .nil))) (.sl (.rd 0) (.bin .add (.rd 3) (.k (.int 1))) (.k .none))))
theorem pu_body : d_put_in.body = .cons pu0 (.cons pu1 (.cons pu2 (.nil))) := rfl


theorem cutI (xs : List D) (i : Nat) (h : i ≤ xs.length) : cutA xs none (some (i : Int)) = xs.take i := by
  unfold cutA
  rw [HT.sIx_none, HT.sIx_nat, List.drop_zero, Nat.sub_zero, Nat.min_eq_left h]
theorem cutJ (xs : List D) (i : Nat) (h : i ≤ xs.length) : cutA xs (some (i : Int)) none = xs.drop i := by
  unfold cutA
  rw [HT.sIx_none, HT.sIx_nat, Nat.min_eq_left h, List.take_of_length_le (by rw [List.length_drop]; omega)]
theorem lay_ints : ∀ p : List Nat, PyData.canLayAll0 (p.map fun i : Nat => PyData.int i) = true
  | [] => rfl
  | i :: p => by
    show (true && PyData.canLayAll0 (p.map fun i : Nat => PyData.int i)) = true
    rw [lay_ints p]; rfl
theorem lay_pl (p : List Nat) : (plD p).canLay0 = true := lay_ints p
theorem dep_ints : ∀ p : List Nat, PyData.depthAll (p.map fun i : Nat => PyData.int i) ≤ 1
  | [] => by simp [PyData.depthAll]
  | i :: p => by
    show max (PyData.depth (.int i)) (PyData.depthAll _) ≤ 1
    have := dep_ints p
    have e : PyData.depth (.int i) ≤ 1 := by simp [PyData.depth]
    omega
theorem dep_pl (p : List Nat) : (plD p).depth ≤ 2 := by
  show PyData.depthAll _ + 1 ≤ 2
  have := dep_ints p
  omega
theorem eqv_ints : ∀ p q : List Nat, PyData.eqvAll (p.map fun i : Nat => PyData.int i) (q.map fun i : Nat => PyData.int i) = decide (p = q)
  | [], [] => rfl
  | [], j :: q => rfl
  | i :: p, [] => rfl
  | i :: p, j :: q => by
    show (((i : Int) == (j : Int)) && PyData.eqvAll _ _) = _
    rw [eqv_ints p q]
    by_cases h : i = j
    · subst h
      simp
    · have : ((i : Int) == (j : Int)) = false := beq_false_of_ne (by omega)
      rw [this]
      simp [h]
theorem eqP (p q : List Nat) : cmpD .eq (plD p) (plD q) = some (decide (p = q)) := by
  have ok : eqOk (plD p) (plD q) = true := by
    unfold eqOk
    rw [lay_pl, lay_pl, decide_eq_true (show min (plD p).depth (plD q).depth ≤ 64 from Nat.le_trans (Nat.min_le_left _ _) (Nat.le_trans (dep_pl p) (by decide)))]
    rfl
  show (if eqOk (plD p) (plD q) then some (PyData.eqv (plD p) (plD q)) else none) = _
  rw [if_pos ok]
  exact congrArg some (eqv_ints p q)
theorem put_cf (cf : CF) (t a y : Tm) (i : Nat) (p : List Nat) (h : t.kids[i]? = some a) (hr : cf "put_in" [.fz (enc a), .fz (plD p), .fz (enc y)] = .ret (.fz (enc (a.pu p y))) []) :
    finish [] (d_put_in.body.ex cf g fuel [some (.fz (enc t)), some (.fz (plD (i :: p))), some (.fz (enc y)), none]) = .ret (.fz (enc (t.sk i (a.pu p y)))) [] := by
  have hl := (List.getElem?_eq_some_iff.mp h).1
  have hk3 := kids_len t
  have e0 : cmpD .eq (plD (i :: p)) (.tuple []) = some false := (eqP (i :: p) []).trans (congrArg some (by simp))
  have ex : enc t = .tuple (.str t.hd :: t.kids.map enc) := enc_kids t a i h
  have i0 : ixD (plD (i :: p)) (.int 0) = some (.int i) := by
    show L2.atI _ _ = _
    exact at0
  have i1 : ixD (enc t) (.int ((i : Int) + 1)) = some (enc a) := at_kid t a i h
  have n1 : (i : Int) + 1 = ((i + 1 : Nat) : Int) := by omega
  have n2 : ((i + 1 : Nat) : Int) + 1 = ((i + 2 : Nat) : Int) := by omega
  have s0 : S.ex cf g fuel pu0 [some (.fz (enc t)), some (.fz (plD (i :: p))), some (.fz (enc y)), none] = .nx [some (.fz (enc t)), some (.fz (plD (i :: p))), some (.fz (enc y)), none] := by
    simp only [pu0, ev_v, ev_rd, ev_g, ev_k, ev_bin, ev_cmp, ev_chain, ev_andE, ev_orE, ev_nt, ev_ife, ev_tup, ev_lst, ev_ix, ev_sl, ev_call, ev_callk, ev_own, ev_b1, ev_b2, ev_isi, ev_gin, ev_gix, ss_nil, ss_cons, ex_asg, ex_par, ex_ife, ex_ret, setTg_n, Es.ev, T.tst, I.ev, two_none, two_some, isRd, rdZ, vZ, List.getElem?_cons_zero, List.getElem?_cons_succ, R.bind_ok, ixF_fz, ixT, at0, at1, at2, ofD_some, liftO_some, nonBw_w, cmpT_fz, Z.dat_fz, Fl.of_ok, dc1, dc2, dc3, dc4, dca1, dca2, dca3, dca4, dcaO1, dcaO2, po1, po2, po3, po4, io_fz, wdat, tup0, tup1, tup2, tup3, tup4, lst0, lst1, lst3, e0, Bool.false_eq_true, if_false]
  have s1 : S.ex cf g fuel pu1 [some (.fz (enc t)), some (.fz (plD (i :: p))), some (.fz (enc y)), none] = .nx [some (.fz (enc t)), some (.fz (plD (i :: p))), some (.fz (enc y)), some (.fz (.int ((i + 1 : Nat) : Int)))] := by
    simp only [pu1, ev_v, ev_rd, ev_g, ev_k, ev_bin, ev_cmp, ev_chain, ev_andE, ev_orE, ev_nt, ev_ife, ev_tup, ev_lst, ev_ix, ev_sl, ev_call, ev_callk, ev_own, ev_b1, ev_b2, ev_isi, ev_gin, ev_gix, ss_nil, ss_cons, ex_asg, ex_par, ex_ife, ex_ret, setTg_n, Es.ev, T.tst, I.ev, two_none, two_some, isRd, rdZ, vZ, List.getElem?_cons_zero, List.getElem?_cons_succ, R.bind_ok, ixF_fz, ixT, at0, at1, at2, ofD_some, liftO_some, nonBw_w, cmpT_fz, Z.dat_fz, Fl.of_ok, dc1, dc2, dc3, dc4, dca1, dca2, dca3, dca4, dcaO1, dcaO2, po1, po2, po3, po4, io_fz, wdat, tup0, tup1, tup2, tup3, tup4, lst0, lst1, lst3, i0, binF_fz, addI, ofO_some, n1, List.set_cons_succ, List.set_cons_zero]
  have c1 : slD (enc t) none (some ((i + 1 : Nat) : Int)) = some (.fz (.tuple (.str t.hd :: (t.kids.take i).map enc))) := by
    rw [ex]
    show some (W.fz (.tuple (cutA _ _ _))) = _
    rw [cutI _ _ (by simp; omega)]
    simp [List.map_take]
  have c2 : slD (enc t) (some ((i + 2 : Nat) : Int)) none = some (.fz (.tuple ((t.kids.drop (i + 1)).map enc))) := by
    rw [ex]
    show some (W.fz (.tuple (cutA _ _ _))) = _
    rw [cutJ _ _ (by simp; omega)]
    simp [List.map_drop]
  have c3 : slD (plD (i :: p)) (some 1) none = some (.fz (plD p)) := by
    show some (W.fz (.tuple (cutA _ _ _))) = _
    have := cutJ ((i :: p).map fun i : Nat => PyData.int i) 1 (by simp)
    have e1 : ((1 : Nat) : Int) = 1 := rfl
    rw [e1] at this
    rw [this]
    rfl
  have i1' : ixD (enc t) (.int ((i + 1 : Nat) : Int)) = some (enc a) := by rw [← n1]; exact i1
  have a1 : binD .add (.tuple (.str t.hd :: (t.kids.take i).map enc)) (.tuple [enc (a.pu p y)]) = some (.fz (.tuple ((.str t.hd :: (t.kids.take i).map enc) ++ [enc (a.pu p y)]))) := addT (by simp; omega)
  have a2 : binD .add (.tuple ((.str t.hd :: (t.kids.take i).map enc) ++ [enc (a.pu p y)])) (.tuple ((t.kids.drop (i + 1)).map enc)) = some (.fz (enc (t.sk i (a.pu p y)))) := by
    rw [addT (by simp; omega), enc_sk t a _ i h]
    congr 3
    rw [List.set_eq_take_append_cons_drop, if_pos hl]
    simp
  have f1 : ∀ ρ, E.ev cf g (.sl (.rd 0) (.k .none) (.rd 3)) (some (.fz (enc t)) :: some (.fz (plD (i :: p))) :: some (.fz (enc y)) :: some (.fz (.int ((i + 1 : Nat) : Int))) :: ρ) = .ok (.w (.fz (.tuple (.str t.hd :: (t.kids.take i).map enc)))) (some (.fz (enc t)) :: some (.fz (plD (i :: p))) :: some (.fz (enc y)) :: some (.fz (.int ((i + 1 : Nat) : Int))) :: ρ) := fun ρ => by
    show ofO (slD (enc t) none (some ((i + 1 : Nat) : Int))) _ = _
    rw [c1]; rfl
  have f2 : ∀ ρ, E.ev cf g (.sl (.rd 0) (.bin .add (.rd 3) (.k (.int 1))) (.k .none)) (some (.fz (enc t)) :: some (.fz (plD (i :: p))) :: some (.fz (enc y)) :: some (.fz (.int ((i + 1 : Nat) : Int))) :: ρ) = .ok (.w (.fz (.tuple ((t.kids.drop (i + 1)).map enc)))) (some (.fz (enc t)) :: some (.fz (plD (i :: p))) :: some (.fz (enc y)) :: some (.fz (.int ((i + 1 : Nat) : Int))) :: ρ) := fun ρ => by
    show ofO (slD (enc t) (some (((i + 1 : Nat) : Int) + 1)) none) _ = _
    rw [n2, c2]; rfl
  have f3 : ∀ ρ, E.ev cf g (.sl (.rd 1) (.k (.int 1)) (.k .none)) (some (.fz (enc t)) :: some (.fz (plD (i :: p))) :: some (.fz (enc y)) :: some (.fz (.int ((i + 1 : Nat) : Int))) :: ρ) = .ok (.w (.fz (plD p))) (some (.fz (enc t)) :: some (.fz (plD (i :: p))) :: some (.fz (enc y)) :: some (.fz (.int ((i + 1 : Nat) : Int))) :: ρ) := fun ρ => by
    show ofO (slD (plD (i :: p)) (some 1) none) _ = _
    rw [c3]; rfl
  have s2 : S.ex cf g fuel pu2 [some (.fz (enc t)), some (.fz (plD (i :: p))), some (.fz (enc y)), some (.fz (.int ((i + 1 : Nat) : Int)))] = .rt (.fz (enc (t.sk i (a.pu p y)))) [some (.fz (enc t)), some (.fz (plD (i :: p))), some (.fz (enc y)), some (.fz (.int ((i + 1 : Nat) : Int)))] := by
    unfold pu2
    rw [ex_ret, ev_bin]
    show Fl.of (two none _ _ _ _) _ = _
    rw [two_none, ev_bin]
    show Fl.of ((two none _ _ _ _).bind _) _ = _
    rw [two_none, f1]
    simp only [R.bind_ok, nonBw_w, ev_rd, ev_tup, Es.ev, ev_call, ev_ix, isRd, two_some, rdZ, List.getElem?_cons_zero, List.getElem?_cons_succ, ixF_fz, Z.dat_fz, i1', ofD_some, f3, ev_v, vZ, wdat, dc3, hr, dca3, po3, tup1, binF_fz, a1, ofO_some, f2, a2, Fl.of_ok]
  rw [pu_body, ss_step s0 (ss_step s1 (ss_rt s2))]
  rfl
theorem put_ok : ∀ (p : List Nat) (t x y : Tm) (n : Nat), t.pt p = some x → p.length + 1 ≤ n → callN tab g fuel n "put_in" [.fz (enc t), .fz (plD p), .fz (enc y)] = .ret (.fz (enc (t.pu p y))) []
  | [], t, x, y, n, h, hn => by
    obtain ⟨n, rfl⟩ : ∃ m, n = m + 1 := ⟨n - 1, by omega⟩
    rw [e_put_in]
    have e0 : cmpD .eq (plD []) (.tuple []) = some true := (eqP [] []).trans (congrArg some (by simp))
    simp only [d_put_in, ev_v, ev_rd, ev_g, ev_k, ev_bin, ev_cmp, ev_chain, ev_andE, ev_orE, ev_nt, ev_ife, ev_tup, ev_lst, ev_ix, ev_sl, ev_call, ev_callk, ev_own, ev_b1, ev_b2, ev_isi, ev_gin, ev_gix, ss_nil, ss_cons, ex_asg, ex_par, ex_ife, ex_ret, setTg_n, Es.ev, T.tst, I.ev, two_none, two_some, isRd, rdZ, vZ, List.getElem?_cons_zero, List.getElem?_cons_succ, R.bind_ok, ixF_fz, ixT, at0, at1, at2, ofD_some, liftO_some, nonBw_w, cmpT_fz, Z.dat_fz, Fl.of_ok, dc1, dc2, dc3, dc4, dca1, dca2, dca3, dca4, dcaO1, dcaO2, po1, po2, po3, po4, io_fz, wdat, tup0, tup1, tup2, tup3, tup4, lst0, lst1, lst3, e0, if_true] <;> rfl
  | i :: p, t, x, y, n, h, hn => by
    obtain ⟨n, rfl⟩ : ∃ m, n = m + 1 := ⟨n - 1, by omega⟩
    obtain ⟨a, h1, h2⟩ := pt_cons t x i p h
    have e : t.pu (i :: p) y = t.sk i (a.pu p y) := by
      show (match t.kids[i]? with | some a => t.sk i (a.pu p y) | none => t) = _
      rw [h1]
    rw [e, e_put_in]
    exact put_cf _ t a y i p h1 (put_ok p a x y n h2 (by simp only [List.length_cons] at hn; omega))
end K04

set_option Elab.async false
set_option linter.all false
set_option maxRecDepth 100000
set_option maxHeartbeats 8000000
namespace K04
open PySem Co
def stD (t : Tm) : D := match t.st with
  | some u => enc u
  | none => .none
theorem max0 (i : Nat) : b2D .max (.int 0) (.int ((i : Int) - 1)) = some (.int ((i - 1 : Nat) : Int)) := by
  show some (PyData.int (if (i : Int) - 1 > 0 then (i : Int) - 1 else 0)) = _
  congr 2
  split <;> omega
theorem stepped_ok (t : Tm) {n : Nat} (h : 2 * t.ht + 1 ≤ n) : callN tab g fuel n "stepped" [.fz (enc t)] = .ret (.fz (stD t)) [] := by
  obtain ⟨n, rfl⟩ : ∃ m, n = m + 1 := ⟨n - 1, by omega⟩
  rw [e_stepped]
  rcases t with i | i | a | ⟨a, b⟩ | a | a | ⟨a, b, c⟩
  · kernel_rfl
  · kernel_rfl
  · kernel_rfl
  · rcases a with i | i | a | ⟨a, a2⟩ | a | a | ⟨a, a2, a3⟩
    · kernel_rfl
    · kernel_rfl
    · have h1 := lets_ok [b] b.ht (fun x hx => by rw [List.mem_singleton.mp hx]; exact Nat.le_refl _) a 0 n (by simp only [Tm.ht] at h; omega)
      generalize callN tab g fuel n = cf at h1
      have i0 : ∀ x y z : D, ixD (.tuple [x, y, z]) (.int 0) = some x := fun x y z => by show L2.atI _ _ = _; exact at0
      have i1 : ∀ x y z : D, ixD (.tuple [x, y, z]) (.int 1) = some y := fun x y z => by show L2.atI _ _ = _; exact at1
      have i2 : ∀ x y z : D, ixD (.tuple [x, y, z]) (.int 2) = some z := fun x y z => by show L2.atI _ _ = _; exact at2
      have j0 : ∀ x y : D, ixD (.tuple [x, y]) (.int 0) = some x := fun x y => by show L2.atI _ _ = _; exact at0
      have j1 : ∀ x y : D, ixD (.tuple [x, y]) (.int 1) = some y := fun x y => by show L2.atI _ _ = _; exact at1
      have q1 : cmpD .eq (.str "use") (.str "use") = some true := by kernel_rfl
      have q2 : cmpD .eq (.str "fun") (.str "fun") = some true := by kernel_rfl
      have z2 : ((0 : Nat) : Int) = 0 := rfl
      rw [z2] at h1
      have h1 : cf "lets_at" [.fz (enc a), .fz (.tuple [enc b]), .fz (.int 0)] = .ret (.fz (enc (a.lt [b] 0 0))) [] := h1
      simp only [d_stepped, enc, ev_v, ev_rd, ev_g, ev_k, ev_bin, ev_cmp, ev_chain, ev_andE, ev_orE, ev_nt, ev_ife, ev_tup, ev_lst, ev_ix, ev_sl, ev_call, ev_callk, ev_own, ev_b1, ev_b2, ev_isi, ev_gin, ev_gix, ss_nil, ss_cons, ex_asg, ex_par, ex_ife, ex_ret, setTg_n, Es.ev, T.tst, I.ev, two_none, two_some, isRd, rdZ, vZ, List.getElem?_cons_zero, List.getElem?_cons_succ, R.bind_ok, ixF_fz, ixT, at0, at1, at2, ofD_some, liftO_some, nonBw_w, cmpT_fz, Z.dat_fz, Fl.of_ok, dc1, dc2, dc3, dc4, dca1, dca2, dca3, dca4, dcaO1, dcaO2, po1, po2, po3, po4, io_fz, wdat, tup0, tup1, tup2, tup3, tup4, lst0, lst1, lst3, i0, i1, i2, j0, j1, q1, q2, if_true, h1] <;> rfl
    · kernel_rfl
    · kernel_rfl
    · kernel_rfl
    · kernel_rfl
  · rcases a with i | i | a | ⟨a, a2⟩ | a | a | ⟨a, a2, a3⟩
    · kernel_rfl
    · kernel_rfl
    · kernel_rfl
    · kernel_rfl
    · kernel_rfl
    · kernel_rfl
    · kernel_rfl
  · rcases a with i | i | a | ⟨a, a2⟩ | a | a | ⟨a, a2, a3⟩
    · kernel_rfl
    · generalize callN tab g fuel n = cf
      have j0 : ∀ x y : D, ixD (.tuple [x, y]) (.int 0) = some x := fun x y => by show L2.atI _ _ = _; exact at0
      have j1 : ∀ x y : D, ixD (.tuple [x, y]) (.int 1) = some y := fun x y => by show L2.atI _ _ = _; exact at1
      have q1 : cmpD .eq (.str "down") (.str "use") = some false := by kernel_rfl
      have q2 : cmpD .isin (.str "down") (.tuple [.str "up", .str "down", .str "if"]) = some true := by kernel_rfl
      have q3 : cmpD .eq (.str "num") (.str "num") = some true := by kernel_rfl
      have q4 : cmpD .eq (.str "down") (.str "if") = some false := by kernel_rfl
      have q5 : cmpD .eq (.str "down") (.str "up") = some false := by kernel_rfl
      simp only [d_stepped, enc, ev_v, ev_rd, ev_g, ev_k, ev_bin, ev_cmp, ev_chain, ev_andE, ev_orE, ev_nt, ev_ife, ev_tup, ev_lst, ev_ix, ev_sl, ev_call, ev_callk, ev_own, ev_b1, ev_b2, ev_isi, ev_gin, ev_gix, ss_nil, ss_cons, ex_asg, ex_par, ex_ife, ex_ret, setTg_n, Es.ev, T.tst, I.ev, two_none, two_some, isRd, rdZ, vZ, List.getElem?_cons_zero, List.getElem?_cons_succ, R.bind_ok, ixF_fz, ixT, at0, at1, at2, ofD_some, liftO_some, nonBw_w, cmpT_fz, Z.dat_fz, Fl.of_ok, dc1, dc2, dc3, dc4, dca1, dca2, dca3, dca4, dcaO1, dcaO2, po1, po2, po3, po4, io_fz, wdat, tup0, tup1, tup2, tup3, tup4, lst0, lst1, lst3, j0, j1, q1, q2, q3, q4, q5, Bool.false_eq_true, if_false, if_true, List.set_cons_succ, List.set_cons_zero, Fl.then_nx, binF_fz, subI, ofO_some, max0] <;> rfl
    · kernel_rfl
    · kernel_rfl
    · kernel_rfl
    · kernel_rfl
    · kernel_rfl
  · rcases a with i | i | a | ⟨a, a2⟩ | a | a | ⟨a, a2, a3⟩
    · kernel_rfl
    · generalize callN tab g fuel n = cf
      have i0 : ∀ x y z w : D, ixD (.tuple [x, y, z, w]) (.int 0) = some x := fun x y z w => by show L2.atI _ _ = _; exact at0
      have i1 : ∀ x y z w : D, ixD (.tuple [x, y, z, w]) (.int 1) = some y := fun x y z w => by show L2.atI _ _ = _; exact at1
      have i2 : ∀ x y z w : D, ixD (.tuple [x, y, z, w]) (.int 2) = some z := fun x y z w => by show L2.atI _ _ = _; exact at2
      have i3 : ∀ x y z w : D, ixD (.tuple [x, y, z, w]) (.int 3) = some w := fun x y z w => rfl
      have j0 : ∀ x y : D, ixD (.tuple [x, y]) (.int 0) = some x := fun x y => by show L2.atI _ _ = _; exact at0
      have j1 : ∀ x y : D, ixD (.tuple [x, y]) (.int 1) = some y := fun x y => by show L2.atI _ _ = _; exact at1
      have q1 : cmpD .eq (.str "if") (.str "use") = some false := by kernel_rfl
      have q2 : cmpD .isin (.str "if") (.tuple [.str "up", .str "down", .str "if"]) = some true := by kernel_rfl
      have q3 : cmpD .eq (.str "num") (.str "num") = some true := by kernel_rfl
      have q4 : cmpD .eq (.str "if") (.str "if") = some true := by kernel_rfl
      by_cases c0 : i = 0
      · subst c0
        have q6 : (((0 : Nat) : Int) == 0) = true := rfl
        simp only [d_stepped, enc, ev_v, ev_rd, ev_g, ev_k, ev_bin, ev_cmp, ev_chain, ev_andE, ev_orE, ev_nt, ev_ife, ev_tup, ev_lst, ev_ix, ev_sl, ev_call, ev_callk, ev_own, ev_b1, ev_b2, ev_isi, ev_gin, ev_gix, ss_nil, ss_cons, ex_asg, ex_par, ex_ife, ex_ret, setTg_n, Es.ev, T.tst, I.ev, two_none, two_some, isRd, rdZ, vZ, List.getElem?_cons_zero, List.getElem?_cons_succ, R.bind_ok, ixF_fz, ixT, at0, at1, at2, ofD_some, liftO_some, nonBw_w, cmpT_fz, Z.dat_fz, Fl.of_ok, dc1, dc2, dc3, dc4, dca1, dca2, dca3, dca4, dcaO1, dcaO2, po1, po2, po3, po4, io_fz, wdat, tup0, tup1, tup2, tup3, tup4, lst0, lst1, lst3, i0, i1, i2, i3, j0, j1, q1, q2, q3, q4, Bool.false_eq_true, if_false, if_true, List.set_cons_succ, List.set_cons_zero, Fl.then_nx, eq_int, q6] <;> rfl
      · have q6 : ((i : Int) == 0) = false := beq_false_of_ne (by omega)
        have e : stD (.iff (.num i) b c) = enc c := by
          show enc (if i = 0 then b else c) = _
          rw [if_neg c0]
        rw [e]
        simp only [d_stepped, enc, ev_v, ev_rd, ev_g, ev_k, ev_bin, ev_cmp, ev_chain, ev_andE, ev_orE, ev_nt, ev_ife, ev_tup, ev_lst, ev_ix, ev_sl, ev_call, ev_callk, ev_own, ev_b1, ev_b2, ev_isi, ev_gin, ev_gix, ss_nil, ss_cons, ex_asg, ex_par, ex_ife, ex_ret, setTg_n, Es.ev, T.tst, I.ev, two_none, two_some, isRd, rdZ, vZ, List.getElem?_cons_zero, List.getElem?_cons_succ, R.bind_ok, ixF_fz, ixT, at0, at1, at2, ofD_some, liftO_some, nonBw_w, cmpT_fz, Z.dat_fz, Fl.of_ok, dc1, dc2, dc3, dc4, dca1, dca2, dca3, dca4, dcaO1, dcaO2, po1, po2, po3, po4, io_fz, wdat, tup0, tup1, tup2, tup3, tup4, lst0, lst1, lst3, i0, i1, i2, i3, j0, j1, q1, q2, q3, q4, Bool.false_eq_true, if_false, if_true, List.set_cons_succ, List.set_cons_zero, Fl.then_nx, eq_int, q6] <;> rfl
    · kernel_rfl
    · kernel_rfl
    · kernel_rfl
    · kernel_rfl
    · kernel_rfl
theorem isN_enc (t : Tm) : isN (enc t) = false := by cases t <;> rfl
theorem isnot_st (t : Tm) : cmpD .isnot (stD t) .none = some t.st.isSome := by
  show some (true != isN (stD t)) = _
  unfold stD
  cases t.st with
  | none => rfl
  | some u => show some (true != isN (enc u)) = _; rw [isN_enc]; rfl
theorem spots_lc (cf : CF) (t : Tm) (hz : t.sz ≤ 900000) (h1 : cf "places_in" [.fz (enc t)] = .ret (.fz (.list (t.pl.map plD))) []) (h2 : ∀ p x, t.pt p = some x → cf "part_in" [.fz (enc t), .fz (plD p)] = .ret (.fz (enc x)) []) (h3 : ∀ p x, t.pt p = some x → cf "stepped" [.fz (enc x)] = .ret (.fz (stD x)) []) :
    E.ev cf g (.lc [("place", 1)] (.n 1) (.seq (.call "places_in" (.cons (.v 0) .nil))) (.cmp .isnot (.call "stepped" (.cons (.call "part_in" (.cons (.v 0) (.cons (.v 1) .nil))) .nil)) (.k .none)) (.v 1)) [some (.fz (enc t)), none] = .ok (.w (.own (plO t.spots))) [some (.fz (enc t)), none] := by
  have hit : I.ev cf g (.seq (.call "places_in" (.cons (.v 0) .nil))) [some (.fz (enc t)), none] = .ok (t.pl.map plD) [some (.fz (enc t)), none] := by
    simp only [ev_v, ev_rd, ev_g, ev_k, ev_bin, ev_cmp, ev_chain, ev_andE, ev_orE, ev_nt, ev_ife, ev_tup, ev_lst, ev_ix, ev_sl, ev_call, ev_callk, ev_own, ev_b1, ev_b2, ev_isi, ev_gin, ev_gix, ss_nil, ss_cons, ex_asg, ex_par, ex_ife, ex_ret, setTg_n, Es.ev, T.tst, I.ev, two_none, two_some, isRd, rdZ, vZ, List.getElem?_cons_zero, List.getElem?_cons_succ, R.bind_ok, ixF_fz, ixT, at0, at1, at2, ofD_some, liftO_some, nonBw_w, cmpT_fz, Z.dat_fz, Fl.of_ok, dc1, dc2, dc3, dc4, dca1, dca2, dca3, dca4, dcaO1, dcaO2, po1, po2, po3, po4, io_fz, wdat, tup0, tup1, tup2, tup3, tup4, lst0, lst1, lst3, h1] <;> rfl
  have key := lc_filter (cf := cf) (g := g) (i := 1) (nm := "place") (c := .cmp .isnot (.call "stepped" (.cons (.call "part_in" (.cons (.v 0) (.cons (.v 1) .nil))) .nil)) (.k .none)) (e := .v 1) (ρ := [some (.fz (enc t)), none]) (P := fun d => t.pl.any fun p => (plD p).eqv d && (t.sa p).isSome) (f := fun d => .d d) hit (by rw [List.length_map, pl_len]; omega) (by
    intro d hd
    obtain ⟨p, hp, rfl⟩ := List.mem_map.mp hd
    obtain ⟨x, hx⟩ := Option.isSome_iff_exists.mp ((pt_mem p t).mp hp)
    have eP : (t.pl.any fun q => (plD q).eqv (plD p) && (t.sa q).isSome) = x.st.isSome := by
      have es : (t.sa p).isSome = x.st.isSome := by rw [pt_sa p t x hx]; simp
      have hq : ∀ q, (plD q).eqv (plD p) = decide (q = p) := fun q => eqv_ints q p
      cases hs : x.st.isSome with
      | true => exact List.any_eq_true.mpr ⟨p, hp, by rw [hq, es, hs]; simp⟩
      | false =>
        refine Bool.eq_false_iff.mpr fun z => ?_
        obtain ⟨q, _, h2⟩ := List.any_eq_true.mp z
        rw [hq] at h2
        obtain ⟨h3, h4⟩ := Bool.and_eq_true_iff.mp h2
        rw [of_decide_eq_true h3, es, hs] at h4
        cases h4
    refine ⟨?_, fun _ => ⟨.fz (plD p), rfl, rfl⟩⟩
    rw [eP]
    simp only [ev_v, ev_rd, ev_g, ev_k, ev_bin, ev_cmp, ev_chain, ev_andE, ev_orE, ev_nt, ev_ife, ev_tup, ev_lst, ev_ix, ev_sl, ev_call, ev_callk, ev_own, ev_b1, ev_b2, ev_isi, ev_gin, ev_gix, ss_nil, ss_cons, ex_asg, ex_par, ex_ife, ex_ret, setTg_n, Es.ev, T.tst, I.ev, two_none, two_some, isRd, rdZ, vZ, List.getElem?_cons_zero, List.getElem?_cons_succ, R.bind_ok, ixF_fz, ixT, at0, at1, at2, ofD_some, liftO_some, nonBw_w, cmpT_fz, Z.dat_fz, Fl.of_ok, dc1, dc2, dc3, dc4, dca1, dca2, dca3, dca4, dcaO1, dcaO2, po1, po2, po3, po4, io_fz, wdat, tup0, tup1, tup2, tup3, tup4, lst0, lst1, lst3, List.set_cons_succ, List.set_cons_zero, h2 p x hx, h3 p x hx, isnot_st])
  rw [key]
  have ef : ((t.pl.map plD).filter fun d => t.pl.any fun p => (plD p).eqv d && (t.sa p).isSome) = t.spots.map plD := by
    rw [List.filter_map]
    congr 1
    apply List.filter_congr
    intro p hp
    show (t.pl.any fun q => (plD q).eqv (plD p) && (t.sa q).isSome) = (t.sa p).isSome
    have hq : ∀ q, (plD q).eqv (plD p) = decide (q = p) := fun q => eqv_ints q p
    cases hs : (t.sa p).isSome with
    | true => exact List.any_eq_true.mpr ⟨p, hp, by rw [hq, hs]; simp⟩
    | false =>
      refine Bool.eq_false_iff.mpr fun z => ?_
      obtain ⟨q, _, h2⟩ := List.any_eq_true.mp z
      rw [hq] at h2
      obtain ⟨h3, h4⟩ := Bool.and_eq_true_iff.mp h2
      rw [of_decide_eq_true h3, hs] at h4
      cases h4
  rw [ef, List.map_map]
  rfl
theorem pt_ht (t x : Tm) (p : List Nat) (h : t.pt p = some x) : p.length + x.ht ≤ t.ht := (pt_small p t x h).2
theorem spots_ok {n : Nat} (t : Tm) (hn : 2 * t.ht + 2 ≤ n) (hh : t.ht ≤ 900) (hz : t.sz ≤ 900000) : callN tab g fuel n "spots_in" [.fz (enc t)] = .ret (.own (plO t.spots)) [] := by
  obtain ⟨n, rfl⟩ : ∃ m, n = m + 1 := ⟨n - 1, by omega⟩
  rw [e_spots_in]
  have h := spots_lc (callN tab g fuel n) t hz (pl_ok n t (by omega) hh hz) (fun p x hx => pi_ok t x p hx (by omega)) (fun p x hx => stepped_ok x (by have := pt_ht t x p hx; omega))
  generalize callN tab g fuel n = cf at h
  show finish [] (Ss.ex cf g fuel (.cons (.ret _) .nil) _) = _
  rw [ss_cons, ex_ret, h]
  rfl
theorem step_places_ok {n : Nat} (t : Tm) (hn : 2 * t.ht + 4 ≤ n) (hh : t.ht ≤ 900) (hz : t.sz ≤ 900000) : callN tab g fuel n "step_places" [.fz (enc t)] = .ret (.own (plO t.spots)) [] := by
  obtain ⟨n, rfl⟩ : ∃ m, n = m + 1 := ⟨n - 1, by omega⟩
  obtain ⟨m, rfl⟩ : ∃ m, n = m + 1 := ⟨n - 1, by omega⟩
  rw [e_step_places]
  have h1 := sure_ok (n := m) (enc t) t (tupled_ok t m (by omega)) (by omega)
  have h2 := spots_ok (n := m + 1) t (by omega) hh hz
  generalize callN tab g fuel (m + 1) = cf at h1 h2
  simp only [d_step_places, ev_v, ev_rd, ev_g, ev_k, ev_bin, ev_cmp, ev_chain, ev_andE, ev_orE, ev_nt, ev_ife, ev_tup, ev_lst, ev_ix, ev_sl, ev_call, ev_callk, ev_own, ev_b1, ev_b2, ev_isi, ev_gin, ev_gix, ss_nil, ss_cons, ex_asg, ex_par, ex_ife, ex_ret, setTg_n, Es.ev, T.tst, I.ev, two_none, two_some, isRd, rdZ, vZ, List.getElem?_cons_zero, List.getElem?_cons_succ, R.bind_ok, ixF_fz, ixT, at0, at1, at2, ofD_some, liftO_some, nonBw_w, cmpT_fz, Z.dat_fz, Fl.of_ok, dc1, dc2, dc3, dc4, dca1, dca2, dca3, dca4, dcaO1, dcaO2, po1, po2, po3, po4, io_fz, wdat, tup0, tup1, tup2, tup3, tup4, lst0, lst1, lst3, h1, h2] <;> rfl
end K04

set_option Elab.async false
set_option linter.all false
set_option maxRecDepth 100000
set_option maxHeartbeats 8000000
namespace K04
open PySem Co
theorem is_among_ok {n : Nat} (i : Nat) (hi : i ≤ 2) (hn : 2 ≤ n) : callN tab g fuel n "is_among" [.fz (.int i), .fz (.int 0), .fz (.int 2)] = .ret (.fz (.bool true)) [] := by
  obtain ⟨n, rfl⟩ : ∃ m, n = m + 1 := ⟨n - 1, by omega⟩
  have c1 : (0 : Int) ≤ i := by omega
  have c2 : (i : Int) ≤ 2 := by omega
  rw [e_is_among]
  simp only [d_is_among, ev_v, ev_rd, ev_g, ev_k, ev_bin, ev_cmp, ev_chain, ev_andE, ev_orE, ev_nt, ev_ife, ev_tup, ev_lst, ev_ix, ev_sl, ev_call, ev_callk, ev_own, ev_b1, ev_b2, ev_isi, ev_gin, ev_gix, ss_nil, ss_cons, ex_asg, ex_par, ex_ife, ex_ret, setTg_n, Es.ev, T.tst, I.ev, two_none, two_some, isRd, rdZ, vZ, List.getElem?_cons_zero, List.getElem?_cons_succ, R.bind_ok, ixF_fz, ixT, at0, at1, at2, ofD_some, liftO_some, nonBw_w, cmpT_fz, Z.dat_fz, Fl.of_ok, dc1, dc2, dc3, dc4, dca1, dca2, dca3, dca4, dcaO1, dcaO2, po1, po2, po3, po4, io_fz, wdat, tup0, tup1, tup2, tup3, tup4, lst0, lst1, lst3, is_number_int _ (show 1 ≤ n by omega), trB, if_true, cmp_le, decide_eq_true c1, decide_eq_true c2, map_bool] <;> rfl
theorem are_among_ok {n : Nat} (p : List Nat) (hp : ∀ i ∈ p, i ≤ 2) (hl : p.length ≤ 900) (hn : 3 ≤ n) : callN tab g fuel n "are_among" [.fz (plD p), .fz (.int 0), .fz (.int 2)] = .ret (.fz (.bool true)) [] := by
  obtain ⟨n, rfl⟩ : ∃ m, n = m + 1 := ⟨n - 1, by omega⟩
  rw [e_are_among]
  have hc := fun i hi => is_among_ok (n := n) i hi (by omega)
  generalize callN tab g fuel n = cf at hc
  have hlc : E.ev cf g (.lc [("own", 3)] (.n 3) (.seq (.v 0)) .yes (.call "is_among" (.cons (.v 3) (.cons (.v 1) (.cons (.v 2) .nil))))) [some (.fz (plD p)), some (.fz (.int 0)), some (.fz (.int 2)), none] = .ok (.w (.own (.l ((List.replicate p.length (.bool true)).map .d)))) [some (.fz (plD p)), some (.fz (.int 0)), some (.fz (.int 2)), none] := by
    refine lc_map (ds := p.map fun i : Nat => PyData.int i) (ρ := [some (.fz (plD p)), some (.fz (.int 0)), some (.fz (.int 2)), none]) rfl (by rw [List.length_map]; omega) (fun d e hde => ?_) (by simp)
    have h1 := (List.of_mem_zip hde).1
    have h2 := (List.of_mem_zip hde).2
    obtain ⟨i, hi, rfl⟩ := List.mem_map.mp h1
    obtain ⟨b, hb, rfl⟩ := List.mem_map.mp h2
    rw [List.eq_of_mem_replicate hb]
    refine ⟨.fz (.bool true), ?_, rfl⟩
    simp only [ev_v, ev_rd, ev_g, ev_k, ev_bin, ev_cmp, ev_chain, ev_andE, ev_orE, ev_nt, ev_ife, ev_tup, ev_lst, ev_ix, ev_sl, ev_call, ev_callk, ev_own, ev_b1, ev_b2, ev_isi, ev_gin, ev_gix, ss_nil, ss_cons, ex_asg, ex_par, ex_ife, ex_ret, setTg_n, Es.ev, T.tst, I.ev, two_none, two_some, isRd, rdZ, vZ, List.getElem?_cons_zero, List.getElem?_cons_succ, R.bind_ok, ixF_fz, ixT, at0, at1, at2, ofD_some, liftO_some, nonBw_w, cmpT_fz, Z.dat_fz, Fl.of_ok, dc1, dc2, dc3, dc4, dca1, dca2, dca3, dca4, dcaO1, dcaO2, po1, po2, po3, po4, io_fz, wdat, tup0, tup1, tup2, tup3, tup4, lst0, lst1, lst3, List.set_cons_succ, List.set_cons_zero, hc i (hp i hi)]
  have i1 : ∀ ρ, isiF [.tuple] (plD p) ρ = .ok (.w (.fz (.bool true))) ρ := fun _ => rfl
  have s0 : S.ex cf g fuel (.ret (.andE (.isi (.rd 0) [.tuple]) (.b1 .all (.lc [("own", 3)] (.n 3) (.seq (.v 0)) .yes (.call "is_among" (.cons (.v 3) (.cons (.v 1) (.cons (.v 2) .nil)))))))) [some (.fz (plD p)), some (.fz (.int 0)), some (.fz (.int 2)), none] = .rt (.fz (.bool true)) [some (.fz (plD p)), some (.fz (.int 0)), some (.fz (.int 2)), none] := by
    rw [ex_ret, ev_andE, ev_isi, ev_rd]
    show Fl.of ((isiF [.tuple] (plD p) [some (.fz (plD p)), some (.fz (.int 0)), some (.fz (.int 2)), none]).bind _) _ = _
    rw [i1]
    show Fl.of (E.ev cf g (.b1 .all _) _) _ = _
    rw [ev_b1, hlc, R.bind_ok, b1_all]
    rfl
  show finish [] (Ss.ex cf g fuel (.cons (.ret _) .nil) _) = _
  rw [ss_rt s0]
  rfl
theorem tup_pl {n : Nat} (p : List Nat) (hl : p.length ≤ 900) (hn : 2 ≤ n) : callN tab g fuel n "tupled" [.fz (plD p)] = .ret (.fz (plD p)) [] := by
  obtain ⟨n, rfl⟩ : ∃ m, n = m + 1 := ⟨n - 1, by omega⟩
  refine tup_step _ (p.map fun i : Nat => PyData.int i) (p.map fun i : Nat => PyData.int i) (.inl rfl) (by rw [List.length_map]; exact hl) rfl fun x r hm => ?_
  obtain ⟨i, h1, rfl, rfl⟩ := zipm2 (fun i : Nat => PyData.int i) (fun i : Nat => PyData.int i) p x r hm
  exact tup_int _ (by omega)
theorem sure_place_ok {n : Nat} (t x : Tm) (p : List Nat) (h : t.pt p = some x) (hh : t.ht ≤ 900) (hn : 4 ≤ n) : callN tab g fuel n "sure_place" [.fz (enc t), .fz (plD p)] = .ret (.fz (plD p)) [] := by
  obtain ⟨n, rfl⟩ : ∃ m, n = m + 1 := ⟨n - 1, by omega⟩
  obtain ⟨h1, h2⟩ := pt_small p t x h
  have a1 := tup_pl (n := n) p (by omega) (by omega)
  have a2 := are_among_ok (n := n) p h1 (by omega) (by omega)
  have a3 := ip_ok (n := n) t x p h (by omega)
  rw [e_sure_place]
  generalize callN tab g fuel n = cf at a1 a2 a3
  simp only [d_sure_place, ev_v, ev_rd, ev_g, ev_k, ev_bin, ev_cmp, ev_chain, ev_andE, ev_orE, ev_nt, ev_ife, ev_tup, ev_lst, ev_ix, ev_sl, ev_call, ev_callk, ev_own, ev_b1, ev_b2, ev_isi, ev_gin, ev_gix, ss_nil, ss_cons, ex_asg, ex_par, ex_ife, ex_ret, setTg_n, Es.ev, T.tst, I.ev, two_none, two_some, isRd, rdZ, vZ, List.getElem?_cons_zero, List.getElem?_cons_succ, R.bind_ok, ixF_fz, ixT, at0, at1, at2, ofD_some, liftO_some, nonBw_w, cmpT_fz, Z.dat_fz, Fl.of_ok, dc1, dc2, dc3, dc4, dca1, dca2, dca3, dca4, dcaO1, dcaO2, po1, po2, po3, po4, io_fz, wdat, tup0, tup1, tup2, tup3, tup4, lst0, lst1, lst3, a1, List.set_cons_succ, List.set_cons_zero, Fl.then_nx, a2, a3, trB, Bool.not_true, Bool.false_eq_true, if_false] <;> rfl
theorem step_in_ok {n : Nat} (t u : Tm) (p : List Nat) (h : t.sa p = some u) (hn : 2 * t.ht + 2 ≤ n) : callN tab g fuel n "step_in" [.fz (enc t), .fz (plD p)] = .ret (.fz (enc u)) [] := by
  obtain ⟨n, rfl⟩ : ∃ m, n = m + 1 := ⟨n - 1, by omega⟩
  obtain ⟨x, y, h1, h2, rfl⟩ := sa_pt p t u h
  have hp := pt_ht t x p h1
  have a1 := pi_ok (n := n) t x p h1 (by omega)
  have a2 := stepped_ok x (n := n) (by omega)
  have a3 := put_ok p t x y n h1 (by omega)
  have e : stD x = enc y := by unfold stD; rw [h2]
  rw [e] at a2
  rw [e_step_in]
  generalize callN tab g fuel n = cf at a1 a2 a3
  simp only [d_step_in, ev_v, ev_rd, ev_g, ev_k, ev_bin, ev_cmp, ev_chain, ev_andE, ev_orE, ev_nt, ev_ife, ev_tup, ev_lst, ev_ix, ev_sl, ev_call, ev_callk, ev_own, ev_b1, ev_b2, ev_isi, ev_gin, ev_gix, ss_nil, ss_cons, ex_asg, ex_par, ex_ife, ex_ret, setTg_n, Es.ev, T.tst, I.ev, two_none, two_some, isRd, rdZ, vZ, List.getElem?_cons_zero, List.getElem?_cons_succ, R.bind_ok, ixF_fz, ixT, at0, at1, at2, ofD_some, liftO_some, nonBw_w, cmpT_fz, Z.dat_fz, Fl.of_ok, dc1, dc2, dc3, dc4, dca1, dca2, dca3, dca4, dcaO1, dcaO2, po1, po2, po3, po4, io_fz, wdat, tup0, tup1, tup2, tup3, tup4, lst0, lst1, lst3, a1, a2, a3] <;> rfl
theorem is_enc (t : Tm) : cmpD .is (enc t) .none = some false := by
  show some (false != isN (enc t)) = _
  rw [isN_enc]; rfl
theorem step_at_ok {n : Nat} (t u : Tm) (p : List Nat) (h : t.sa p = some u) (hh : t.ht ≤ 900) (hn : 2 * t.ht + 6 ≤ n) : callN tab g fuel n "step_at" [.fz (enc t), .fz (plD p)] = .ret (.fz (enc u)) [] := by
  obtain ⟨n, rfl⟩ : ∃ m, n = m + 1 := ⟨n - 1, by omega⟩
  obtain ⟨m, rfl⟩ : ∃ m, n = m + 1 := ⟨n - 1, by omega⟩
  obtain ⟨x, y, h1, h2, h3⟩ := sa_pt p t u h
  have hp := pt_ht t x p h1
  have a0 := sure_ok (n := m) (enc t) t (tupled_ok t m (by omega)) (by omega)
  have a1 := sure_place_ok (n := m + 1) t x p h1 hh (by omega)
  have a2 := pi_ok (n := m + 1) t x p h1 (by omega)
  have a3 := stepped_ok x (n := m + 1) (by omega)
  have a4 := step_in_ok (n := m + 1) t u p h (by omega)
  have e : stD x = enc y := by unfold stD; rw [h2]
  rw [e] at a3
  rw [e_step_at]
  generalize callN tab g fuel (m + 1) = cf at a0 a1 a2 a3 a4
  simp only [d_step_at, ev_v, ev_rd, ev_g, ev_k, ev_bin, ev_cmp, ev_chain, ev_andE, ev_orE, ev_nt, ev_ife, ev_tup, ev_lst, ev_ix, ev_sl, ev_call, ev_callk, ev_own, ev_b1, ev_b2, ev_isi, ev_gin, ev_gix, ss_nil, ss_cons, ex_asg, ex_par, ex_ife, ex_ret, setTg_n, Es.ev, T.tst, I.ev, two_none, two_some, isRd, rdZ, vZ, List.getElem?_cons_zero, List.getElem?_cons_succ, R.bind_ok, ixF_fz, ixT, at0, at1, at2, ofD_some, liftO_some, nonBw_w, cmpT_fz, Z.dat_fz, Fl.of_ok, dc1, dc2, dc3, dc4, dca1, dca2, dca3, dca4, dcaO1, dcaO2, po1, po2, po3, po4, io_fz, wdat, tup0, tup1, tup2, tup3, tup4, lst0, lst1, lst3, a0, a1, a2, a3, a4, is_enc, List.set_cons_succ, List.set_cons_zero, Fl.then_nx, Bool.false_eq_true, if_false] <;> rfl
theorem part_at_ok {n : Nat} (t : Tm) (hh : t.ht ≤ 900) (hn : t.ht + 6 ≤ n) : callN tab g fuel n "part_at" [.fz (enc t), .fz (.tuple [])] = .ret (.fz (enc t)) [] := by
  obtain ⟨n, rfl⟩ : ∃ m, n = m + 1 := ⟨n - 1, by omega⟩
  obtain ⟨m, rfl⟩ : ∃ m, n = m + 1 := ⟨n - 1, by omega⟩
  have a0 := sure_ok (n := m) (enc t) t (tupled_ok t m (by omega)) (by omega)
  have a1 : callN tab g fuel (m + 1) "sure_place" [.fz (enc t), .fz (.tuple [])] = .ret (.fz (.tuple [])) [] := sure_place_ok (n := m + 1) t t [] rfl hh (by omega)
  have a2 : callN tab g fuel (m + 1) "part_in" [.fz (enc t), .fz (.tuple [])] = .ret (.fz (enc t)) [] := pi_ok (n := m + 1) t t [] rfl (by omega)
  rw [e_part_at]
  generalize callN tab g fuel (m + 1) = cf at a0 a1 a2
  simp only [d_part_at, ev_v, ev_rd, ev_g, ev_k, ev_bin, ev_cmp, ev_chain, ev_andE, ev_orE, ev_nt, ev_ife, ev_tup, ev_lst, ev_ix, ev_sl, ev_call, ev_callk, ev_own, ev_b1, ev_b2, ev_isi, ev_gin, ev_gix, ss_nil, ss_cons, ex_asg, ex_par, ex_ife, ex_ret, setTg_n, Es.ev, T.tst, I.ev, two_none, two_some, isRd, rdZ, vZ, List.getElem?_cons_zero, List.getElem?_cons_succ, R.bind_ok, ixF_fz, ixT, at0, at1, at2, ofD_some, liftO_some, nonBw_w, cmpT_fz, Z.dat_fz, Fl.of_ok, dc1, dc2, dc3, dc4, dca1, dca2, dca3, dca4, dcaO1, dcaO2, po1, po2, po3, po4, io_fz, wdat, tup0, tup1, tup2, tup3, tup4, lst0, lst1, lst3, a0, a1, a2, List.set_cons_succ, List.set_cons_zero, Fl.then_nx] <;> rfl
/-! ### letters -/
def zI (ns : List Nat) : List Int := ns.map fun i : Nat => (i : Int)
def setD (ns : List Nat) : D := .tuple ((ssetI (zI ns)).map .int)
theorem sset_small (ns : List Nat) (m : Nat) (h : ∀ x ∈ ns, x + 1 ≤ m) : (ssetI (zI ns)).length ≤ m := by
  have h1 := sset_pw (zI ns)
  have h2 : (ssetI (zI ns)).Nodup := h1.imp fun h => by omega
  have := nodup_le (ssetI (zI ns)) (zI (List.range m)) h2 fun x hx => by
    have := (sset_mem _ _).mp hx
    obtain ⟨i, hi, rfl⟩ := List.mem_map.mp this
    exact List.mem_map.mpr ⟨i, List.mem_range.mpr (h i hi), rfl⟩
  unfold zI at this
  rw [List.length_map, List.length_range] at this
  exact this
theorem ssetD_ok (ns : List Nat) (m : Nat) (h : ∀ x ∈ ns, x + 1 ≤ m) (hm : m ≤ 60) (hl : ns.length ≤ 2000) : ssetD (.list (iD ns)) = some (.own (.l (((ssetI (zI ns)).map PyData.int).map .d))) := by
  have h1 := sset_small ns m h
  have e : intsD (iD ns) = some (zI ns) := ints_iD ns
  show (intsD (iD ns)).bind _ = _
  rw [e]
  show (if (zI ns).length ≤ 2000 && decide ((ssetI (zI ns)).length < 64) then _ else _) = _
  have l1 : (zI ns).length ≤ 2000 := by unfold zI; rw [List.length_map]; exact hl
  rw [decide_eq_true l1, decide_eq_true (show (ssetI (zI ns)).length < 64 by omega)]
  rfl
theorem ev_sset (cf : CF) (gg : G) (a : E) (ρ : Co.Env) : E.ev cf gg (.sset a) ρ = (a.ev cf gg ρ).bind fun za ρ1 => ofO (ssetD za.dat) ρ1 := rfl
theorem set_ok {n : Nat} (ns : List Nat) (m : Nat) (h : ∀ x ∈ ns, x + 1 ≤ m) (hm : m ≤ 60) (hl : ns.length ≤ 2000) (hn : 1 ≤ n) : callN tab g fuel n "_law_set" [.fz (.list (iD ns))] = .ret (.fz (setD ns)) [] := by
  obtain ⟨n, rfl⟩ : ∃ m, n = m + 1 := ⟨n - 1, by omega⟩
  rw [e__law_set]
  simp only [d__law_set, ev_v, ev_rd, ev_g, ev_k, ev_bin, ev_cmp, ev_chain, ev_andE, ev_orE, ev_nt, ev_ife, ev_tup, ev_lst, ev_ix, ev_sl, ev_call, ev_callk, ev_own, ev_b1, ev_b2, ev_isi, ev_gin, ev_gix, ss_nil, ss_cons, ex_asg, ex_par, ex_ife, ex_ret, setTg_n, Es.ev, T.tst, I.ev, two_none, two_some, isRd, rdZ, vZ, List.getElem?_cons_zero, List.getElem?_cons_succ, R.bind_ok, ixF_fz, ixT, at0, at1, at2, ofD_some, liftO_some, nonBw_w, cmpT_fz, Z.dat_fz, Fl.of_ok, dc1, dc2, dc3, dc4, dca1, dca2, dca3, dca4, dcaO1, dcaO2, po1, po2, po3, po4, io_fz, wdat, tup0, tup1, tup2, tup3, tup4, lst0, lst1, lst3, ev_sset, ssetD_ok ns m h hm hl, ofO_some, b1_tup] <;> rfl
theorem free_letters_ok {n : Nat} (t : Tm) (m : Nat) (h : ∀ x ∈ t.fr 0, x + 1 ≤ m) (hm : m ≤ 60) (hz : t.sz ≤ 2000) (hn : t.ht + 4 ≤ n) : callN tab g fuel n "free_letters" [.fz (enc t)] = .ret (.fz (setD (t.fr 0))) [] := by
  obtain ⟨n, rfl⟩ : ∃ m, n = m + 1 := ⟨n - 1, by omega⟩
  obtain ⟨k, rfl⟩ : ∃ m, n = m + 1 := ⟨n - 1, by omega⟩
  have a0 := sure_ok (n := k) (enc t) t (tupled_ok t k (by omega)) (by omega)
  obtain ⟨w, f1, f2, f3, f4⟩ := letters_ok t 0 (k + 1) (by omega) (by omega)
  have z0 : ((0 : Nat) : Int) = 0 := rfl
  rw [z0] at f1
  have hfl := fr_len t 0
  rw [e_free_letters]
  generalize callN tab g fuel (k + 1) = cf at a0 f1
  have hcall : ∀ ρ, doCall cf "letters_in" [.a (.fz (enc t)), .a (.fz (.int 0))] ρ = .ok (.w w) ρ := fun ρ => by
    rw [doCall_eq cf "letters_in" [.a (.fz (enc t)), .a (.fz (.int 0))] ρ ρ [.fz (enc t), .fz (.int 0)] rfl rfl, f1]
    exact dcA_nil _ _ _ _ f3 rfl
  have zd : (Z.w w).dat = .list (iD (t.fr 0)) := f2
  have hev : E.ev cf g (.sset (.call "letters_in" (.cons (.call "sure_term" (.cons (.v 0) .nil)) (.cons (.k (.int 0)) .nil)))) [some (.fz (enc t))] = .ok (.w (.own (.l (((ssetI (zI (t.fr 0))).map PyData.int).map .d)))) [some (.fz (enc t))] := by
    rw [ev_sset, ev_call]
    have : Es.ev cf g (.cons (.call "sure_term" (.cons (.v 0) .nil)) (.cons (.k (.int 0)) .nil)) [some (.fz (enc t))] = .ok [.a (.fz (enc t)), .a (.fz (.int 0))] [some (.fz (enc t))] := by
      simp only [ev_v, ev_rd, ev_g, ev_k, ev_bin, ev_cmp, ev_chain, ev_andE, ev_orE, ev_nt, ev_ife, ev_tup, ev_lst, ev_ix, ev_sl, ev_call, ev_callk, ev_own, ev_b1, ev_b2, ev_isi, ev_gin, ev_gix, ss_nil, ss_cons, ex_asg, ex_par, ex_ife, ex_ret, setTg_n, Es.ev, T.tst, I.ev, two_none, two_some, isRd, rdZ, vZ, List.getElem?_cons_zero, List.getElem?_cons_succ, R.bind_ok, ixF_fz, ixT, at0, at1, at2, ofD_some, liftO_some, nonBw_w, cmpT_fz, Z.dat_fz, Fl.of_ok, dc1, dc2, dc3, dc4, dca1, dca2, dca3, dca4, dcaO1, dcaO2, po1, po2, po3, po4, io_fz, wdat, tup0, tup1, tup2, tup3, tup4, lst0, lst1, lst3, a0]
    rw [this, R.bind_ok, hcall, R.bind_ok, zd, ssetD_ok (t.fr 0) m h hm (by omega)]
    rfl
  show finish [] (Ss.ex cf g fuel (.cons (.ret (.b1 .tuple _)) .nil) _) = _
  rw [ss_cons, ex_ret, ev_b1, hev, R.bind_ok, b1_tup]
  rfl
theorem is_closed_ok {n : Nat} (t : Tm) (h : t.fr 0 = []) (hz : t.sz ≤ 2000) (hn : t.ht + 4 ≤ n) : callN tab g fuel n "is_closed" [.fz (enc t)] = .ret (.fz (.bool true)) [] := by
  obtain ⟨n, rfl⟩ : ∃ m, n = m + 1 := ⟨n - 1, by omega⟩
  obtain ⟨k, rfl⟩ : ∃ m, n = m + 1 := ⟨n - 1, by omega⟩
  have a0 := sure_ok (n := k) (enc t) t (tupled_ok t k (by omega)) (by omega)
  obtain ⟨w, f1, f2, f3, f4⟩ := letters_ok t 0 (k + 1) (by omega) (by omega)
  have z0 : ((0 : Nat) : Int) = 0 := rfl
  rw [z0] at f1
  rw [h] at f2
  rw [e_is_closed]
  generalize callN tab g fuel (k + 1) = cf at a0 f1
  have hcall : ∀ ρ, doCall cf "letters_in" [.a (.fz (enc t)), .a (.fz (.int 0))] ρ = .ok (.w w) ρ := fun ρ => by
    rw [doCall_eq cf "letters_in" [.a (.fz (enc t)), .a (.fz (.int 0))] ρ ρ [.fz (enc t), .fz (.int 0)] rfl rfl, f1]
    exact dcA_nil _ _ _ _ f3 rfl
  have hev : E.ev cf g (.call "letters_in" (.cons (.call "sure_term" (.cons (.v 0) .nil)) (.cons (.k (.int 0)) .nil))) [some (.fz (enc t))] = .ok (.w w) [some (.fz (enc t))] := by
    rw [ev_call]
    have : Es.ev cf g (.cons (.call "sure_term" (.cons (.v 0) .nil)) (.cons (.k (.int 0)) .nil)) [some (.fz (enc t))] = .ok [.a (.fz (enc t)), .a (.fz (.int 0))] [some (.fz (enc t))] := by
      simp only [ev_v, ev_rd, ev_g, ev_k, ev_bin, ev_cmp, ev_chain, ev_andE, ev_orE, ev_nt, ev_ife, ev_tup, ev_lst, ev_ix, ev_sl, ev_call, ev_callk, ev_own, ev_b1, ev_b2, ev_isi, ev_gin, ev_gix, ss_nil, ss_cons, ex_asg, ex_par, ex_ife, ex_ret, setTg_n, Es.ev, T.tst, I.ev, two_none, two_some, isRd, rdZ, vZ, List.getElem?_cons_zero, List.getElem?_cons_succ, R.bind_ok, ixF_fz, ixT, at0, at1, at2, ofD_some, liftO_some, nonBw_w, cmpT_fz, Z.dat_fz, Fl.of_ok, dc1, dc2, dc3, dc4, dca1, dca2, dca3, dca4, dcaO1, dcaO2, po1, po2, po3, po4, io_fz, wdat, tup0, tup1, tup2, tup3, tup4, lst0, lst1, lst3, a0]
    rw [this, R.bind_ok, hcall]
  show finish [] (Ss.ex cf g fuel (.cons (.ret (.cmp .eq _ (.lst .nil))) .nil) _) = _
  rw [ss_cons, ex_ret, ev_cmp]
  show finish [] ((Fl.of (two none _ _ _ _) _).then _) = _
  rw [two_none, hev]
  show finish [] ((Fl.of (cmpF .eq (.w w) (.w (.own (.l []))) [some (.fz (enc t))]) _).then _) = _
  have hc : cmpF .eq (.w w) (.w (.own (.l []))) [some (.fz (enc t))] = .ok (.w (.fz (.bool true))) [some (.fz (enc t))] := by
    show ofD ((cmpD .eq w.dat (.list [])).map .bool) _ = _
    rw [f2]
    rfl
  rw [hc]
  rfl
/-! ### heights -/
theorem maxI_kids (t : Tm) : maxI (0 :: t.kids.map fun a => (a.ht : Int)) = some ((t.ht : Int) - 1) := by
  cases t <;> simp [Tm.kids, maxI, Tm.ht] <;> omega
theorem deep_cf (cf : CF) (t : Tm) (hk : cf "_law_kids" [.fz (enc t)] = .ret (.fz (.tuple (t.kids.map enc))) []) (hr : ∀ a ∈ t.kids, cf "_law_deep" [.fz (enc a)] = .ret (.fz (.int ((a.ht : Int) - 1))) []) :
    finish [] (d__law_deep.body.ex cf g fuel [some (.fz (enc t)), none]) = .ret (.fz (.int ((t.ht : Int) - 1))) [] := by
  have hlc : E.ev cf g (.lc [("own", 1)] (.n 1) (.seq (.call "_law_kids" (.cons (.v 0) .nil))) .yes (.bin .add (.k (.int 1)) (.call "_law_deep" (.cons (.v 1) .nil)))) [some (.fz (enc t)), none] = .ok (.w (.own (.l (t.kids.map fun a => O.d (.int (a.ht : Int)))))) [some (.fz (enc t)), none] := by
    have hit : I.ev cf g (.seq (.call "_law_kids" (.cons (.v 0) .nil))) [some (.fz (enc t)), none] = .ok (t.kids.map enc) [some (.fz (enc t)), none] := by
      simp only [ev_v, ev_rd, ev_g, ev_k, ev_bin, ev_cmp, ev_chain, ev_andE, ev_orE, ev_nt, ev_ife, ev_tup, ev_lst, ev_ix, ev_sl, ev_call, ev_callk, ev_own, ev_b1, ev_b2, ev_isi, ev_gin, ev_gix, ss_nil, ss_cons, ex_asg, ex_par, ex_ife, ex_ret, setTg_n, Es.ev, T.tst, I.ev, two_none, two_some, isRd, rdZ, vZ, List.getElem?_cons_zero, List.getElem?_cons_succ, R.bind_ok, ixF_fz, ixT, at0, at1, at2, ofD_some, liftO_some, nonBw_w, cmpT_fz, Z.dat_fz, Fl.of_ok, dc1, dc2, dc3, dc4, dca1, dca2, dca3, dca4, dcaO1, dcaO2, po1, po2, po3, po4, io_fz, wdat, tup0, tup1, tup2, tup3, tup4, lst0, lst1, lst3, hk] <;> rfl
    refine lc_map (ρ := [some (.fz (enc t)), none]) hit (by rw [List.length_map]; have := kids_len t; omega) (fun d e hde => ?_) (by rw [List.length_map, List.length_map])
    obtain ⟨a, ha, rfl, rfl⟩ := zipm2 enc (fun a => O.d (.int (a.ht : Int))) t.kids d e hde
    refine ⟨.fz (.int (a.ht : Int)), ?_, rfl⟩
    have e1 : (1 : Int) + ((a.ht : Int) - 1) = a.ht := by omega
    simp only [ev_v, ev_rd, ev_g, ev_k, ev_bin, ev_cmp, ev_chain, ev_andE, ev_orE, ev_nt, ev_ife, ev_tup, ev_lst, ev_ix, ev_sl, ev_call, ev_callk, ev_own, ev_b1, ev_b2, ev_isi, ev_gin, ev_gix, ss_nil, ss_cons, ex_asg, ex_par, ex_ife, ex_ret, setTg_n, Es.ev, T.tst, I.ev, two_none, two_some, isRd, rdZ, vZ, List.getElem?_cons_zero, List.getElem?_cons_succ, R.bind_ok, ixF_fz, ixT, at0, at1, at2, ofD_some, liftO_some, nonBw_w, cmpT_fz, Z.dat_fz, Fl.of_ok, dc1, dc2, dc3, dc4, dca1, dca2, dca3, dca4, dcaO1, dcaO2, po1, po2, po3, po4, io_fz, wdat, tup0, tup1, tup2, tup3, tup4, lst0, lst1, lst3, List.set_cons_succ, List.set_cons_zero, hr a ha, binF_fz, addI, e1, ofO_some]
  have hadd : ∀ ρ, binF .add (.w (.own (.l [.d (.int 0)]))) (.w (.own (.l (t.kids.map fun a => O.d (.int (a.ht : Int)))))) ρ = .ok (.w (.own (.l ((PyData.int 0 :: t.kids.map fun a => PyData.int (a.ht : Int)).map .d)))) ρ := fun ρ => by
    have e1 : (t.kids.map fun a => O.d (.int (a.ht : Int))) = (t.kids.map fun a => PyData.int (a.ht : Int)).map .d := by rw [List.map_map]; rfl
    rw [e1]
    show (match (Z.w (.own (.l [.d (.int 0)]))).el, (plainO ((t.kids.map fun a => PyData.int (a.ht : Int)).map .d)).map PyData.list with
      | some x, some y => ofO (binD .add x y) ρ
      | _, _ => .bad) = _
    rw [plain_map]
    show ofO (if okLen (1 + (t.kids.map fun a => PyData.int (a.ht : Int)).length) then some (W.own (.l (([PyData.int 0] ++ t.kids.map fun a => PyData.int (a.ht : Int)).map .d))) else none) ρ = _
    have : okLen (1 + (t.kids.map fun a => PyData.int (a.ht : Int)).length) = true := decide_eq_true (by rw [sizeLine_eq, List.length_map]; have := kids_len t; omega)
    rw [if_pos this]
    rfl
  have hmax : ∀ ρ, b1F .max (.w (.own (.l ((PyData.int 0 :: t.kids.map fun a => PyData.int (a.ht : Int)).map .d)))) ρ = .ok (.w (.fz (.int ((t.ht : Int) - 1)))) ρ := fun ρ => by
    show ofO (b1D .max (.list (O.frzs ((PyData.int 0 :: t.kids.map fun a => PyData.int (a.ht : Int)).map .d)))) ρ = _
    rw [frz_map]
    have e1 : intsD (PyData.int 0 :: t.kids.map fun a => PyData.int (a.ht : Int)) = some (0 :: t.kids.map fun a => (a.ht : Int)) := by
      show (intsD _).map _ = _
      have : ∀ ks : List Tm, intsD (ks.map fun a => PyData.int (a.ht : Int)) = some (ks.map fun a => (a.ht : Int)) := by
        intro ks
        induction ks with
        | nil => rfl
        | cons k ks ih => show (intsD _).map _ = _; rw [ih]; rfl
      rw [this]; rfl
    show ofO ((intsD (PyData.int 0 :: t.kids.map fun a => PyData.int (a.ht : Int))).bind fun ns => (maxI ns).map fun m => .fz (.int m)) ρ = _
    rw [e1]
    show ofO ((maxI (0 :: t.kids.map fun a => (a.ht : Int))).map fun m => W.fz (.int m)) ρ = _
    rw [maxI_kids]
    rfl
  have hl : E.ev cf g (.lst (.cons (.k (.int 0)) .nil)) [some (.fz (enc t)), none] = .ok (.w (.own (.l [.d (.int 0)]))) [some (.fz (enc t)), none] := rfl
  show finish [] (Ss.ex cf g fuel (.cons (.ret (.b1 .max (.bin .add (.lst (.cons (.k (.int 0)) .nil)) _))) .nil) _) = _
  rw [ss_cons, ex_ret, ev_b1, ev_bin]
  show finish [] ((Fl.of ((two none _ _ _ _).bind _) _).then _) = _
  rw [two_none, hl, R.bind_ok, nonBw_w, R.bind_ok, hlc, R.bind_ok, hadd, R.bind_ok, hmax]
  rfl
theorem deep_ok : ∀ (n : Nat) (t : Tm), t.ht + 1 ≤ n → callN tab g fuel n "_law_deep" [.fz (enc t)] = .ret (.fz (.int ((t.ht : Int) - 1))) []
  | 0, t, h => by omega
  | n + 1, t, h => (e__law_deep n (enc t)).trans (deep_cf _ t (kids_ok t (by have := ht_pos t; omega)) fun a ha => deep_ok n a (by have := kids_ht t a ha; omega))
/-! ### the same -/
theorem same_bool {n : Nat} (b : Bool) (h : 1 ≤ n) : callN tab g fuel n "_law_same" [.fz (.bool b), .fz (.bool b)] = .ret (.fz (.bool true)) [] := by
  obtain ⟨n, rfl⟩ : ∃ m, n = m + 1 := ⟨n - 1, by omega⟩
  rw [e__law_same]
  cases b <;> kernel_rfl
theorem same_ints {n : Nat} (xs : List Int) (hl : xs.length ≤ 900) (h : 2 ≤ n) : callN tab g fuel n "_law_same" [.fz (.tuple (xs.map .int)), .fz (.tuple (xs.map .int))] = .ret (.fz (.bool true)) [] := by
  obtain ⟨n, rfl⟩ : ∃ m, n = m + 1 := ⟨n - 1, by omega⟩
  refine same_tuple _ (by rw [List.length_map]; exact hl) fun x hx => ?_
  obtain ⟨i, _, rfl⟩ := List.mem_map.mp hx
  exact same_int i (by omega)
end K04

set_option Elab.async false
set_option linter.all false
set_option maxRecDepth 100000
set_option maxHeartbeats 8000000
namespace K04
open PySem Co
theorem ex_asgT (cf : CF) (gg : G) (fu : Nat) (is : List Nat) (e : E) (ρ : Co.Env) : S.ex cf gg fu (.asg (.t is) e) ρ = Fl.of (e.ev cf gg ρ) fun z ρ1 => Fl.of (nonBw z ρ1) fun x ρ2 => match setTg (.t is) x.dat ρ2 with
    | some ρ3 => .nx ρ3
    | none => .bad := rfl
theorem lst5 (a b c d e : D) (ρ : Co.Env) : ((liftO (onlyW [.a (.fz a), .a (.fz b), .a (.fz c), .a (.fz d), .a (.fz e)]) ρ).bind fun ws ρ2 => if okPy ws.length then R.ok (Z.w (.own (.l (ws.map W.o)))) ρ2 else .bad) = .ok (.w (.own (.l [.d a, .d b, .d c, .d d, .d e]))) ρ := if_pos (e := R.bad) (okpy 5 (by omega))
theorem lst2 (a b : D) (ρ : Co.Env) : ((liftO (onlyW [.a (.fz a), .a (.fz b)]) ρ).bind fun ws ρ2 => if okPy ws.length then R.ok (Z.w (.own (.l (ws.map W.o)))) ρ2 else .bad) = .ok (.w (.own (.l [.d a, .d b]))) ρ := if_pos (e := R.bad) (okpy 2 (by omega))
theorem dcio3 {cf : CF} {f : Str} {o o' : O} {m k v : D} {r : List (Option W)} (h : cf f [.io o, .fz m, .fz k] = .ret (.fz v) [o']) : doCall cf f [.io 0, .a (.fz m), .a (.fz k)] (some (.io o) :: r) = .ok (.w (.fz v)) (some (.io o') :: r) := dcio2 h
/-- two lists of one's own, frozen for the call -/
theorem dcOO {cf : CF} {f : Str} {a b : O} {v : D} {ρ : Co.Env} (h : cf f [.fz a.frz, .fz b.frz] = .ret (.fz v) []) : doCall cf f [.a (.own a), .a (.own b)] ρ = .ok (.w (.fz v)) ρ := by
  rw [doCall_eq cf f [.a (.own a), .a (.own b)] ρ ρ [.fz a.frz, .fz b.frz] rfl rfl, h]
  rfl
theorem dcFO {cf : CF} {f : Str} {a : D} {b : O} {v : D} {ρ : Co.Env} (h : cf f [.fz a, .fz b.frz] = .ret (.fz v) []) : doCall cf f [.a (.fz a), .a (.own b)] ρ = .ok (.w (.fz v)) ρ := by
  rw [doCall_eq cf f [.a (.fz a), .a (.own b)] ρ ρ [.fz a, .fz b.frz] rfl rfl, h]
  rfl
def riS0 : S := (.asg (.t [1, 2, 3, 4]) (.tup (.cons (.call "_law_any" (.cons (.io 0) (.cons (.k (.int 5)) (.cons (.k (.int 0)) .nil)))) (.cons (.call "_law_any" (.cons (.io 0) (.cons (.k (.int 3)) (.cons (.k (.int 0)) .nil)))) (.cons (.call "_law_any" (.cons (.io 0) (.cons (.k (.int 3)) (.cons (.k (.int 0)) .nil)))) (.cons (.call "_law_any" (.cons (.io 0) (.cons (.k (.int 2)) (.cons (.k (.int 0)) .nil)))) .nil))))))
def riS1 : S := (.asg (.n 5) (.lst (.cons (.call "let_in" (.cons (.call "let_in" (.cons (.v 1) (.cons (.v 2) .nil))) (.cons (.v 3) .nil))) (.cons (.call "lets_in" (.cons (.v 1) (.cons (.tup (.cons (.call "let_in" (.cons (.v 2) (.cons (.v 3) .nil))) (.cons (.v 3) .nil))) .nil))) (.cons (.call "lets_in" (.cons (.call "lets_in" (.cons (.v 1) (.cons (.tup (.cons (.v 2) (.cons (.v 4) .nil))) .nil))) (.cons (.tup (.cons (.v 3) .nil)) .nil))) .nil)))))
def riS2 : S := (.asg (.n 6) (.lst (.cons (.call "_law_let" (.cons (.call "_law_let" (.cons (.v 1) (.cons (.tup (.cons (.v 2) .nil)) (.cons (.k (.int 0)) (.cons (.k (.int 0)) .nil))))) (.cons (.tup (.cons (.v 3) .nil)) (.cons (.k (.int 0)) (.cons (.k (.int 0)) .nil))))) (.cons (.ix (.rd 5) (.k (.int 0))) (.cons (.call "lets_in" (.cons (.v 1) (.cons (.tup (.cons (.call "let_in" (.cons (.v 2) (.cons (.v 3) .nil))) (.cons (.call "let_in" (.cons (.v 4) (.cons (.v 3) .nil))) (.cons (.v 3) .nil)))) .nil))) .nil)))))
def riS3 : S := (.ife (.or (.nt (.val (.call "_law_same" (.cons (.bin .add (.sl (.rd 5) (.k .none) (.k (.int 1))) (.sl (.rd 5) (.k (.int 2)) (.k .none))) (.cons (.bin .add (.sl (.rd 6) (.k .none) (.k (.int 1))) (.sl (.rd 6) (.k (.int 2)) (.k .none))) .nil))))) (.nt (.val (.call "_law_same" (.cons (.ix (.rd 5) (.k (.int 1))) (.cons (.ix (.rd 5) (.k (.int 0))) .nil)))))) (.cons (.ret (.k (.bool false)))
    .nil) .nil)
def riS4 : S := (.asg (.n 7) (.call "_law_let" (.cons (.tup (.cons (.k (.str "fun")) (.cons (.v 1) .nil))) (.cons (.tup (.cons (.v 3) .nil)) (.cons (.k (.int 0)) (.cons (.k (.int 0)) .nil))))))
def riS5 : S := (.ife (.and (.cmp .le (.call "_law_size" (.cons (.v 7) .nil)) (.k (.int 80))) (.and (.cmp .le (.call "_law_deep" (.cons (.v 7) .nil)) (.k (.int 15))) (.nt (.val (.call "_law_same" (.cons (.call "let_in" (.cons (.ix (.rd 7) (.k (.int 1))) (.cons (.call "let_in" (.cons (.v 2) (.cons (.v 3) .nil))) .nil))) (.cons (.ix (.rd 5) (.k (.int 0))) .nil))))))) (.cons (.ret (.k (.bool false)))
    .nil) .nil)
def riS6 : S := (.for (.n 8) (.seq (.sl (.call "step_places" (.cons (.v 1) .nil)) (.k .none) (.k (.int 6)))) (.cons (.par 9 10 (.call "let_in" (.cons (.call "step_at" (.cons (.v 1) (.cons (.v 8) .nil))) (.cons (.v 2) .nil))) (.call "step_at" (.cons (.call "let_in" (.cons (.v 1) (.cons (.v 2) .nil))) (.cons (.v 8) .nil))))
    (.cons (.ife (.nt (.val (.call "_law_same" (.cons (.lst (.cons (.v 9) (.cons (.cmp .isin (.rd 8) (.call "step_places" (.cons (.call "let_in" (.cons (.v 1) (.cons (.v 2) .nil))) .nil))) .nil))) (.cons (.lst (.cons (.v 10) (.cons (.k (.bool true)) .nil))) .nil))))) (.cons (.ret (.k (.bool false)))
    .nil) .nil)
    .nil)))
def riS7 : S := (.for (.n 8) (.seq (.sl (.call "step_places" (.cons (.v 2) .nil)) (.k .none) (.k (.int 2)))) (.cons (.asg (.n 11) (.call "let_in" (.cons (.v 1) (.cons (.call "step_at" (.cons (.v 2) (.cons (.v 8) .nil))) .nil))))
    (.cons (.asg (.n 12) (.lst .nil))
    (.cons (.for (.n 13) (.seq (.call "_law_places" (.cons (.v 1) .nil))) (.cons (.asg (.n 14) (.b1 .len (.lc [("k", 15)] (.n 15) (.rng1 (.b1 .len (.rd 13))) (.cmp .eq (.ix (.call "_law_part" (.cons (.v 1) (.cons (.sl (.rd 13) (.k .none) (.rd 15)) .nil))) (.k (.int 0))) (.k (.str "fun"))) (.v 15))))
    (.cons (.ife (.and (.cmp .eq (.ix (.call "_law_part" (.cons (.v 1) (.cons (.v 13) .nil))) (.k (.int 0))) (.k (.str "var"))) (.cmp .eq (.ix (.call "_law_part" (.cons (.v 1) (.cons (.v 13) .nil))) (.k (.int 1))) (.rd 14))) (.cons (.app 12 (.v 13))
    .nil) .nil)
    .nil)))
    (.cons (.asg (.n 16) (.call "let_in" (.cons (.v 1) (.cons (.v 2) .nil))))
    (.cons (.for (.n 13) (.seq (.v 12)) (.cons (.asg (.n 16) (.call "step_at" (.cons (.v 16) (.cons (.bin .add (.rd 13) (.rd 8)) .nil))))
    .nil))
    (.cons (.ife (.nt (.val (.call "_law_same" (.cons (.v 16) (.cons (.v 11) .nil))))) (.cons (.ret (.k (.bool false)))
    .nil) .nil)
    .nil)))))))
def riS8 : S := (.asg (.n 17) (.bin .add (.lc [("k", 15)] (.n 15) (.seq (.call "_law_free" (.cons (.v 1) (.cons (.k (.int 0)) .nil)))) (.cmp .gt (.rd 15) (.k (.int 0))) (.bin .sub (.rd 15) (.k (.int 1)))) (.ife (.cmp .isin (.k (.int 0)) (.call "_law_free" (.cons (.v 1) (.cons (.k (.int 0)) .nil)))) (.call "_law_free" (.cons (.v 2) (.cons (.k (.int 0)) .nil))) (.lst .nil))))
def riS9 : S := (.asg (.n 18) (.call "closed_up" (.cons (.v 1) .nil)))
def riS10 : S := (.asg (.n 5) (.lst (.cons (.call "free_letters" (.cons (.call "let_in" (.cons (.v 1) (.cons (.v 2) .nil))) .nil)) (.cons (.call "let_in" (.cons (.v 18) (.cons (.v 2) .nil))) (.cons (.call "raised" (.cons (.v 18) (.cons (.k (.int 4)) (.cons (.k (.int 0)) .nil)))) (.cons (.call "is_closed" (.cons (.call "lets_in" (.cons (.v 18) (.cons (.tup (.cons (.v 2) (.cons (.v 3) .nil))) .nil))) .nil)) (.cons (.ix (.call "part_at" (.cons (.call "let_in" (.cons (.tup (.cons (.k (.str "fun")) (.cons (.v 1) .nil))) (.cons (.v 2) .nil))) (.cons (.tup .nil) .nil))) (.k (.int 0))) .nil)))))))
def riS11 : S := (.ret (.call "_law_same" (.cons (.v 5) (.cons (.lst (.cons (.call "_law_set" (.cons (.v 17) .nil)) (.cons (.v 18) (.cons (.v 18) (.cons (.k (.bool true)) (.cons (.k (.str "fun")) .nil)))))) .nil))))
theorem riS_body : d__law_right.body = .cons riS0 (.cons riS1 (.cons riS2 (.cons riS3 (.cons riS4 (.cons riS5 (.cons riS6 (.cons riS7 (.cons riS8 (.cons riS9 (.cons riS10 (.cons riS11 (.nil)))))))))))) := rfl

theorem st0 {cf : CF} {o o1 o2 o3 o4 : O} {Tq Uq Vq Hq : D} (h1 : cf "_law_any" [.io o, .fz (.int 5), .fz (.int 0)] = .ret (.fz Tq) [o1]) (h2 : cf "_law_any" [.io o1, .fz (.int 3), .fz (.int 0)] = .ret (.fz Uq) [o2]) (h3 : cf "_law_any" [.io o2, .fz (.int 3), .fz (.int 0)] = .ret (.fz Vq) [o3]) (h4 : cf "_law_any" [.io o3, .fz (.int 2), .fz (.int 0)] = .ret (.fz Hq) [o4]) :
    S.ex cf g fuel riS0 [some (.io o), none, none, none, none, none, none, none, none, none, none, none, none, none, none, none, none, none, none] = .nx [some (.io o4), some (.fz Tq), some (.fz Uq), some (.fz Vq), some (.fz Hq), none, none, none, none, none, none, none, none, none, none, none, none, none, none] := by
  simp only [riS0, ex_asgT, ev_v, ev_rd, ev_g, ev_k, ev_bin, ev_cmp, ev_chain, ev_andE, ev_orE, ev_nt, ev_ife, ev_tup, ev_lst, ev_ix, ev_sl, ev_call, ev_callk, ev_own, ev_b1, ev_b2, ev_isi, ev_gin, ev_gix, ss_nil, ss_cons, ex_asg, ex_par, ex_ife, ex_ret, setTg_n, Es.ev, T.tst, I.ev, two_none, two_some, isRd, rdZ, vZ, List.getElem?_cons_zero, List.getElem?_cons_succ, R.bind_ok, ixF_fz, ixT, at0, at1, at2, ofD_some, liftO_some, nonBw_w, cmpT_fz, Z.dat_fz, Fl.of_ok, dc1, dc2, dc3, dc4, dca1, dca2, dca3, dca4, dcaO1, dcaO2, po1, po2, po3, po4, io_fz, wdat, tup0, tup1, tup2, tup3, tup4, lst0, lst1, lst3, List.set_cons_succ, List.set_cons_zero, Fl.then_nx, es_io, dcio2 h1, dcio2 h2, dcio2 h3, dcio2 h4] <;> rfl
theorem st1 {cf : CF} {o : O} {Tq Uq Vq Hq a1 a2 a3 r1 r2 r3 : D} (h1 : cf "let_in" [.fz Tq, .fz Uq] = .ret (.fz a1) []) (h2 : cf "let_in" [.fz a1, .fz Vq] = .ret (.fz r1) []) (h3 : cf "let_in" [.fz Uq, .fz Vq] = .ret (.fz a2) []) (h4 : cf "lets_in" [.fz Tq, .fz (.tuple [a2, Vq])] = .ret (.fz r2) []) (h5 : cf "lets_in" [.fz Tq, .fz (.tuple [Uq, Hq])] = .ret (.fz a3) []) (h6 : cf "lets_in" [.fz a3, .fz (.tuple [Vq])] = .ret (.fz r3) []) :
    S.ex cf g fuel riS1 [some (.io o), some (.fz Tq), some (.fz Uq), some (.fz Vq), some (.fz Hq), none, none, none, none, none, none, none, none, none, none, none, none, none, none] = .nx [some (.io o), some (.fz Tq), some (.fz Uq), some (.fz Vq), some (.fz Hq), some (.own (.l [.d r1, .d r2, .d r3])), none, none, none, none, none, none, none, none, none, none, none, none, none] := by
  simp only [riS1, ev_v, ev_rd, ev_g, ev_k, ev_bin, ev_cmp, ev_chain, ev_andE, ev_orE, ev_nt, ev_ife, ev_tup, ev_lst, ev_ix, ev_sl, ev_call, ev_callk, ev_own, ev_b1, ev_b2, ev_isi, ev_gin, ev_gix, ss_nil, ss_cons, ex_asg, ex_par, ex_ife, ex_ret, setTg_n, Es.ev, T.tst, I.ev, two_none, two_some, isRd, rdZ, vZ, List.getElem?_cons_zero, List.getElem?_cons_succ, R.bind_ok, ixF_fz, ixT, at0, at1, at2, ofD_some, liftO_some, nonBw_w, cmpT_fz, Z.dat_fz, Fl.of_ok, dc1, dc2, dc3, dc4, dca1, dca2, dca3, dca4, dcaO1, dcaO2, po1, po2, po3, po4, io_fz, wdat, tup0, tup1, tup2, tup3, tup4, lst0, lst1, lst3, List.set_cons_succ, List.set_cons_zero, Fl.then_nx, h1, h2, h3, h4, h5, h6] <;> rfl
theorem st2 {cf : CF} {o : O} {Tq Uq Vq Hq b1 b2 b3 r1 r2 r3 d1 d3 : D} (h1 : cf "_law_let" [.fz Tq, .fz (.tuple [Uq]), .fz (.int 0), .fz (.int 0)] = .ret (.fz b1) []) (h2 : cf "_law_let" [.fz b1, .fz (.tuple [Vq]), .fz (.int 0), .fz (.int 0)] = .ret (.fz d1) []) (h3 : cf "let_in" [.fz Uq, .fz Vq] = .ret (.fz b2) []) (h4 : cf "let_in" [.fz Hq, .fz Vq] = .ret (.fz b3) []) (h5 : cf "lets_in" [.fz Tq, .fz (.tuple [b2, b3, Vq])] = .ret (.fz d3) []) :
    S.ex cf g fuel riS2 [some (.io o), some (.fz Tq), some (.fz Uq), some (.fz Vq), some (.fz Hq), some (.own (.l [.d r1, .d r2, .d r3])), none, none, none, none, none, none, none, none, none, none, none, none, none] = .nx [some (.io o), some (.fz Tq), some (.fz Uq), some (.fz Vq), some (.fz Hq), some (.own (.l [.d r1, .d r2, .d r3])), some (.own (.l [.d d1, .d r1, .d d3])), none, none, none, none, none, none, none, none, none, none, none, none] := by
  simp only [riS2, ev_v, ev_rd, ev_g, ev_k, ev_bin, ev_cmp, ev_chain, ev_andE, ev_orE, ev_nt, ev_ife, ev_tup, ev_lst, ev_ix, ev_sl, ev_call, ev_callk, ev_own, ev_b1, ev_b2, ev_isi, ev_gin, ev_gix, ss_nil, ss_cons, ex_asg, ex_par, ex_ife, ex_ret, setTg_n, Es.ev, T.tst, I.ev, two_none, two_some, isRd, rdZ, vZ, List.getElem?_cons_zero, List.getElem?_cons_succ, R.bind_ok, ixF_fz, ixT, at0, at1, at2, ofD_some, liftO_some, nonBw_w, cmpT_fz, Z.dat_fz, Fl.of_ok, dc1, dc2, dc3, dc4, dca1, dca2, dca3, dca4, dcaO1, dcaO2, po1, po2, po3, po4, io_fz, wdat, tup0, tup1, tup2, tup3, tup4, lst0, lst1, lst3, List.set_cons_succ, List.set_cons_zero, Fl.then_nx, h1, h2, h3, h4, h5, ixF_bw] <;> rfl
theorem st3 {cf : CF} {o : O} {Tq Uq Vq Hq r1 r2 r3 d1 d2 d3 : D} (h1 : cf "_law_same" [.fz (.list [r1, r3]), .fz (.list [d1, d3])] = .ret (.fz (.bool true)) []) (h2 : cf "_law_same" [.fz r2, .fz r1] = .ret (.fz (.bool true)) []) :
    S.ex cf g fuel riS3 [some (.io o), some (.fz Tq), some (.fz Uq), some (.fz Vq), some (.fz Hq), some (.own (.l [.d r1, .d r2, .d r3])), some (.own (.l [.d d1, .d d2, .d d3])), none, none, none, none, none, none, none, none, none, none, none, none] = .nx [some (.io o), some (.fz Tq), some (.fz Uq), some (.fz Vq), some (.fz Hq), some (.own (.l [.d r1, .d r2, .d r3])), some (.own (.l [.d d1, .d d2, .d d3])), none, none, none, none, none, none, none, none, none, none, none, none] := by
  have f1 : E.ev cf g (.bin .add (.sl (.rd 5) (.k .none) (.k (.int 1))) (.sl (.rd 5) (.k (.int 2)) (.k .none))) [some (.io o), some (.fz Tq), some (.fz Uq), some (.fz Vq), some (.fz Hq), some (.own (.l [.d r1, .d r2, .d r3])), some (.own (.l [.d d1, .d d2, .d d3])), none, none, none, none, none, none, none, none, none, none, none, none] = .ok (.w (.own (.l [.d r1, .d r3]))) [some (.io o), some (.fz Tq), some (.fz Uq), some (.fz Vq), some (.fz Hq), some (.own (.l [.d r1, .d r2, .d r3])), some (.own (.l [.d d1, .d d2, .d d3])), none, none, none, none, none, none, none, none, none, none, none, none] := by kernel_rfl
  have f2 : E.ev cf g (.bin .add (.sl (.rd 6) (.k .none) (.k (.int 1))) (.sl (.rd 6) (.k (.int 2)) (.k .none))) [some (.io o), some (.fz Tq), some (.fz Uq), some (.fz Vq), some (.fz Hq), some (.own (.l [.d r1, .d r2, .d r3])), some (.own (.l [.d d1, .d d2, .d d3])), none, none, none, none, none, none, none, none, none, none, none, none] = .ok (.w (.own (.l [.d d1, .d d3]))) [some (.io o), some (.fz Tq), some (.fz Uq), some (.fz Vq), some (.fz Hq), some (.own (.l [.d r1, .d r2, .d r3])), some (.own (.l [.d d1, .d d2, .d d3])), none, none, none, none, none, none, none, none, none, none, none, none] := by kernel_rfl
  have q1 : ∀ ρ, doCall cf "_law_same" [.a (.own (.l [.d r1, .d r3])), .a (.own (.l [.d d1, .d d3]))] ρ = .ok (.w (.fz (.bool true))) ρ := fun ρ => dcOO h1
  have t1 : T.tst cf g (.val (.call "_law_same" (.cons (.bin .add (.sl (.rd 5) (.k .none) (.k (.int 1))) (.sl (.rd 5) (.k (.int 2)) (.k .none))) (.cons (.bin .add (.sl (.rd 6) (.k .none) (.k (.int 1))) (.sl (.rd 6) (.k (.int 2)) (.k .none))) .nil)))) [some (.io o), some (.fz Tq), some (.fz Uq), some (.fz Vq), some (.fz Hq), some (.own (.l [.d r1, .d r2, .d r3])), some (.own (.l [.d d1, .d d2, .d d3])), none, none, none, none, none, none, none, none, none, none, none, none] = .ok true [some (.io o), some (.fz Tq), some (.fz Uq), some (.fz Vq), some (.fz Hq), some (.own (.l [.d r1, .d r2, .d r3])), some (.own (.l [.d d1, .d d2, .d d3])), none, none, none, none, none, none, none, none, none, none, none, none] := by
    show ((E.ev cf g (.call "_law_same" _) _).bind fun z ρ1 => liftO (truD z.dat) ρ1) = _
    rw [ev_call]
    have : Es.ev cf g (.cons (.bin .add (.sl (.rd 5) (.k .none) (.k (.int 1))) (.sl (.rd 5) (.k (.int 2)) (.k .none))) (.cons (.bin .add (.sl (.rd 6) (.k .none) (.k (.int 1))) (.sl (.rd 6) (.k (.int 2)) (.k .none))) .nil)) [some (.io o), some (.fz Tq), some (.fz Uq), some (.fz Vq), some (.fz Hq), some (.own (.l [.d r1, .d r2, .d r3])), some (.own (.l [.d d1, .d d2, .d d3])), none, none, none, none, none, none, none, none, none, none, none, none] = .ok [.a (.own (.l [.d r1, .d r3])), .a (.own (.l [.d d1, .d d3]))] [some (.io o), some (.fz Tq), some (.fz Uq), some (.fz Vq), some (.fz Hq), some (.own (.l [.d r1, .d r2, .d r3])), some (.own (.l [.d d1, .d d2, .d d3])), none, none, none, none, none, none, none, none, none, none, none, none] := by
      simp only [Es.ev, f1, f2, R.bind_ok, nonBw_w]
    rw [this, R.bind_ok, q1]
    rfl
  have t2 : T.tst cf g (.val (.call "_law_same" (.cons (.ix (.rd 5) (.k (.int 1))) (.cons (.ix (.rd 5) (.k (.int 0))) .nil)))) [some (.io o), some (.fz Tq), some (.fz Uq), some (.fz Vq), some (.fz Hq), some (.own (.l [.d r1, .d r2, .d r3])), some (.own (.l [.d d1, .d d2, .d d3])), none, none, none, none, none, none, none, none, none, none, none, none] = .ok true [some (.io o), some (.fz Tq), some (.fz Uq), some (.fz Vq), some (.fz Hq), some (.own (.l [.d r1, .d r2, .d r3])), some (.own (.l [.d d1, .d d2, .d d3])), none, none, none, none, none, none, none, none, none, none, none, none] := by
    simp only [ev_v, ev_rd, ev_g, ev_k, ev_bin, ev_cmp, ev_chain, ev_andE, ev_orE, ev_nt, ev_ife, ev_tup, ev_lst, ev_ix, ev_sl, ev_call, ev_callk, ev_own, ev_b1, ev_b2, ev_isi, ev_gin, ev_gix, ss_nil, ss_cons, ex_asg, ex_par, ex_ife, ex_ret, setTg_n, Es.ev, T.tst, I.ev, two_none, two_some, isRd, rdZ, vZ, List.getElem?_cons_zero, List.getElem?_cons_succ, R.bind_ok, ixF_fz, ixT, at0, at1, at2, ofD_some, liftO_some, nonBw_w, cmpT_fz, Z.dat_fz, Fl.of_ok, dc1, dc2, dc3, dc4, dca1, dca2, dca3, dca4, dcaO1, dcaO2, po1, po2, po3, po4, io_fz, wdat, tup0, tup1, tup2, tup3, tup4, lst0, lst1, lst3, List.set_cons_succ, List.set_cons_zero, Fl.then_nx, ixF_bw, h2, truD]
  unfold riS3
  rw [ex_ife]
  show Fl.of ((((T.tst cf g (.val _) _).bind fun b ρ1 => R.ok (!b) ρ1)).bind fun c ρ1 => if c then .ok true ρ1 else (T.nt (.val _)).tst cf g ρ1) _ = _
  rw [t1]
  show Fl.of ((T.tst cf g (.val _) _).bind fun b ρ1 => R.ok (!b) ρ1) _ = _
  rw [t2]
  rfl
theorem st4 {cf : CF} {o : O} {Tq Uq Vq Hq r1 r2 r3 d1 d2 d3 Wd : D} (h1 : cf "_law_let" [.fz (.tuple [.str "fun", Tq]), .fz (.tuple [Vq]), .fz (.int 0), .fz (.int 0)] = .ret (.fz Wd) []) :
    S.ex cf g fuel riS4 [some (.io o), some (.fz Tq), some (.fz Uq), some (.fz Vq), some (.fz Hq), some (.own (.l [.d r1, .d r2, .d r3])), some (.own (.l [.d d1, .d d2, .d d3])), none, none, none, none, none, none, none, none, none, none, none, none] = .nx [some (.io o), some (.fz Tq), some (.fz Uq), some (.fz Vq), some (.fz Hq), some (.own (.l [.d r1, .d r2, .d r3])), some (.own (.l [.d d1, .d d2, .d d3])), some (.fz Wd), none, none, none, none, none, none, none, none, none, none, none] := by
  simp only [riS4, ev_v, ev_rd, ev_g, ev_k, ev_bin, ev_cmp, ev_chain, ev_andE, ev_orE, ev_nt, ev_ife, ev_tup, ev_lst, ev_ix, ev_sl, ev_call, ev_callk, ev_own, ev_b1, ev_b2, ev_isi, ev_gin, ev_gix, ss_nil, ss_cons, ex_asg, ex_par, ex_ife, ex_ret, setTg_n, Es.ev, T.tst, I.ev, two_none, two_some, isRd, rdZ, vZ, List.getElem?_cons_zero, List.getElem?_cons_succ, R.bind_ok, ixF_fz, ixT, at0, at1, at2, ofD_some, liftO_some, nonBw_w, cmpT_fz, Z.dat_fz, Fl.of_ok, dc1, dc2, dc3, dc4, dca1, dca2, dca3, dca4, dcaO1, dcaO2, po1, po2, po3, po4, io_fz, wdat, tup0, tup1, tup2, tup3, tup4, lst0, lst1, lst3, List.set_cons_succ, List.set_cons_zero, Fl.then_nx, h1] <;> rfl
theorem st5 {cf : CF} {o : O} {Tq Uq Vq Hq r1 r2 r3 d1 d2 d3 Wd W1 a2 : D} {z dp : Int} (h1 : cf "_law_size" [.fz Wd] = .ret (.fz (.int z)) []) (h2 : cf "_law_deep" [.fz Wd] = .ret (.fz (.int dp)) []) (h3 : ixD Wd (.int 1) = some W1) (h4 : cf "let_in" [.fz Uq, .fz Vq] = .ret (.fz a2) []) (h5 : cf "let_in" [.fz W1, .fz a2] = .ret (.fz r1) []) (h6 : cf "_law_same" [.fz r1, .fz r1] = .ret (.fz (.bool true)) []) :
    S.ex cf g fuel riS5 [some (.io o), some (.fz Tq), some (.fz Uq), some (.fz Vq), some (.fz Hq), some (.own (.l [.d r1, .d r2, .d r3])), some (.own (.l [.d d1, .d d2, .d d3])), some (.fz Wd), none, none, none, none, none, none, none, none, none, none, none] = .nx [some (.io o), some (.fz Tq), some (.fz Uq), some (.fz Vq), some (.fz Hq), some (.own (.l [.d r1, .d r2, .d r3])), some (.own (.l [.d d1, .d d2, .d d3])), some (.fz Wd), none, none, none, none, none, none, none, none, none, none, none] := by
  by_cases c1 : z ≤ 80
  · by_cases c2 : dp ≤ 15
    · simp only [riS5, ev_v, ev_rd, ev_g, ev_k, ev_bin, ev_cmp, ev_chain, ev_andE, ev_orE, ev_nt, ev_ife, ev_tup, ev_lst, ev_ix, ev_sl, ev_call, ev_callk, ev_own, ev_b1, ev_b2, ev_isi, ev_gin, ev_gix, ss_nil, ss_cons, ex_asg, ex_par, ex_ife, ex_ret, setTg_n, Es.ev, T.tst, I.ev, two_none, two_some, isRd, rdZ, vZ, List.getElem?_cons_zero, List.getElem?_cons_succ, R.bind_ok, ixF_fz, ixT, at0, at1, at2, ofD_some, liftO_some, nonBw_w, cmpT_fz, Z.dat_fz, Fl.of_ok, dc1, dc2, dc3, dc4, dca1, dca2, dca3, dca4, dcaO1, dcaO2, po1, po2, po3, po4, io_fz, wdat, tup0, tup1, tup2, tup3, tup4, lst0, lst1, lst3, List.set_cons_succ, List.set_cons_zero, Fl.then_nx, h1, h2, cmp_le, decide_eq_true c1, decide_eq_true c2, if_true, h3, h4, h5, ixF_bw, h6, truD, Bool.not_true, Bool.false_eq_true, if_false] <;> rfl
    · simp only [riS5, ev_v, ev_rd, ev_g, ev_k, ev_bin, ev_cmp, ev_chain, ev_andE, ev_orE, ev_nt, ev_ife, ev_tup, ev_lst, ev_ix, ev_sl, ev_call, ev_callk, ev_own, ev_b1, ev_b2, ev_isi, ev_gin, ev_gix, ss_nil, ss_cons, ex_asg, ex_par, ex_ife, ex_ret, setTg_n, Es.ev, T.tst, I.ev, two_none, two_some, isRd, rdZ, vZ, List.getElem?_cons_zero, List.getElem?_cons_succ, R.bind_ok, ixF_fz, ixT, at0, at1, at2, ofD_some, liftO_some, nonBw_w, cmpT_fz, Z.dat_fz, Fl.of_ok, dc1, dc2, dc3, dc4, dca1, dca2, dca3, dca4, dcaO1, dcaO2, po1, po2, po3, po4, io_fz, wdat, tup0, tup1, tup2, tup3, tup4, lst0, lst1, lst3, List.set_cons_succ, List.set_cons_zero, Fl.then_nx, h1, h2, cmp_le, decide_eq_true c1, decide_eq_false c2, if_true, Bool.false_eq_true, if_false] <;> rfl
  · simp only [riS5, ev_v, ev_rd, ev_g, ev_k, ev_bin, ev_cmp, ev_chain, ev_andE, ev_orE, ev_nt, ev_ife, ev_tup, ev_lst, ev_ix, ev_sl, ev_call, ev_callk, ev_own, ev_b1, ev_b2, ev_isi, ev_gin, ev_gix, ss_nil, ss_cons, ex_asg, ex_par, ex_ife, ex_ret, setTg_n, Es.ev, T.tst, I.ev, two_none, two_some, isRd, rdZ, vZ, List.getElem?_cons_zero, List.getElem?_cons_succ, R.bind_ok, ixF_fz, ixT, at0, at1, at2, ofD_some, liftO_some, nonBw_w, cmpT_fz, Z.dat_fz, Fl.of_ok, dc1, dc2, dc3, dc4, dca1, dca2, dca3, dca4, dcaO1, dcaO2, po1, po2, po3, po4, io_fz, wdat, tup0, tup1, tup2, tup3, tup4, lst0, lst1, lst3, List.set_cons_succ, List.set_cons_zero, Fl.then_nx, h1, cmp_le, decide_eq_false c1, Bool.false_eq_true, if_false] <;> rfl
theorem bd6 {cf : CF} {o so : O} {Tq Uq Vq Hq r1 r2 r3 d1 d2 d3 Wd Pd u1 a1 nr : D} {x9 x10 : Option W} (h1 : cf "step_at" [.fz Tq, .fz Pd] = .ret (.fz u1) []) (h2 : cf "let_in" [.fz u1, .fz Uq] = .ret (.fz nr) []) (h3 : cf "let_in" [.fz Tq, .fz Uq] = .ret (.fz a1) []) (h4 : cf "step_at" [.fz a1, .fz Pd] = .ret (.fz nr) []) (h5 : cf "step_places" [.fz a1] = .ret (.own so) []) (h6 : cmpD .isin Pd so.frz = some true) (h7 : cf "_law_same" [.fz (.list [nr, .bool true]), .fz (.list [nr, .bool true])] = .ret (.fz (.bool true)) []) :
    Ss.ex cf g fuel (.cons (.par 9 10 (.call "let_in" (.cons (.call "step_at" (.cons (.v 1) (.cons (.v 8) .nil))) (.cons (.v 2) .nil))) (.call "step_at" (.cons (.call "let_in" (.cons (.v 1) (.cons (.v 2) .nil))) (.cons (.v 8) .nil))))
    (.cons (.ife (.nt (.val (.call "_law_same" (.cons (.lst (.cons (.v 9) (.cons (.cmp .isin (.rd 8) (.call "step_places" (.cons (.call "let_in" (.cons (.v 1) (.cons (.v 2) .nil))) .nil))) .nil))) (.cons (.lst (.cons (.v 10) (.cons (.k (.bool true)) .nil))) .nil))))) (.cons (.ret (.k (.bool false)))
    .nil) .nil)
    .nil)) [some (.io o), some (.fz Tq), some (.fz Uq), some (.fz Vq), some (.fz Hq), some (.own (.l [.d r1, .d r2, .d r3])), some (.own (.l [.d d1, .d d2, .d d3])), some (.fz Wd), some (.fz Pd), x9, x10, none, none, none, none, none, none, none, none] = .nx [some (.io o), some (.fz Tq), some (.fz Uq), some (.fz Vq), some (.fz Hq), some (.own (.l [.d r1, .d r2, .d r3])), some (.own (.l [.d d1, .d d2, .d d3])), some (.fz Wd), some (.fz Pd), some (.fz nr), some (.fz nr), none, none, none, none, none, none, none, none] := by
  have q : ∀ ρ, doCall cf "_law_same" [.a (.own (.l [.d nr, .d (.bool true)])), .a (.own (.l [.d nr, .d (.bool true)]))] ρ = .ok (.w (.fz (.bool true))) ρ := fun ρ => dcOO h7
  have c : ∀ ρ, cmpF .isin (.w (.fz Pd)) (.w (.own so)) ρ = .ok (.w (.fz (.bool true))) ρ := fun ρ => by
    show ofD ((cmpD .isin Pd so.frz).map .bool) ρ = _
    rw [h6]; rfl
  simp only [ev_v, ev_rd, ev_g, ev_k, ev_bin, ev_cmp, ev_chain, ev_andE, ev_orE, ev_nt, ev_ife, ev_tup, ev_lst, ev_ix, ev_sl, ev_call, ev_callk, ev_own, ev_b1, ev_b2, ev_isi, ev_gin, ev_gix, ss_nil, ss_cons, ex_asg, ex_par, ex_ife, ex_ret, setTg_n, Es.ev, T.tst, I.ev, two_none, two_some, isRd, rdZ, vZ, List.getElem?_cons_zero, List.getElem?_cons_succ, R.bind_ok, ixF_fz, ixT, at0, at1, at2, ofD_some, liftO_some, nonBw_w, cmpT_fz, Z.dat_fz, Fl.of_ok, dc1, dc2, dc3, dc4, dca1, dca2, dca3, dca4, dcaO1, dcaO2, po1, po2, po3, po4, io_fz, wdat, tup0, tup1, tup2, tup3, tup4, lst0, lst1, lst3, List.set_cons_succ, List.set_cons_zero, Fl.then_nx, h1, h2, h3, h4, h5, dcaO1, c, lst2, q, truD, Bool.not_true, Bool.false_eq_true, if_false] <;> rfl
theorem st6 {cf : CF} {o : O} {Tq Uq Vq Hq r1 r2 r3 d1 d2 d3 Wd : D} (ps : List (List Nat)) (h0 : cf "step_places" [.fz Tq] = .ret (.own (plO ps)) []) (hb : ∀ p ∈ ps, ∀ x9 x10, ∃ y9 y10, Ss.ex cf g fuel (.cons (.par 9 10 (.call "let_in" (.cons (.call "step_at" (.cons (.v 1) (.cons (.v 8) .nil))) (.cons (.v 2) .nil))) (.call "step_at" (.cons (.call "let_in" (.cons (.v 1) (.cons (.v 2) .nil))) (.cons (.v 8) .nil))))
    (.cons (.ife (.nt (.val (.call "_law_same" (.cons (.lst (.cons (.v 9) (.cons (.cmp .isin (.rd 8) (.call "step_places" (.cons (.call "let_in" (.cons (.v 1) (.cons (.v 2) .nil))) .nil))) .nil))) (.cons (.lst (.cons (.v 10) (.cons (.k (.bool true)) .nil))) .nil))))) (.cons (.ret (.k (.bool false)))
    .nil) .nil)
    .nil)) [some (.io o), some (.fz Tq), some (.fz Uq), some (.fz Vq), some (.fz Hq), some (.own (.l [.d r1, .d r2, .d r3])), some (.own (.l [.d d1, .d d2, .d d3])), some (.fz Wd), some (.fz (plD p)), x9, x10, none, none, none, none, none, none, none, none] = .nx [some (.io o), some (.fz Tq), some (.fz Uq), some (.fz Vq), some (.fz Hq), some (.own (.l [.d r1, .d r2, .d r3])), some (.own (.l [.d d1, .d d2, .d d3])), some (.fz Wd), some (.fz (plD p)), y9, y10, none, none, none, none, none, none, none, none]) :
    ∃ x8 x9 x10, S.ex cf g fuel riS6 [some (.io o), some (.fz Tq), some (.fz Uq), some (.fz Vq), some (.fz Hq), some (.own (.l [.d r1, .d r2, .d r3])), some (.own (.l [.d d1, .d d2, .d d3])), some (.fz Wd), none, none, none, none, none, none, none, none, none, none, none] = .nx [some (.io o), some (.fz Tq), some (.fz Uq), some (.fz Vq), some (.fz Hq), some (.own (.l [.d r1, .d r2, .d r3])), some (.own (.l [.d d1, .d d2, .d d3])), some (.fz Wd), x8, x9, x10, none, none, none, none, none, none, none, none] := by
  have hit : I.ev cf g (.seq (.sl (.call "step_places" (.cons (.v 1) .nil)) (.k .none) (.k (.int 6)))) [some (.io o), some (.fz Tq), some (.fz Uq), some (.fz Vq), some (.fz Hq), some (.own (.l [.d r1, .d r2, .d r3])), some (.own (.l [.d d1, .d d2, .d d3])), some (.fz Wd), none, none, none, none, none, none, none, none, none, none, none] = .ok ((ps.take 6).map plD) [some (.io o), some (.fz Tq), some (.fz Uq), some (.fz Vq), some (.fz Hq), some (.own (.l [.d r1, .d r2, .d r3])), some (.own (.l [.d d1, .d d2, .d d3])), some (.fz Wd), none, none, none, none, none, none, none, none, none, none, none] := by
    have e1 : E.ev cf g (.call "step_places" (.cons (.v 1) .nil)) [some (.io o), some (.fz Tq), some (.fz Uq), some (.fz Vq), some (.fz Hq), some (.own (.l [.d r1, .d r2, .d r3])), some (.own (.l [.d d1, .d d2, .d d3])), some (.fz Wd), none, none, none, none, none, none, none, none, none, none, none] = .ok (.w (.own (plO ps))) [some (.io o), some (.fz Tq), some (.fz Uq), some (.fz Vq), some (.fz Hq), some (.own (.l [.d r1, .d r2, .d r3])), some (.own (.l [.d d1, .d d2, .d d3])), some (.fz Wd), none, none, none, none, none, none, none, none, none, none, none] := by
      simp only [ev_v, ev_rd, ev_g, ev_k, ev_bin, ev_cmp, ev_chain, ev_andE, ev_orE, ev_nt, ev_ife, ev_tup, ev_lst, ev_ix, ev_sl, ev_call, ev_callk, ev_own, ev_b1, ev_b2, ev_isi, ev_gin, ev_gix, ss_nil, ss_cons, ex_asg, ex_par, ex_ife, ex_ret, setTg_n, Es.ev, T.tst, I.ev, two_none, two_some, isRd, rdZ, vZ, List.getElem?_cons_zero, List.getElem?_cons_succ, R.bind_ok, ixF_fz, ixT, at0, at1, at2, ofD_some, liftO_some, nonBw_w, cmpT_fz, Z.dat_fz, Fl.of_ok, dc1, dc2, dc3, dc4, dca1, dca2, dca3, dca4, dcaO1, dcaO2, po1, po2, po3, po4, io_fz, wdat, tup0, tup1, tup2, tup3, tup4, lst0, lst1, lst3, List.set_cons_succ, List.set_cons_zero, Fl.then_nx, h0] <;> rfl
    show ((three none _ _ _ _ _).bind _) = _
    show ((((E.ev cf g (.call "step_places" (.cons (.v 1) .nil)) [some (.io o), some (.fz Tq), some (.fz Uq), some (.fz Vq), some (.fz Hq), some (.own (.l [.d r1, .d r2, .d r3])), some (.own (.l [.d d1, .d d2, .d d3])), some (.fz Wd), none, none, none, none, none, none, none, none, none, none, none]).bind fun za ρ1 => (nonBw za ρ1).bind fun xa ρ2 => (bndM true _ ρ2).bind fun lo ρ3 => (bndM false (E.ev cf g (.k (.int 6))) ρ3).bind fun hi ρ4 => slF (.w xa) lo hi ρ4)).bind _) = _
    rw [e1]
    show (slF (.w (.own (plO ps))) none (some 6) [some (.io o), some (.fz Tq), some (.fz Uq), some (.fz Vq), some (.fz Hq), some (.own (.l [.d r1, .d r2, .d r3])), some (.own (.l [.d d1, .d d2, .d d3])), some (.fz Wd), none, none, none, none, none, none, none, none, none, none, none]).bind _ = _
    have e2 : (Z.w (.own (plO ps))).el = some (.list (ps.map plD)) := by
      show (plainO (ps.map fun p => O.d (plD p))).map PyData.list = _
      rw [show (ps.map fun p => O.d (plD p)) = (ps.map plD).map .d by rw [List.map_map]; rfl, plain_map]; rfl
    have e3 : cutA (ps.map plD) none (some 6) = (ps.take 6).map plD := by
      unfold cutA
      rw [HT.sIx_none]
      have : HT.sIx (ps.map plD).length (ps.map plD).length (some 6) = min 6 (ps.map plD).length := HT.sIx_nat _ _ 6
      rw [this, List.drop_zero, Nat.sub_zero, ← List.take_eq_take_min, List.map_take]
    unfold slF
    rw [e2]
    show (ofO (some (W.own (.l ((cutA (ps.map plD) none (some 6)).map .d)))) _).bind _ = _
    rw [e3]
    show (liftO (seqI (.list (O.frzs (((ps.take 6).map plD).map .d)))) _) = _
    rw [frz_map]
    rfl
  obtain ⟨ρ', e1, x8, x9, x10, rfl⟩ := for_inv (body := fun d ρ => match setTg (.n 8) d ρ with
      | some ρ' => Ss.ex cf g fuel (.cons (.par 9 10 (.call "let_in" (.cons (.call "step_at" (.cons (.v 1) (.cons (.v 8) .nil))) (.cons (.v 2) .nil))) (.call "step_at" (.cons (.call "let_in" (.cons (.v 1) (.cons (.v 2) .nil))) (.cons (.v 8) .nil))))
    (.cons (.ife (.nt (.val (.call "_law_same" (.cons (.lst (.cons (.v 9) (.cons (.cmp .isin (.rd 8) (.call "step_places" (.cons (.call "let_in" (.cons (.v 1) (.cons (.v 2) .nil))) .nil))) .nil))) (.cons (.lst (.cons (.v 10) (.cons (.k (.bool true)) .nil))) .nil))))) (.cons (.ret (.k (.bool false)))
    .nil) .nil)
    .nil)) ρ'
      | none => .bad) (Iv := fun i ρ => ∃ x8 x9 x10, ρ = [some (.io o), some (.fz Tq), some (.fz Uq), some (.fz Vq), some (.fz Hq), some (.own (.l [.d r1, .d r2, .d r3])), some (.own (.l [.d d1, .d d2, .d d3])), some (.fz Wd), x8, x9, x10, none, none, none, none, none, none, none, none]) ((ps.take 6).map plD) 0 [some (.io o), some (.fz Tq), some (.fz Uq), some (.fz Vq), some (.fz Hq), some (.own (.l [.d r1, .d r2, .d r3])), some (.own (.l [.d d1, .d d2, .d d3])), some (.fz Wd), none, none, none, none, none, none, none, none, none, none, none] ⟨none, none, none, rfl⟩ (by
    rintro i d ρ hd ⟨x8, x9, x10, rfl⟩
    rw [List.getElem?_map] at hd
    cases q : (ps.take 6)[i]? with
    | none => rw [q] at hd; cases hd
    | some p =>
      rw [q] at hd
      cases hd
      obtain ⟨y9, y10, h⟩ := hb p (List.mem_of_mem_take (List.mem_of_getElem? q)) x9 x10
      exact ⟨_, h, _, _, _, rfl⟩)
  refine ⟨x8, x9, x10, ?_⟩
  unfold riS6
  rw [ex_for, hit]
  exact e1
end K04

set_option Elab.async false
set_option linter.all false
set_option maxRecDepth 100000
set_option maxHeartbeats 8000000
namespace K04
open PySem Co
theorem ht_lt (row : List Tm) (b0 : Nat) (hR : ∀ u ∈ row, u.ht ≤ b0) : ∀ (t : Tm) (d : Nat), (t.lt row 0 d).ht ≤ t.ht + b0
  | .var i, d => by
    unfold Tm.lt
    split
    · simp [Tm.ht]
    · split
      · rename_i u hu
        rw [ht_rs]
        have := hR u (List.mem_of_getElem? hu)
        simp only [Tm.ht]
        omega
      · simp [Tm.ht]
  | .num i, d => by simp [Tm.lt, Tm.ht]
  | .fn a, d => by have := ht_lt row b0 hR a (d + 1); simp only [Tm.lt, Tm.ht]; omega
  | .use a b, d => by have := ht_lt row b0 hR a d; have := ht_lt row b0 hR b d; simp only [Tm.lt, Tm.ht]; omega
  | .up a, d => by have := ht_lt row b0 hR a d; simp only [Tm.lt, Tm.ht]; omega
  | .dn a, d => by have := ht_lt row b0 hR a d; simp only [Tm.lt, Tm.ht]; omega
  | .iff a b c, d => by have := ht_lt row b0 hR a d; have := ht_lt row b0 hR b d; have := ht_lt row b0 hR c d; simp only [Tm.lt, Tm.ht]; omega
theorem ht_wrap (t : Tm) : ∀ k, (t.wrap k).ht = t.ht + k
  | 0 => rfl
  | k + 1 => by show (t.wrap k).ht + 1 = _; rw [ht_wrap t k]; omega
theorem sz_wrap (t : Tm) : ∀ k, (t.wrap k).sz = t.sz + k
  | 0 => rfl
  | k + 1 => by show 1 + (t.wrap k).sz = _; rw [sz_wrap t k]; omega
theorem sz_rs (k : Nat) : ∀ (t : Tm) (l : Nat), (t.rs k l).sz = t.sz
  | .var i, l => by unfold Tm.rs; split <;> rfl
  | .num i, l => rfl
  | .fn a, l => by show 1 + (a.rs k (l + 1)).sz = _; rw [sz_rs k a]; rfl
  | .use a b, l => by show 1 + ((a.rs k l).sz + (b.rs k l).sz) = _; rw [sz_rs k a, sz_rs k b]; rfl
  | .up a, l => by show 1 + (a.rs k l).sz = _; rw [sz_rs k a]; rfl
  | .dn a, l => by show 1 + (a.rs k l).sz = _; rw [sz_rs k a]; rfl
  | .iff a b c, l => by show 1 + ((a.rs k l).sz + ((b.rs k l).sz + (c.rs k l).sz)) = _; rw [sz_rs k a, sz_rs k b, sz_rs k c]; rfl
theorem sz_pos (t : Tm) : 1 ≤ t.sz := by cases t <;> simp [Tm.sz] <;> omega
/-- what is put in makes it so many times greater at most -/
theorem sz_lt (o : Tm) : ∀ (t : Tm) (d : Nat), (t.lt [o] 0 d).sz ≤ t.sz * o.sz
  | .var i, d => by
    have := sz_pos o
    unfold Tm.lt
    split
    · simp [Tm.sz]; omega
    · split
      · rename_i u hu
        rw [sz_rs]
        have : u = o := by have := List.mem_of_getElem? hu; simpa using this
        rw [this]; simp [Tm.sz]
      · simp [Tm.sz]; omega
  | .num i, d => by have := sz_pos o; simp [Tm.lt, Tm.sz]; omega
  | .fn a, d => by have := sz_pos o; have := sz_lt o a (d + 1); simp only [Tm.lt, Tm.sz, Nat.add_mul, Nat.one_mul]; omega
  | .use a b, d => by have := sz_pos o; have := sz_lt o a d; have := sz_lt o b d; simp only [Tm.lt, Tm.sz, Nat.add_mul, Nat.one_mul]; omega
  | .up a, d => by have := sz_pos o; have := sz_lt o a d; simp only [Tm.lt, Tm.sz, Nat.add_mul, Nat.one_mul]; omega
  | .dn a, d => by have := sz_pos o; have := sz_lt o a d; simp only [Tm.lt, Tm.sz, Nat.add_mul, Nat.one_mul]; omega
  | .iff a b c, d => by have := sz_pos o; have := sz_lt o a d; have := sz_lt o b d; have := sz_lt o c d; simp only [Tm.lt, Tm.sz, Nat.add_mul, Nat.one_mul]; omega
theorem ht_kids (t : Tm) (K : Nat) (h : ∀ a ∈ t.kids, a.ht ≤ K) : t.ht ≤ K + 1 := by
  cases t <;> simp [Tm.kids] at h <;> simp [Tm.ht] <;> omega
theorem st_ht : ∀ (t u : Tm), t.st = some u → u.ht ≤ 2 * t.ht
  | .use (.fn a) b, u, h => by
    cases h
    have := ht_lt [b] b.ht (fun x hx => by rw [List.mem_singleton.mp hx]; exact Nat.le_refl _) a 0
    simp only [Tm.ht]
    omega
  | .up (.num i), u, h => by cases h; simp [Tm.ht]
  | .dn (.num i), u, h => by cases h; simp [Tm.ht]
  | .iff (.num i) a b, u, h => by
    cases h
    simp only [Tm.ht]
    split <;> omega
theorem sa_ht : ∀ (p : List Nat) (t u : Tm), t.sa p = some u → u.ht ≤ 2 * t.ht
  | [], t, u, h => by rw [sa_nil] at h; exact st_ht t u h
  | i :: p, t, u, h => by
    rw [sa_cons] at h
    cases q : t.kids[i]? with
    | none => rw [q] at h; cases h
    | some a =>
      rw [q] at h
      obtain ⟨v, hv, rfl⟩ := Option.map_eq_some_iff.mp h
      have h1 := sa_ht p a v hv
      have h2 := kids_ht t a (List.mem_of_getElem? q)
      have h3 := ht_kids (t.sk i v) (2 * t.ht - 1) fun b hb => by
        rw [sk_kids] at hb
        rcases List.mem_or_eq_of_mem_set hb with hb | rfl
        · have := kids_ht t b hb; omega
        · omega
      omega
/-- home by home, none higher than K -/
inductive Run (K : Nat) (q : List Nat) : List (List Nat) → Tm → Tm → Prop
  | nil {v : Tm} : v.ht ≤ K → Run K q [] v v
  | cons {p : List Nat} {ps : List (List Nat)} {v u w : Tm} : v.ht ≤ K → v.sa (p ++ q) = some u → Run K q ps u w → Run K q (p :: ps) v w
theorem Run.mono {K K' : Nat} {q : List Nat} {ps : List (List Nat)} {v w : Tm} (h : Run K q ps v w) (hk : K ≤ K') : Run K' q ps v w := by
  induction h with
  | nil h => exact .nil (Nat.le_trans h hk)
  | cons h1 h2 _ ih => exact .cons (Nat.le_trans h1 hk) h2 ih
theorem Run.app {K : Nat} {q : List Nat} {ps qs : List (List Nat)} {v u w : Tm} (h : Run K q ps v u) (h2 : Run K q qs u w) : Run K q (ps ++ qs) v w := by
  induction h with
  | nil h => exact h2
  | cons h1 h3 _ ih => exact .cons h1 h3 (ih h2)
theorem sk_sk (t x y : Tm) (i : Nat) : (t.sk i x).sk i y = t.sk i y := by
  rcases t with _ | _ | a | ⟨a, b⟩ | a | a | ⟨a, b, c⟩ <;> rcases i with _ | _ | _ | i <;> rfl
theorem Run.kid {K : Nat} {q : List Nat} {ps : List (List Nat)} {a b : Tm} (h : Run K q ps a b) (i : Nat) : ∀ (t : Tm), t.kids[i]? = some a → (∀ x ∈ t.kids, x.ht ≤ K) → Run (K + 1) q (ps.map (i :: ·)) t (t.sk i b) := by
  induction h with
  | @nil v hv =>
    intro t ht hk
    have e : t.sk i v = t := by
      rcases t with _ | _ | a | ⟨a, b⟩ | a | a | ⟨a, b, c⟩ <;> rcases i with _ | _ | _ | i <;> (cases ht) <;> rfl
    rw [e]
    exact .nil (ht_kids t K hk)
  | @cons p ps v u w hv hs hr ih =>
    intro t ht hk
    have hi := (List.getElem?_eq_some_iff.mp ht).1
    have h1 : (t.sk i u).kids[i]? = some u := by rw [sk_kids, List.getElem?_set_self hi]
    have hu : u.ht ≤ K := by cases hr <;> assumption
    have h2 := ih (t.sk i u) h1 fun x hx => by
      rw [sk_kids] at hx
      rcases List.mem_or_eq_of_mem_set hx with hx | rfl
      · exact hk x hx
      · exact hu
    rw [sk_sk] at h2
    refine .cons (ht_kids t K hk) ?_ h2
    show t.sa (i :: (p ++ q)) = _
    rw [sa_cons, ht]
    show (v.sa (p ++ q)).map (t.sk i) = _
    rw [hs]; rfl
theorem run_ok (o o' : Tm) (q : List Nat) (B : Nat) (h : o.sa q = some o') (hb : o.ht ≤ B) (hb' : o'.ht ≤ B) : ∀ (t : Tm) (d : Nat), Run (t.ht + B) q (t.hm d) (t.lt [o] 0 d) (t.lt [o'] 0 d)
  | .var i, d => by
    unfold Tm.hm
    by_cases c : i = d
    · subst c
      rw [if_pos rfl, lt_var_in [o] i i o (by omega) (by rw [Nat.sub_self]; rfl), lt_var_in [o'] i i o' (by omega) (by rw [Nat.sub_self]; rfl)]
      exact .cons (by rw [ht_rs]; simp [Tm.ht]; omega) (by rw [List.nil_append]; exact sa_rs i q o o' 0 h) (.nil (by rw [ht_rs]; simp [Tm.ht]; omega))
    · rw [if_neg c]
      have e : (Tm.var i).lt [o] 0 d = (Tm.var i).lt [o'] 0 d := by
        by_cases c2 : i < d
        · rw [lt_var_lt _ d i c2, lt_var_lt _ d i c2]
        · have q0 : ∀ (x : Tm), ([x] : List Tm)[i - d]? = none := fun x => List.getElem?_eq_none_iff.mpr (by simp; omega)
          rw [lt_var_out _ d i c2 (q0 _), lt_var_out _ d i c2 (q0 _)]
          rfl
      rw [e]
      exact .nil (ht_lt [o'] B (fun x hx => by rw [List.mem_singleton.mp hx]; exact hb') _ d)
  | .num i, d => .nil (by simp [Tm.lt, Tm.ht])
  | .fn a, d => by
    have hl := ht_lt [o] B (fun x hx => by rw [List.mem_singleton.mp hx]; exact hb) a (d + 1)
    have := ((run_ok o o' q B h hb hb' a (d + 1)).kid 0 (.fn (a.lt [o] 0 (d + 1))) rfl (fun x hx => by
      simp [Tm.kids] at hx; rw [hx]; exact hl)).mono (K' := (Tm.fn a).ht + B) (by simp only [Tm.ht]; omega)
    exact this
  | .use a b, d => by
    have hla := ht_lt [o] B (fun x hx => by rw [List.mem_singleton.mp hx]; exact hb) a d
    have hlb := ht_lt [o] B (fun x hx => by rw [List.mem_singleton.mp hx]; exact hb) b d
    have hla' := ht_lt [o'] B (fun x hx => by rw [List.mem_singleton.mp hx]; exact hb') a d
    have r1 := (((run_ok o o' q B h hb hb' a d).mono (K' := max a.ht b.ht + B) (by omega)).kid 0 (.use (a.lt [o] 0 d) (b.lt [o] 0 d)) rfl (fun x hx => by
      simp [Tm.kids] at hx; rcases hx with rfl | rfl <;> omega))
    have r2 := (((run_ok o o' q B h hb hb' b d).mono (K' := max a.ht b.ht + B) (by omega)).kid 1 (.use (a.lt [o'] 0 d) (b.lt [o] 0 d)) rfl (fun x hx => by
      simp [Tm.kids] at hx; rcases hx with rfl | rfl <;> omega))
    exact (Run.app r1 r2).mono (by simp only [Tm.ht]; omega)
  | .up a, d => by
    have hl := ht_lt [o] B (fun x hx => by rw [List.mem_singleton.mp hx]; exact hb) a d
    have := ((run_ok o o' q B h hb hb' a d).kid 0 (.up (a.lt [o] 0 d)) rfl (fun x hx => by
      simp [Tm.kids] at hx; rw [hx]; exact hl)).mono (K' := (Tm.up a).ht + B) (by simp only [Tm.ht]; omega)
    exact this
  | .dn a, d => by
    have hl := ht_lt [o] B (fun x hx => by rw [List.mem_singleton.mp hx]; exact hb) a d
    have := ((run_ok o o' q B h hb hb' a d).kid 0 (.dn (a.lt [o] 0 d)) rfl (fun x hx => by
      simp [Tm.kids] at hx; rw [hx]; exact hl)).mono (K' := (Tm.dn a).ht + B) (by simp only [Tm.ht]; omega)
    exact this
  | .iff a b c, d => by
    have hla := ht_lt [o] B (fun x hx => by rw [List.mem_singleton.mp hx]; exact hb) a d
    have hlb := ht_lt [o] B (fun x hx => by rw [List.mem_singleton.mp hx]; exact hb) b d
    have hlc := ht_lt [o] B (fun x hx => by rw [List.mem_singleton.mp hx]; exact hb) c d
    have hla' := ht_lt [o'] B (fun x hx => by rw [List.mem_singleton.mp hx]; exact hb') a d
    have hlb' := ht_lt [o'] B (fun x hx => by rw [List.mem_singleton.mp hx]; exact hb') b d
    have r1 := (((run_ok o o' q B h hb hb' a d).mono (K' := max a.ht (max b.ht c.ht) + B) (by omega)).kid 0 (.iff (a.lt [o] 0 d) (b.lt [o] 0 d) (c.lt [o] 0 d)) rfl (fun x hx => by
      simp [Tm.kids] at hx; rcases hx with rfl | rfl | rfl <;> omega))
    have r2 := (((run_ok o o' q B h hb hb' b d).mono (K' := max a.ht (max b.ht c.ht) + B) (by omega)).kid 1 (.iff (a.lt [o'] 0 d) (b.lt [o] 0 d) (c.lt [o] 0 d)) rfl (fun x hx => by
      simp [Tm.kids] at hx; rcases hx with rfl | rfl | rfl <;> omega))
    have r3 := (((run_ok o o' q B h hb hb' c d).mono (K' := max a.ht (max b.ht c.ht) + B) (by omega)).kid 2 (.iff (a.lt [o'] 0 d) (b.lt [o'] 0 d) (c.lt [o] 0 d)) rfl (fun x hx => by
      simp [Tm.kids] at hx; rcases hx with rfl | rfl | rfl <;> omega))
    exact (Run.app r1 (Run.app r2 r3)).mono (by simp only [Tm.ht]; omega)
/-! ### functions around, counted -/
def isFat (t : Tm) (p : List Nat) (k : Nat) : Bool := match t.pt (p.take k) with
  | some y => y.isF == 1
  | none => false
theorem fu_count : ∀ (p : List Nat) (t x : Tm), t.pt p = some x → ((List.range p.length).filter (isFat t p)).length = t.fu p
  | [], t, x, h => rfl
  | i :: p, t, x, h => by
    obtain ⟨a, h1, h2⟩ := pt_cons t x i p h
    have e : t.fu (i :: p) = t.isF + a.fu p := by
      show t.isF + (match t.kids[i]? with | some a => a.fu p | none => 0) = _
      rw [h1]
    rw [e, ← fu_count p a x h2, List.length_cons, List.range_succ_eq_map]
    have e2 : (List.map Nat.succ (List.range p.length)).filter (isFat t (i :: p)) = (List.filter (isFat a p) (List.range p.length)).map Nat.succ := by
      rw [List.filter_map]
      congr 1
      apply List.filter_congr
      intro k _
      show isFat t (i :: p) (k + 1) = isFat a p k
      unfold isFat
      show (match (match t.kids[i]? with | some a => a.pt (p.take k) | none => none) with | some y => y.isF == 1 | none => false) = _
      rw [h1]
    cases q : isFat t (i :: p) 0 with
    | true =>
      rw [List.filter_cons_of_pos q, e2, List.length_cons, List.length_map]
      have : t.isF = 1 := by
        unfold isFat at q
        have q : (t.isF == 1) = true := q
        exact eq_of_beq q
      omega
    | false =>
      rw [List.filter_cons_of_neg (by rw [q]; exact Bool.false_ne_true), e2, List.length_map]
      have : t.isF = 0 := by
        unfold isFat at q
        have q : (t.isF == 1) = false := q
        cases t <;> first | rfl | (simp [Tm.isF] at q)
      omega
/-! ### in, and what stands first -/
theorem dep_pls : ∀ ps : List (List Nat), PyData.depthAll (ps.map plD) ≤ 2
  | [] => by simp [PyData.depthAll]
  | p :: ps => by
    show max (plD p).depth (PyData.depthAll _) ≤ 2
    have := dep_pls ps
    have := dep_pl p
    omega
theorem lay_pls : ∀ ps : List (List Nat), PyData.canLayAll0 (ps.map plD) = true
  | [] => rfl
  | p :: ps => by
    show ((plD p).canLay0 && PyData.canLayAll0 (ps.map plD)) = true
    rw [lay_pl, lay_pls ps]; rfl
theorem isin_pl (p : List Nat) (ps : List (List Nat)) (h : p ∈ ps) : cmpD .isin (plD p) (plO ps).frz = some true := by
  rw [plO_frz]
  have s1 : SeqAt.shaped (plD p) = true := by
    unfold SeqAt.shaped
    rw [lay_pl, decide_eq_true (Nat.le_trans (dep_pl p) (by decide))]; rfl
  have s2 : SeqAt.shaped (.list (ps.map plD)) = true := by
    unfold SeqAt.shaped
    have e1 : (PyData.list (ps.map plD)).canLay0 = true := lay_pls ps
    have e2 : (PyData.list (ps.map plD)).depth ≤ 64 := by
      show PyData.depthAll _ + 1 ≤ 64
      have := dep_pls ps
      omega
    rw [e1, decide_eq_true e2]; rfl
  show (if SeqAt.shaped (plD p) && SeqAt.shaped (.list (ps.map plD)) then some (false != inList (plD p) (ps.map plD)) else none) = _
  rw [s1, s2]
  have e3 : inList (plD p) (ps.map plD) = true := by
    unfold inList
    refine List.any_eq_true.mpr ⟨plD p, List.mem_map.mpr ⟨p, h, rfl⟩, ?_⟩
    show PyData.eqvAll _ _ = true
    rw [eqv_ints]; simp
  rw [e3]
  rfl
theorem isin_0 (ns : List Nat) : cmpD .isin (.int 0) (.list (iD ns)) = some (decide (0 ∈ ns)) := by
  have s1 : SeqAt.shaped (.int 0) = true := by kernel_rfl
  have s2 : SeqAt.shaped (.list (iD ns)) = true := by
    unfold SeqAt.shaped
    have e1 : (PyData.list (iD ns)).canLay0 = true := lay_ints ns
    have e2 : (PyData.list (iD ns)).depth ≤ 64 := by
      show PyData.depthAll _ + 1 ≤ 64
      have := dep_ints ns
      unfold iD
      omega
    rw [e1, decide_eq_true e2]; rfl
  show (if SeqAt.shaped (.int 0) && SeqAt.shaped (.list (iD ns)) then some (false != inList (.int 0) (iD ns)) else none) = _
  rw [s1, s2]
  show some (false != inList (.int 0) (iD ns)) = _
  have e3 : inList (.int 0) (iD ns) = decide (0 ∈ ns) := by
    unfold inList iD
    clear s1 s2
    induction ns with
    | nil => rfl
    | cons n ns ih =>
      rw [List.map_cons, List.any_cons, ih]
      show (((n : Int) == 0) || decide (0 ∈ ns)) = _
      by_cases c : n = 0
      · subst c; simp
      · have : ((n : Int) == 0) = false := beq_false_of_ne (by omega)
        rw [this]
        have c' : ¬ 0 = n := fun z => c z.symm
        simp [c']
  rw [e3]
  cases decide (0 ∈ ns) <;> rfl
theorem ix_hd (t : Tm) : ixD (enc t) (.int 0) = some (.str t.hd) := by
  cases t <;> (show L2.atI _ _ = _; exact at0)
theorem eq_fun (t : Tm) : cmpD .eq (.str t.hd) (.str "fun") = some (t.isF == 1) := by
  cases t <;> kernel_rfl
theorem eq_var (t : Tm) : cmpD .eq (.str t.hd) (.str "var") = some (match t with | .var _ => true | _ => false) := by
  cases t <;> kernel_rfl
theorem addPP (p q : List Nat) (h : p.length + q.length ≤ 990) : binD .add (plD p) (plD q) = some (.fz (plD (p ++ q))) := by
  unfold plD
  rw [addT (by simp; omega), List.map_append]
end K04

set_option Elab.async false
set_option linter.all false
set_option maxRecDepth 100000
set_option maxHeartbeats 8000000
namespace K04
open PySem Co
def intP (Qb : Nat → Bool) : D → Bool
  | .int i => Qb i.toNat
  | _ => false
theorem filter_int (Qb : Nat → Bool) : ∀ xs : List Nat, (xs.map fun k : Nat => PyData.int k).filter (intP Qb) = (xs.filter Qb).map fun k : Nat => PyData.int k
  | [] => rfl
  | x :: xs => by
    have e : intP Qb (.int x) = Qb x := rfl
    rw [List.map_cons, List.filter_cons, List.filter_cons, e, filter_int Qb xs]
    split <;> rfl
def varIs : Tm → Int → Bool
  | .var i, n => (i : Int) == n
  | _, _ => false
theorem lc7_ok {cf : CF} {o : O} {Uq Vq Hq r1 r2 r3 d1 d2 d3 Wd Pq Lr : D} {x9 x10 x12 x14 x16 : Option W} (t x : Tm) (p : List Nat) (hp : t.pt p = some x) (hl : p.length ≤ 900) (h1 : ∀ p x, t.pt p = some x → cf "_law_part" [.fz (enc t), .fz (plD p)] = .ret (.fz (enc x)) []) :
    E.ev cf g (.lc [("k", 15)] (.n 15) (.rng1 (.b1 .len (.rd 13))) (.cmp .eq (.ix (.call "_law_part" (.cons (.v 1) (.cons (.sl (.rd 13) (.k .none) (.rd 15)) .nil))) (.k (.int 0))) (.k (.str "fun"))) (.v 15)) [some (.io o), some (.fz (enc t)), some (.fz Uq), some (.fz Vq), some (.fz Hq), some (.own (.l [.d r1, .d r2, .d r3])), some (.own (.l [.d d1, .d d2, .d d3])), some (.fz Wd), some (.fz Pq), x9, x10, some (.fz Lr), x12, some (.fz (plD p)), x14, none, x16, none, none] = .ok (.w (.own (.l ((((List.range p.length).filter (isFat t p)).map fun k : Nat => PyData.int k).map .d)))) [some (.io o), some (.fz (enc t)), some (.fz Uq), some (.fz Vq), some (.fz Hq), some (.own (.l [.d r1, .d r2, .d r3])), some (.own (.l [.d d1, .d d2, .d d3])), some (.fz Wd), some (.fz Pq), x9, x10, some (.fz Lr), x12, some (.fz (plD p)), x14, none, x16, none, none] := by
  have hit : I.ev cf g (.rng1 (.b1 .len (.rd 13))) [some (.io o), some (.fz (enc t)), some (.fz Uq), some (.fz Vq), some (.fz Hq), some (.own (.l [.d r1, .d r2, .d r3])), some (.own (.l [.d d1, .d d2, .d d3])), some (.fz Wd), some (.fz Pq), x9, x10, some (.fz Lr), x12, some (.fz (plD p)), x14, none, x16, none, none] = .ok (rngD 0 1 p.length) [some (.io o), some (.fz (enc t)), some (.fz Uq), some (.fz Vq), some (.fz Hq), some (.own (.l [.d r1, .d r2, .d r3])), some (.own (.l [.d d1, .d d2, .d d3])), some (.fz Wd), some (.fz Pq), x9, x10, some (.fz Lr), x12, some (.fz (plD p)), x14, none, x16, none, none] :=
    rng1_ev _ _ _ _ (.w (.fz (.int (p.map fun i : Nat => PyData.int i).length))) _ p.length (by omega) rfl (by rw [List.length_map]; rfl)
  have er : rngD 0 1 p.length = (List.range p.length).map fun k : Nat => PyData.int k := by
    unfold rngD
    apply List.map_congr_left
    intro k _
    have e : (0 : Int) + (k : Int) * 1 = (k : Int) := by omega
    exact congrArg PyData.int e
  rw [er] at hit
  have key := lc_filter (cf := cf) (g := g) (i := 15) (nm := "k") (c := (.cmp .eq (.ix (.call "_law_part" (.cons (.v 1) (.cons (.sl (.rd 13) (.k .none) (.rd 15)) .nil))) (.k (.int 0))) (.k (.str "fun")))) (e := .v 15) (ρ := [some (.io o), some (.fz (enc t)), some (.fz Uq), some (.fz Vq), some (.fz Hq), some (.own (.l [.d r1, .d r2, .d r3])), some (.own (.l [.d d1, .d d2, .d d3])), some (.fz Wd), some (.fz Pq), x9, x10, some (.fz Lr), x12, some (.fz (plD p)), x14, none, x16, none, none]) (P := intP (isFat t p)) (f := O.d) hit (by rw [List.length_map, List.length_range]; omega) (by
    intro d hd
    obtain ⟨k, hk, rfl⟩ := List.mem_map.mp hd
    have hk := List.mem_range.mp hk
    obtain ⟨y, a, hy, _, _⟩ := along t x p hp k p[k] (List.getElem?_eq_getElem hk)
    have eP : isFat t p ((k : Int).toNat) = (y.isF == 1) := by
      rw [Int.toNat_natCast]
      unfold isFat
      rw [hy]
    refine ⟨?_, fun _ => ⟨.fz (.int k), rfl, rfl⟩⟩
    have hs : slD (plD p) none (some (k : Int)) = some (.fz (plD (p.take k))) := by
      show some (W.fz (.tuple (cutA _ _ _))) = _
      rw [cutI _ _ (by rw [List.length_map]; omega), ← List.map_take]
      rfl
    have hsl : E.ev cf g (.sl (.rd 13) (.k .none) (.rd 15)) [some (.io o), some (.fz (enc t)), some (.fz Uq), some (.fz Vq), some (.fz Hq), some (.own (.l [.d r1, .d r2, .d r3])), some (.own (.l [.d d1, .d d2, .d d3])), some (.fz Wd), some (.fz Pq), x9, x10, some (.fz Lr), x12, some (.fz (plD p)), x14, some (.fz (.int k)), x16, none, none] = .ok (.w (.fz (plD (p.take k)))) [some (.io o), some (.fz (enc t)), some (.fz Uq), some (.fz Vq), some (.fz Hq), some (.own (.l [.d r1, .d r2, .d r3])), some (.own (.l [.d d1, .d d2, .d d3])), some (.fz Wd), some (.fz Pq), x9, x10, some (.fz Lr), x12, some (.fz (plD p)), x14, some (.fz (.int k)), x16, none, none] := by
      show ofO (slD (plD p) none (some (k : Int))) _ = _
      rw [hs]; rfl
    show T.tst cf g _ [some (.io o), some (.fz (enc t)), some (.fz Uq), some (.fz Vq), some (.fz Hq), some (.own (.l [.d r1, .d r2, .d r3])), some (.own (.l [.d d1, .d d2, .d d3])), some (.fz Wd), some (.fz Pq), x9, x10, some (.fz Lr), x12, some (.fz (plD p)), x14, some (.fz (.int k)), x16, none, none] = .ok (isFat t p ((k : Int).toNat)) [some (.io o), some (.fz (enc t)), some (.fz Uq), some (.fz Vq), some (.fz Hq), some (.own (.l [.d r1, .d r2, .d r3])), some (.own (.l [.d d1, .d d2, .d d3])), some (.fz Wd), some (.fz Pq), x9, x10, some (.fz Lr), x12, some (.fz (plD p)), x14, some (.fz (.int k)), x16, none, none]
    rw [eP]
    show two none _ _ _ _ = _
    rw [two_none, ev_ix]
    show ((two none _ _ _ _).bind _) = _
    rw [two_none, ev_call]
    have hes : Es.ev cf g (.cons (.v 1) (.cons (.sl (.rd 13) (.k .none) (.rd 15)) .nil)) [some (.io o), some (.fz (enc t)), some (.fz Uq), some (.fz Vq), some (.fz Hq), some (.own (.l [.d r1, .d r2, .d r3])), some (.own (.l [.d d1, .d d2, .d d3])), some (.fz Wd), some (.fz Pq), x9, x10, some (.fz Lr), x12, some (.fz (plD p)), x14, some (.fz (.int k)), x16, none, none] = .ok [.a (.fz (enc t)), .a (.fz (plD (p.take k)))] [some (.io o), some (.fz (enc t)), some (.fz Uq), some (.fz Vq), some (.fz Hq), some (.own (.l [.d r1, .d r2, .d r3])), some (.own (.l [.d d1, .d d2, .d d3])), some (.fz Wd), some (.fz Pq), x9, x10, some (.fz Lr), x12, some (.fz (plD p)), x14, some (.fz (.int k)), x16, none, none] := by
      simp only [Es.ev, hsl, ev_v, vZ, List.getElem?_cons_zero, List.getElem?_cons_succ, R.bind_ok, nonBw_w]
    rw [hes, R.bind_ok, dc2, h1 _ y hy]
    simp only [ev_v, ev_rd, ev_g, ev_k, ev_bin, ev_cmp, ev_chain, ev_andE, ev_orE, ev_nt, ev_ife, ev_tup, ev_lst, ev_ix, ev_sl, ev_call, ev_callk, ev_own, ev_b1, ev_b2, ev_isi, ev_gin, ev_gix, ss_nil, ss_cons, ex_asg, ex_par, ex_ife, ex_ret, setTg_n, Es.ev, T.tst, I.ev, two_none, two_some, isRd, rdZ, vZ, List.getElem?_cons_zero, List.getElem?_cons_succ, R.bind_ok, ixF_fz, ixT, at0, at1, at2, ofD_some, liftO_some, nonBw_w, cmpT_fz, Z.dat_fz, Fl.of_ok, dc1, dc2, dc3, dc4, dca1, dca2, dca3, dca4, dcaO1, dcaO2, po1, po2, po3, po4, io_fz, wdat, tup0, tup1, tup2, tup3, tup4, lst0, lst1, lst3, List.set_cons_succ, List.set_cons_zero, Fl.then_nx, ix_hd, eq_fun])
  rw [filter_int] at key
  exact key
theorem app_ev {cf : CF} {gg : G} {fu i : Nat} {e : E} {ρ : Co.Env} {x : W} {os : List O} (hi : ρ[i]? = some (some (.own (.l os)))) (he : e.ev cf gg ρ = .ok (.w x) ρ) (hl : os.length ≤ 1000000) :
    S.ex cf gg fu (.app i e) ρ = .nx (ρ.set i (some (.own (.l (os ++ [x.o]))))) := by
  show (if isL i ρ then Fl.of (e.ev cf gg ρ) fun z ρ1 => Fl.of (nonBw z ρ1) fun x ρ2 => chg i ρ2 (appF x) else .bad) = _
  have h1 : isL i ρ = true := by unfold isL; rw [hi]; rfl
  rw [if_pos h1, he]
  show chg i ρ (appF x) = _
  unfold chg
  rw [hi]
  show (match appF x os with
      | some os' => Fl.nx (ρ.set i (some ((W.own (.l os)).re (.l os'))))
      | none => .bad) = _
  have h2 : appF x os = some (os ++ [x.o]) := by
    show (if os.length < sizeLine then some (os ++ [x.o]) else none) = _
    rw [if_pos (by rw [sizeLine_eq]; omega)]
  rw [h2]
  rfl
theorem ss_nil_then {cf : CF} {gg : G} {fu : Nat} (f : Fl) : f.then (Ss.ex cf gg fu .nil) = f := by cases f <;> rfl
theorem bd7 {cf : CF} {o : O} {Uq Vq Hq r1 r2 r3 d1 d2 d3 Wd Pq Lr : D} {x9 x10 x14 x16 : Option W} (t x : Tm) (p : List Nat) (hs : List (List Nat)) (hp : t.pt p = some x) (hl : p.length ≤ 900) (hl2 : hs.length ≤ 1000000) (h1 : ∀ p x, t.pt p = some x → cf "_law_part" [.fz (enc t), .fz (plD p)] = .ret (.fz (enc x)) []) :
    ∃ y14, Ss.ex cf g fuel (.cons (.asg (.n 14) (.b1 .len (.lc [("k", 15)] (.n 15) (.rng1 (.b1 .len (.rd 13))) (.cmp .eq (.ix (.call "_law_part" (.cons (.v 1) (.cons (.sl (.rd 13) (.k .none) (.rd 15)) .nil))) (.k (.int 0))) (.k (.str "fun"))) (.v 15))))
    (.cons (.ife (.and (.cmp .eq (.ix (.call "_law_part" (.cons (.v 1) (.cons (.v 13) .nil))) (.k (.int 0))) (.k (.str "var"))) (.cmp .eq (.ix (.call "_law_part" (.cons (.v 1) (.cons (.v 13) .nil))) (.k (.int 1))) (.rd 14))) (.cons (.app 12 (.v 13))
    .nil) .nil)
    .nil)) [some (.io o), some (.fz (enc t)), some (.fz Uq), some (.fz Vq), some (.fz Hq), some (.own (.l [.d r1, .d r2, .d r3])), some (.own (.l [.d d1, .d d2, .d d3])), some (.fz Wd), some (.fz Pq), x9, x10, some (.fz Lr), some (.own (plO hs)), some (.fz (plD p)), x14, none, x16, none, none] = .nx [some (.io o), some (.fz (enc t)), some (.fz Uq), some (.fz Vq), some (.fz Hq), some (.own (.l [.d r1, .d r2, .d r3])), some (.own (.l [.d d1, .d d2, .d d3])), some (.fz Wd), some (.fz Pq), x9, x10, some (.fz Lr), some (.own (plO (if isV t 0 p then hs ++ [p] else hs))), some (.fz (plD p)), y14, none, x16, none, none] := by
  have hlc := lc7_ok (o := o) (Uq := Uq) (Vq := Vq) (Hq := Hq) (r1 := r1) (r2 := r2) (r3 := r3) (d1 := d1) (d2 := d2) (d3 := d3) (Wd := Wd) (Pq := Pq) (Lr := Lr) (x9 := x9) (x10 := x10) (x12 := some (.own (plO hs))) (x14 := x14) (x16 := x16) t x p hp hl h1
  have hc := fu_count p t x hp
  have hlen : ∀ ρ, b1F .len (.w (.own (.l ((((List.range p.length).filter (isFat t p)).map fun k : Nat => PyData.int k).map .d)))) ρ = .ok (.w (.fz (.int (t.fu p : Nat)))) ρ := fun ρ => by
    show ofO (b1D .len (.list (O.frzs ((((List.range p.length).filter (isFat t p)).map fun k : Nat => PyData.int k).map .d)))) ρ = _
    rw [frz_map]
    show R.ok (Z.w (.fz (.int ((((List.range p.length).filter (isFat t p)).map fun k : Nat => PyData.int k).length : Nat)))) ρ = _
    rw [List.length_map, hc]
  have s0 : S.ex cf g fuel (.asg (.n 14) (.b1 .len (.lc [("k", 15)] (.n 15) (.rng1 (.b1 .len (.rd 13))) (.cmp .eq (.ix (.call "_law_part" (.cons (.v 1) (.cons (.sl (.rd 13) (.k .none) (.rd 15)) .nil))) (.k (.int 0))) (.k (.str "fun"))) (.v 15)))) [some (.io o), some (.fz (enc t)), some (.fz Uq), some (.fz Vq), some (.fz Hq), some (.own (.l [.d r1, .d r2, .d r3])), some (.own (.l [.d d1, .d d2, .d d3])), some (.fz Wd), some (.fz Pq), x9, x10, some (.fz Lr), some (.own (plO hs)), some (.fz (plD p)), x14, none, x16, none, none] = .nx [some (.io o), some (.fz (enc t)), some (.fz Uq), some (.fz Vq), some (.fz Hq), some (.own (.l [.d r1, .d r2, .d r3])), some (.own (.l [.d d1, .d d2, .d d3])), some (.fz Wd), some (.fz Pq), x9, x10, some (.fz Lr), some (.own (plO hs)), some (.fz (plD p)), some (.fz (.int (t.fu p : Nat))), none, x16, none, none] := by
    rw [ex_asg, ev_b1, hlc, R.bind_ok, hlen]
    rfl
  have hx := h1 p x hp
  have eV : isV t 0 p = varIs x (t.fu p : Nat) := by
    unfold isV
    rw [hp]
    clear hx hp
    cases x <;> first | rfl | skip
    rename_i i
    show (i == 0 + t.fu p) = ((i : Int) == (t.fu p : Nat))
    rw [Nat.zero_add]
    by_cases c : i = t.fu p
    · rw [c]; simp
    · rw [beq_false_of_ne c, beq_false_of_ne (show ((i : Nat) : Int) ≠ (t.fu p : Nat) by omega)]
  have happ := app_ev (cf := cf) (gg := g) (fu := fuel) (i := 12) (e := .v 13) (ρ := [some (.io o), some (.fz (enc t)), some (.fz Uq), some (.fz Vq), some (.fz Hq), some (.own (.l [.d r1, .d r2, .d r3])), some (.own (.l [.d d1, .d d2, .d d3])), some (.fz Wd), some (.fz Pq), x9, x10, some (.fz Lr), some (.own (plO hs)), some (.fz (plD p)), some (.fz (.int (t.fu p : Nat))), none, x16, none, none]) (x := .fz (plD p)) (os := hs.map fun p => O.d (plD p)) rfl rfl (by rw [List.length_map]; exact hl2)
  refine ⟨some (.fz (.int (t.fu p : Nat))), ?_⟩
  rw [ss_cons, s0, Fl.then_nx, ss_cons, ss_nil_then]
  rw [eV]
  have i0 := ix_hd x
  have q0 := eq_var x
  have appE : Fl.nx ([some (.io o), some (.fz (enc t)), some (.fz Uq), some (.fz Vq), some (.fz Hq), some (.own (.l [.d r1, .d r2, .d r3])), some (.own (.l [.d d1, .d d2, .d d3])), some (.fz Wd), some (.fz Pq), x9, x10, some (.fz Lr), some (.own (plO hs)), some (.fz (plD p)), some (.fz (.int (t.fu p : Nat))), none, x16, none, none].set 12 (some (.own (.l ((hs.map fun p => O.d (plD p)) ++ [(W.fz (plD p)).o]))))) = Fl.nx [some (.io o), some (.fz (enc t)), some (.fz Uq), some (.fz Vq), some (.fz Hq), some (.own (.l [.d r1, .d r2, .d r3])), some (.own (.l [.d d1, .d d2, .d d3])), some (.fz Wd), some (.fz Pq), x9, x10, some (.fz Lr), some (.own (plO (hs ++ [p]))), some (.fz (plD p)), some (.fz (.int (t.fu p : Nat))), none, x16, none, none] := by
    show Fl.nx [some (.io o), some (.fz (enc t)), some (.fz Uq), some (.fz Vq), some (.fz Hq), some (.own (.l [.d r1, .d r2, .d r3])), some (.own (.l [.d d1, .d d2, .d d3])), some (.fz Wd), some (.fz Pq), x9, x10, some (.fz Lr), some (.own (.l (_ ++ [_]))), some (.fz (plD p)), some (.fz (.int (t.fu p : Nat))), none, x16, none, none] = Fl.nx [some (.io o), some (.fz (enc t)), some (.fz Uq), some (.fz Vq), some (.fz Hq), some (.own (.l [.d r1, .d r2, .d r3])), some (.own (.l [.d d1, .d d2, .d d3])), some (.fz Wd), some (.fz Pq), x9, x10, some (.fz Lr), some (.own (.l _)), some (.fz (plD p)), some (.fz (.int (t.fu p : Nat))), none, x16, none, none]
    rw [List.map_append]
    rfl
  cases x with
  | var i =>
    have q1 : ixD (enc (.var i)) (.int 1) = some (.int i) := by show L2.atI _ _ = _; exact at1
    cases c : ((i : Int) == (t.fu p : Nat)) with
    | true =>
      have cv : varIs (.var i) (t.fu p : Nat) = true := c
      rw [cv]
      show _ = Fl.nx [some (.io o), some (.fz (enc t)), some (.fz Uq), some (.fz Vq), some (.fz Hq), some (.own (.l [.d r1, .d r2, .d r3])), some (.own (.l [.d d1, .d d2, .d d3])), some (.fz Wd), some (.fz Pq), x9, x10, some (.fz Lr), some (.own (plO (if true = true then hs ++ [p] else hs))), some (.fz (plD p)), some (.fz (.int (t.fu p : Nat))), none, x16, none, none]
      rw [if_pos rfl, ← appE, ← happ]
      simp only [ev_v, ev_rd, ev_g, ev_k, ev_bin, ev_cmp, ev_chain, ev_andE, ev_orE, ev_nt, ev_ife, ev_tup, ev_lst, ev_ix, ev_sl, ev_call, ev_callk, ev_own, ev_b1, ev_b2, ev_isi, ev_gin, ev_gix, ss_nil, ss_cons, ex_asg, ex_par, ex_ife, ex_ret, setTg_n, Es.ev, T.tst, I.ev, two_none, two_some, isRd, rdZ, vZ, List.getElem?_cons_zero, List.getElem?_cons_succ, R.bind_ok, ixF_fz, ixT, at0, at1, at2, ofD_some, liftO_some, nonBw_w, cmpT_fz, Z.dat_fz, Fl.of_ok, dc1, dc2, dc3, dc4, dca1, dca2, dca3, dca4, dcaO1, dcaO2, po1, po2, po3, po4, io_fz, wdat, tup0, tup1, tup2, tup3, tup4, lst0, lst1, lst3, List.set_cons_succ, List.set_cons_zero, Fl.then_nx, hx, i0, q0, q1, eq_int, c, if_true]
      cases S.ex cf g fuel (.app 12 (.v 13)) _ <;> rfl
    | false =>
      have cv : varIs (.var i) (t.fu p : Nat) = false := c
      rw [cv]
      show _ = Fl.nx [some (.io o), some (.fz (enc t)), some (.fz Uq), some (.fz Vq), some (.fz Hq), some (.own (.l [.d r1, .d r2, .d r3])), some (.own (.l [.d d1, .d d2, .d d3])), some (.fz Wd), some (.fz Pq), x9, x10, some (.fz Lr), some (.own (plO (if false = true then hs ++ [p] else hs))), some (.fz (plD p)), some (.fz (.int (t.fu p : Nat))), none, x16, none, none]
      rw [if_neg Bool.false_ne_true]
      simp only [ev_v, ev_rd, ev_g, ev_k, ev_bin, ev_cmp, ev_chain, ev_andE, ev_orE, ev_nt, ev_ife, ev_tup, ev_lst, ev_ix, ev_sl, ev_call, ev_callk, ev_own, ev_b1, ev_b2, ev_isi, ev_gin, ev_gix, ss_nil, ss_cons, ex_asg, ex_par, ex_ife, ex_ret, setTg_n, Es.ev, T.tst, I.ev, two_none, two_some, isRd, rdZ, vZ, List.getElem?_cons_zero, List.getElem?_cons_succ, R.bind_ok, ixF_fz, ixT, at0, at1, at2, ofD_some, liftO_some, nonBw_w, cmpT_fz, Z.dat_fz, Fl.of_ok, dc1, dc2, dc3, dc4, dca1, dca2, dca3, dca4, dcaO1, dcaO2, po1, po2, po3, po4, io_fz, wdat, tup0, tup1, tup2, tup3, tup4, lst0, lst1, lst3, List.set_cons_succ, List.set_cons_zero, Fl.then_nx, hx, i0, q0, q1, eq_int, c, if_true, Bool.false_eq_true, if_false]
  | _ =>
    show _ = Fl.nx [some (.io o), some (.fz (enc t)), some (.fz Uq), some (.fz Vq), some (.fz Hq), some (.own (.l [.d r1, .d r2, .d r3])), some (.own (.l [.d d1, .d d2, .d d3])), some (.fz Wd), some (.fz Pq), x9, x10, some (.fz Lr), some (.own (plO (if false = true then hs ++ [p] else hs))), some (.fz (plD p)), some (.fz (.int (t.fu p : Nat))), none, x16, none, none]
    rw [if_neg Bool.false_ne_true]
    simp only [ev_v, ev_rd, ev_g, ev_k, ev_bin, ev_cmp, ev_chain, ev_andE, ev_orE, ev_nt, ev_ife, ev_tup, ev_lst, ev_ix, ev_sl, ev_call, ev_callk, ev_own, ev_b1, ev_b2, ev_isi, ev_gin, ev_gix, ss_nil, ss_cons, ex_asg, ex_par, ex_ife, ex_ret, setTg_n, Es.ev, T.tst, I.ev, two_none, two_some, isRd, rdZ, vZ, List.getElem?_cons_zero, List.getElem?_cons_succ, R.bind_ok, ixF_fz, ixT, at0, at1, at2, ofD_some, liftO_some, nonBw_w, cmpT_fz, Z.dat_fz, Fl.of_ok, dc1, dc2, dc3, dc4, dca1, dca2, dca3, dca4, dcaO1, dcaO2, po1, po2, po3, po4, io_fz, wdat, tup0, tup1, tup2, tup3, tup4, lst0, lst1, lst3, List.set_cons_succ, List.set_cons_zero, Fl.then_nx, hx, i0, q0, Bool.false_eq_true, if_false]
end K04

set_option Elab.async false
set_option linter.all false
set_option maxRecDepth 100000
set_option maxHeartbeats 8000000
namespace K04
open PySem Co
theorem it_seq (cf : CF) (gg : G) (e : E) (ρ : Co.Env) : I.ev cf gg (.seq e) ρ = (e.ev cf gg ρ).bind fun z ρ1 => (nonBw z ρ1).bind fun x ρ2 => liftO (seqI x.dat) ρ2 := rfl
theorem hm7 {cf : CF} {o : O} {Uq Vq Hq r1 r2 r3 d1 d2 d3 Wd Pq Lr : D} {x9 x10 x13 x14 x16 : Option W} (t : Tm) (hz : t.sz ≤ 900000) (hh : t.ht ≤ 900) (h0 : cf "_law_places" [.fz (enc t)] = .ret (.fz (.list (t.pl.map plD))) []) (h1 : ∀ p x, t.pt p = some x → cf "_law_part" [.fz (enc t), .fz (plD p)] = .ret (.fz (enc x)) []) :
    ∃ y13 y14, S.ex cf g fuel (.for (.n 13) (.seq (.call "_law_places" (.cons (.v 1) .nil))) (.cons (.asg (.n 14) (.b1 .len (.lc [("k", 15)] (.n 15) (.rng1 (.b1 .len (.rd 13))) (.cmp .eq (.ix (.call "_law_part" (.cons (.v 1) (.cons (.sl (.rd 13) (.k .none) (.rd 15)) .nil))) (.k (.int 0))) (.k (.str "fun"))) (.v 15))))
    (.cons (.ife (.and (.cmp .eq (.ix (.call "_law_part" (.cons (.v 1) (.cons (.v 13) .nil))) (.k (.int 0))) (.k (.str "var"))) (.cmp .eq (.ix (.call "_law_part" (.cons (.v 1) (.cons (.v 13) .nil))) (.k (.int 1))) (.rd 14))) (.cons (.app 12 (.v 13))
    .nil) .nil)
    .nil))) [some (.io o), some (.fz (enc t)), some (.fz Uq), some (.fz Vq), some (.fz Hq), some (.own (.l [.d r1, .d r2, .d r3])), some (.own (.l [.d d1, .d d2, .d d3])), some (.fz Wd), some (.fz Pq), x9, x10, some (.fz Lr), some (.own (plO [])), x13, x14, none, x16, none, none] = .nx [some (.io o), some (.fz (enc t)), some (.fz Uq), some (.fz Vq), some (.fz Hq), some (.own (.l [.d r1, .d r2, .d r3])), some (.own (.l [.d d1, .d d2, .d d3])), some (.fz Wd), some (.fz Pq), x9, x10, some (.fz Lr), some (.own (plO (t.hm 0))), y13, y14, none, x16, none, none] := by
  have hit : I.ev cf g (.seq (.call "_law_places" (.cons (.v 1) .nil))) [some (.io o), some (.fz (enc t)), some (.fz Uq), some (.fz Vq), some (.fz Hq), some (.own (.l [.d r1, .d r2, .d r3])), some (.own (.l [.d d1, .d d2, .d d3])), some (.fz Wd), some (.fz Pq), x9, x10, some (.fz Lr), some (.own (plO [])), x13, x14, none, x16, none, none] = .ok (t.pl.map plD) [some (.io o), some (.fz (enc t)), some (.fz Uq), some (.fz Vq), some (.fz Hq), some (.own (.l [.d r1, .d r2, .d r3])), some (.own (.l [.d d1, .d d2, .d d3])), some (.fz Wd), some (.fz Pq), x9, x10, some (.fz Lr), some (.own (plO [])), x13, x14, none, x16, none, none] := by
    simp only [ev_v, ev_rd, ev_g, ev_k, ev_bin, ev_cmp, ev_chain, ev_andE, ev_orE, ev_nt, ev_ife, ev_tup, ev_lst, ev_ix, ev_sl, ev_call, ev_callk, ev_own, ev_b1, ev_b2, ev_isi, ev_gin, ev_gix, ss_nil, ss_cons, ex_asg, ex_par, ex_ife, ex_ret, setTg_n, Es.ev, T.tst, I.ev, two_none, two_some, isRd, rdZ, vZ, List.getElem?_cons_zero, List.getElem?_cons_succ, R.bind_ok, ixF_fz, ixT, at0, at1, at2, ofD_some, liftO_some, nonBw_w, cmpT_fz, Z.dat_fz, Fl.of_ok, dc1, dc2, dc3, dc4, dca1, dca2, dca3, dca4, dcaO1, dcaO2, po1, po2, po3, po4, io_fz, wdat, tup0, tup1, tup2, tup3, tup4, lst0, lst1, lst3, List.set_cons_succ, List.set_cons_zero, Fl.then_nx, h0] <;> rfl
  obtain ⟨ρ', e1, y13, y14, rfl⟩ := for_inv (body := fun d ρ => match setTg (.n 13) d ρ with
      | some ρ' => Ss.ex cf g fuel (.cons (.asg (.n 14) (.b1 .len (.lc [("k", 15)] (.n 15) (.rng1 (.b1 .len (.rd 13))) (.cmp .eq (.ix (.call "_law_part" (.cons (.v 1) (.cons (.sl (.rd 13) (.k .none) (.rd 15)) .nil))) (.k (.int 0))) (.k (.str "fun"))) (.v 15))))
    (.cons (.ife (.and (.cmp .eq (.ix (.call "_law_part" (.cons (.v 1) (.cons (.v 13) .nil))) (.k (.int 0))) (.k (.str "var"))) (.cmp .eq (.ix (.call "_law_part" (.cons (.v 1) (.cons (.v 13) .nil))) (.k (.int 1))) (.rd 14))) (.cons (.app 12 (.v 13))
    .nil) .nil)
    .nil)) ρ'
      | none => .bad) (Iv := fun i ρ => ∃ y13 y14, ρ = [some (.io o), some (.fz (enc t)), some (.fz Uq), some (.fz Vq), some (.fz Hq), some (.own (.l [.d r1, .d r2, .d r3])), some (.own (.l [.d d1, .d d2, .d d3])), some (.fz Wd), some (.fz Pq), x9, x10, some (.fz Lr), some (.own (plO ((t.pl.take i).filter (isV t 0)))), y13, y14, none, x16, none, none]) (t.pl.map plD) 0 [some (.io o), some (.fz (enc t)), some (.fz Uq), some (.fz Vq), some (.fz Hq), some (.own (.l [.d r1, .d r2, .d r3])), some (.own (.l [.d d1, .d d2, .d d3])), some (.fz Wd), some (.fz Pq), x9, x10, some (.fz Lr), some (.own (plO [])), x13, x14, none, x16, none, none] ⟨x13, x14, rfl⟩ (by
    rintro i d ρ hd ⟨y13, y14, rfl⟩
    rw [List.getElem?_map] at hd
    rw [Nat.zero_add]
    cases q : t.pl[i]? with
    | none => rw [q] at hd; cases hd
    | some p =>
      rw [q] at hd
      cases hd
      obtain ⟨x, hx⟩ := Option.isSome_iff_exists.mp ((pt_mem p t).mp (List.mem_of_getElem? q))
      have hl := (pt_small p t x hx).2
      have hl2 : ((t.pl.take i).filter (isV t 0)).length ≤ 1000000 := by
        have := List.length_filter_le (isV t 0) (t.pl.take i)
        rw [List.length_take, pl_len] at this
        omega
      obtain ⟨y14', h⟩ := bd7 (o := o) (Uq := Uq) (Vq := Vq) (Hq := Hq) (r1 := r1) (r2 := r2) (r3 := r3) (d1 := d1) (d2 := d2) (d3 := d3) (Wd := Wd) (Pq := Pq) (Lr := Lr) (x9 := x9) (x10 := x10) (x14 := y14) (x16 := x16) t x p ((t.pl.take i).filter (isV t 0)) hx (by omega) hl2 h1
      have e : (t.pl.take (i + 1)).filter (isV t 0) = if isV t 0 p then (t.pl.take i).filter (isV t 0) ++ [p] else (t.pl.take i).filter (isV t 0) := by
        rw [List.take_add_one, q]
        show ((t.pl.take i) ++ [p]).filter (isV t 0) = _
        rw [List.filter_append]
        by_cases c : isV t 0 p = true
        · rw [if_pos c, List.filter_cons_of_pos c]; rfl
        · rw [if_neg c, List.filter_cons_of_neg c]; simp
      exact ⟨_, h, _, _, by rw [e]⟩)
  rw [Nat.zero_add, List.length_map, List.take_length, hm_filter] at e1
  refine ⟨y13, y14, ?_⟩
  rw [ex_for, hit]
  exact e1
theorem run7 {K : Nat} {q : List Nat} {ps : List (List Nat)} {v w : Tm} (hr : Run K q ps v w) : ∀ {cf : CF} {o : O} {Uq Vq Hq r1 r2 r3 d1 d2 d3 Wd Pq Lr : D} {x9 x10 x13 x14 x16 : Option W} (t : Tm), (∀ p ∈ ps, p.length + q.length ≤ 900) → (∀ (v u : Tm) (p : List Nat), v.ht ≤ K → v.sa p = some u → cf "step_at" [.fz (enc v), .fz (plD p)] = .ret (.fz (enc u)) []) → ∀ x12 : Option W,
    ∃ y13, forLoop (fun d ρ => match setTg (.n 13) d ρ with
      | some ρ' => Ss.ex cf g fuel (.cons (.asg (.n 16) (.call "step_at" (.cons (.v 16) (.cons (.bin .add (.rd 13) (.rd 8)) .nil))))
    .nil) ρ'
      | none => .bad) (ps.map plD) [some (.io o), some (.fz (enc t)), some (.fz Uq), some (.fz Vq), some (.fz Hq), some (.own (.l [.d r1, .d r2, .d r3])), some (.own (.l [.d d1, .d d2, .d d3])), some (.fz Wd), some (.fz (plD q)), x9, x10, some (.fz Lr), x12, x13, x14, none, some (.fz (enc v)), none, none] = .nx [some (.io o), some (.fz (enc t)), some (.fz Uq), some (.fz Vq), some (.fz Hq), some (.own (.l [.d r1, .d r2, .d r3])), some (.own (.l [.d d1, .d d2, .d d3])), some (.fz Wd), some (.fz (plD q)), x9, x10, some (.fz Lr), x12, y13, x14, none, some (.fz (enc w)), none, none] := by
  induction hr with
  | nil hv =>
    intro cf o Uq Vq Hq r1 r2 r3 d1 d2 d3 Wd Pq Lr x9 x10 x13 x14 x16 t _ _ x12
    exact ⟨x13, rfl⟩
  | @cons p ps v u w hv hs hr ih =>
    intro cf o Uq Vq Hq r1 r2 r3 d1 d2 d3 Wd Pq Lr x9 x10 x13 x14 x16 t hl hstep x12
    obtain ⟨y13, h⟩ := ih (cf := cf) (o := o) (Uq := Uq) (Vq := Vq) (Hq := Hq) (r1 := r1) (r2 := r2) (r3 := r3) (d1 := d1) (d2 := d2) (d3 := d3) (Wd := Wd) (Pq := Pq) (Lr := Lr) (x9 := x9) (x10 := x10) (x13 := some (.fz (plD p))) (x14 := x14) (x16 := x16) t (fun p hp => hl p (List.mem_cons_of_mem _ hp)) hstep x12
    refine ⟨y13, ?_⟩
    rw [← h, List.map_cons]
    have hb : (match setTg (.n 13) (plD p) [some (.io o), some (.fz (enc t)), some (.fz Uq), some (.fz Vq), some (.fz Hq), some (.own (.l [.d r1, .d r2, .d r3])), some (.own (.l [.d d1, .d d2, .d d3])), some (.fz Wd), some (.fz (plD q)), x9, x10, some (.fz Lr), x12, x13, x14, none, some (.fz (enc v)), none, none] with
      | some ρ' => Ss.ex cf g fuel (.cons (.asg (.n 16) (.call "step_at" (.cons (.v 16) (.cons (.bin .add (.rd 13) (.rd 8)) .nil))))
    .nil) ρ'
      | none => .bad) = .nx [some (.io o), some (.fz (enc t)), some (.fz Uq), some (.fz Vq), some (.fz Hq), some (.own (.l [.d r1, .d r2, .d r3])), some (.own (.l [.d d1, .d d2, .d d3])), some (.fz Wd), some (.fz (plD q)), x9, x10, some (.fz Lr), x12, some (.fz (plD p)), x14, none, some (.fz (enc u)), none, none] := by
      have hlp := hl p List.mem_cons_self
      show Ss.ex cf g fuel (.cons (.asg (.n 16) (.call "step_at" (.cons (.v 16) (.cons (.bin .add (.rd 13) (.rd 8)) .nil))))
    .nil) [some (.io o), some (.fz (enc t)), some (.fz Uq), some (.fz Vq), some (.fz Hq), some (.own (.l [.d r1, .d r2, .d r3])), some (.own (.l [.d d1, .d d2, .d d3])), some (.fz Wd), some (.fz (plD q)), x9, x10, some (.fz Lr), x12, some (.fz (plD p)), x14, none, some (.fz (enc v)), none, none] = _
      simp only [ev_v, ev_rd, ev_g, ev_k, ev_bin, ev_cmp, ev_chain, ev_andE, ev_orE, ev_nt, ev_ife, ev_tup, ev_lst, ev_ix, ev_sl, ev_call, ev_callk, ev_own, ev_b1, ev_b2, ev_isi, ev_gin, ev_gix, ss_nil, ss_cons, ex_asg, ex_par, ex_ife, ex_ret, setTg_n, Es.ev, T.tst, I.ev, two_none, two_some, isRd, rdZ, vZ, List.getElem?_cons_zero, List.getElem?_cons_succ, R.bind_ok, ixF_fz, ixT, at0, at1, at2, ofD_some, liftO_some, nonBw_w, cmpT_fz, Z.dat_fz, Fl.of_ok, dc1, dc2, dc3, dc4, dca1, dca2, dca3, dca4, dcaO1, dcaO2, po1, po2, po3, po4, io_fz, wdat, tup0, tup1, tup2, tup3, tup4, lst0, lst1, lst3, List.set_cons_succ, List.set_cons_zero, Fl.then_nx, binF_fz, addPP p q (by omega), ofO_some, hstep v u (p ++ q) hv hs]
    show (match (match setTg (.n 13) (plD p) [some (.io o), some (.fz (enc t)), some (.fz Uq), some (.fz Vq), some (.fz Hq), some (.own (.l [.d r1, .d r2, .d r3])), some (.own (.l [.d d1, .d d2, .d d3])), some (.fz Wd), some (.fz (plD q)), x9, x10, some (.fz Lr), x12, x13, x14, none, some (.fz (enc v)), none, none] with
      | some ρ' => Ss.ex cf g fuel (.cons (.asg (.n 16) (.call "step_at" (.cons (.v 16) (.cons (.bin .add (.rd 13) (.rd 8)) .nil))))
    .nil) ρ'
      | none => .bad) with
      | .nx ρ1 => forLoop _ (ps.map plD) ρ1
      | .ct ρ1 => forLoop _ (ps.map plD) ρ1
      | .bk ρ1 => .nx ρ1
      | r => r) = _
    rw [hb]
theorem bd7w {cf : CF} {o : O} {Uq Vq Hq r1 r2 r3 d1 d2 d3 Wd : D} {x9 x10 x11 x12 x13 x14 x16 : Option W} {u1 Lr : D} (t one one' : Tm) (q : List Nat) (K : Nat) (hz : t.sz ≤ 900000) (hh : t.ht ≤ 400) (hq : q.length ≤ 400) (hU : Uq = enc one) (hr : Run K q (t.hm 0) (t.lt [one] 0 0) (t.lt [one'] 0 0))
    (h0 : cf "_law_places" [.fz (enc t)] = .ret (.fz (.list (t.pl.map plD))) []) (h1 : ∀ p x, t.pt p = some x → cf "_law_part" [.fz (enc t), .fz (plD p)] = .ret (.fz (enc x)) [])
    (h2 : cf "step_at" [.fz Uq, .fz (plD q)] = .ret (.fz u1) []) (h3 : cf "let_in" [.fz (enc t), .fz u1] = .ret (.fz (enc (t.lt [one'] 0 0))) []) (h4 : cf "let_in" [.fz (enc t), .fz Uq] = .ret (.fz (enc (t.lt [one] 0 0))) [])
    (h5 : ∀ (v u : Tm) (p : List Nat), v.ht ≤ K → v.sa p = some u → cf "step_at" [.fz (enc v), .fz (plD p)] = .ret (.fz (enc u)) []) (h6 : cf "_law_same" [.fz (enc (t.lt [one'] 0 0)), .fz (enc (t.lt [one'] 0 0))] = .ret (.fz (.bool true)) []) :
    ∃ y11 y12 y13 y14 y16, Ss.ex cf g fuel (.cons (.asg (.n 11) (.call "let_in" (.cons (.v 1) (.cons (.call "step_at" (.cons (.v 2) (.cons (.v 8) .nil))) .nil))))
    (.cons (.asg (.n 12) (.lst .nil))
    (.cons (.for (.n 13) (.seq (.call "_law_places" (.cons (.v 1) .nil))) (.cons (.asg (.n 14) (.b1 .len (.lc [("k", 15)] (.n 15) (.rng1 (.b1 .len (.rd 13))) (.cmp .eq (.ix (.call "_law_part" (.cons (.v 1) (.cons (.sl (.rd 13) (.k .none) (.rd 15)) .nil))) (.k (.int 0))) (.k (.str "fun"))) (.v 15))))
    (.cons (.ife (.and (.cmp .eq (.ix (.call "_law_part" (.cons (.v 1) (.cons (.v 13) .nil))) (.k (.int 0))) (.k (.str "var"))) (.cmp .eq (.ix (.call "_law_part" (.cons (.v 1) (.cons (.v 13) .nil))) (.k (.int 1))) (.rd 14))) (.cons (.app 12 (.v 13))
    .nil) .nil)
    .nil)))
    (.cons (.asg (.n 16) (.call "let_in" (.cons (.v 1) (.cons (.v 2) .nil))))
    (.cons (.for (.n 13) (.seq (.v 12)) (.cons (.asg (.n 16) (.call "step_at" (.cons (.v 16) (.cons (.bin .add (.rd 13) (.rd 8)) .nil))))
    .nil))
    (.cons (.ife (.nt (.val (.call "_law_same" (.cons (.v 16) (.cons (.v 11) .nil))))) (.cons (.ret (.k (.bool false)))
    .nil) .nil)
    .nil)))))) [some (.io o), some (.fz (enc t)), some (.fz Uq), some (.fz Vq), some (.fz Hq), some (.own (.l [.d r1, .d r2, .d r3])), some (.own (.l [.d d1, .d d2, .d d3])), some (.fz Wd), some (.fz (plD q)), x9, x10, x11, x12, x13, x14, none, x16, none, none] = .nx [some (.io o), some (.fz (enc t)), some (.fz Uq), some (.fz Vq), some (.fz Hq), some (.own (.l [.d r1, .d r2, .d r3])), some (.own (.l [.d d1, .d d2, .d d3])), some (.fz Wd), some (.fz (plD q)), x9, x10, y11, y12, y13, y14, none, y16, none, none] := by
  have s0 : S.ex cf g fuel (.asg (.n 11) (.call "let_in" (.cons (.v 1) (.cons (.call "step_at" (.cons (.v 2) (.cons (.v 8) .nil))) .nil)))) [some (.io o), some (.fz (enc t)), some (.fz Uq), some (.fz Vq), some (.fz Hq), some (.own (.l [.d r1, .d r2, .d r3])), some (.own (.l [.d d1, .d d2, .d d3])), some (.fz Wd), some (.fz (plD q)), x9, x10, x11, x12, x13, x14, none, x16, none, none] = .nx [some (.io o), some (.fz (enc t)), some (.fz Uq), some (.fz Vq), some (.fz Hq), some (.own (.l [.d r1, .d r2, .d r3])), some (.own (.l [.d d1, .d d2, .d d3])), some (.fz Wd), some (.fz (plD q)), x9, x10, some (.fz (enc (t.lt [one'] 0 0))), x12, x13, x14, none, x16, none, none] := by
    simp only [ev_v, ev_rd, ev_g, ev_k, ev_bin, ev_cmp, ev_chain, ev_andE, ev_orE, ev_nt, ev_ife, ev_tup, ev_lst, ev_ix, ev_sl, ev_call, ev_callk, ev_own, ev_b1, ev_b2, ev_isi, ev_gin, ev_gix, ss_nil, ss_cons, ex_asg, ex_par, ex_ife, ex_ret, setTg_n, Es.ev, T.tst, I.ev, two_none, two_some, isRd, rdZ, vZ, List.getElem?_cons_zero, List.getElem?_cons_succ, R.bind_ok, ixF_fz, ixT, at0, at1, at2, ofD_some, liftO_some, nonBw_w, cmpT_fz, Z.dat_fz, Fl.of_ok, dc1, dc2, dc3, dc4, dca1, dca2, dca3, dca4, dcaO1, dcaO2, po1, po2, po3, po4, io_fz, wdat, tup0, tup1, tup2, tup3, tup4, lst0, lst1, lst3, List.set_cons_succ, List.set_cons_zero, Fl.then_nx, h2, h3]
  have s1 : S.ex cf g fuel (.asg (.n 12) (.lst .nil)) [some (.io o), some (.fz (enc t)), some (.fz Uq), some (.fz Vq), some (.fz Hq), some (.own (.l [.d r1, .d r2, .d r3])), some (.own (.l [.d d1, .d d2, .d d3])), some (.fz Wd), some (.fz (plD q)), x9, x10, some (.fz (enc (t.lt [one'] 0 0))), x12, x13, x14, none, x16, none, none] = .nx [some (.io o), some (.fz (enc t)), some (.fz Uq), some (.fz Vq), some (.fz Hq), some (.own (.l [.d r1, .d r2, .d r3])), some (.own (.l [.d d1, .d d2, .d d3])), some (.fz Wd), some (.fz (plD q)), x9, x10, some (.fz (enc (t.lt [one'] 0 0))), some (.own (plO [])), x13, x14, none, x16, none, none] := by
    simp only [ev_v, ev_rd, ev_g, ev_k, ev_bin, ev_cmp, ev_chain, ev_andE, ev_orE, ev_nt, ev_ife, ev_tup, ev_lst, ev_ix, ev_sl, ev_call, ev_callk, ev_own, ev_b1, ev_b2, ev_isi, ev_gin, ev_gix, ss_nil, ss_cons, ex_asg, ex_par, ex_ife, ex_ret, setTg_n, Es.ev, T.tst, I.ev, two_none, two_some, isRd, rdZ, vZ, List.getElem?_cons_zero, List.getElem?_cons_succ, R.bind_ok, ixF_fz, ixT, at0, at1, at2, ofD_some, liftO_some, nonBw_w, cmpT_fz, Z.dat_fz, Fl.of_ok, dc1, dc2, dc3, dc4, dca1, dca2, dca3, dca4, dcaO1, dcaO2, po1, po2, po3, po4, io_fz, wdat, tup0, tup1, tup2, tup3, tup4, lst0, lst1, lst3, List.set_cons_succ, List.set_cons_zero, Fl.then_nx] <;> rfl
  obtain ⟨y13, y14, s2⟩ := hm7 (cf := cf) (o := o) (Uq := Uq) (Vq := Vq) (Hq := Hq) (r1 := r1) (r2 := r2) (r3 := r3) (d1 := d1) (d2 := d2) (d3 := d3) (Wd := Wd) (Pq := plD q) (Lr := enc (t.lt [one'] 0 0)) (x9 := x9) (x10 := x10) (x13 := x13) (x14 := x14) (x16 := x16) t hz (by omega) h0 h1
  have s3 : S.ex cf g fuel (.asg (.n 16) (.call "let_in" (.cons (.v 1) (.cons (.v 2) .nil)))) [some (.io o), some (.fz (enc t)), some (.fz Uq), some (.fz Vq), some (.fz Hq), some (.own (.l [.d r1, .d r2, .d r3])), some (.own (.l [.d d1, .d d2, .d d3])), some (.fz Wd), some (.fz (plD q)), x9, x10, some (.fz (enc (t.lt [one'] 0 0))), some (.own (plO (t.hm 0))), y13, y14, none, x16, none, none] = .nx [some (.io o), some (.fz (enc t)), some (.fz Uq), some (.fz Vq), some (.fz Hq), some (.own (.l [.d r1, .d r2, .d r3])), some (.own (.l [.d d1, .d d2, .d d3])), some (.fz Wd), some (.fz (plD q)), x9, x10, some (.fz (enc (t.lt [one'] 0 0))), some (.own (plO (t.hm 0))), y13, y14, none, some (.fz (enc (t.lt [one] 0 0))), none, none] := by
    simp only [ev_v, ev_rd, ev_g, ev_k, ev_bin, ev_cmp, ev_chain, ev_andE, ev_orE, ev_nt, ev_ife, ev_tup, ev_lst, ev_ix, ev_sl, ev_call, ev_callk, ev_own, ev_b1, ev_b2, ev_isi, ev_gin, ev_gix, ss_nil, ss_cons, ex_asg, ex_par, ex_ife, ex_ret, setTg_n, Es.ev, T.tst, I.ev, two_none, two_some, isRd, rdZ, vZ, List.getElem?_cons_zero, List.getElem?_cons_succ, R.bind_ok, ixF_fz, ixT, at0, at1, at2, ofD_some, liftO_some, nonBw_w, cmpT_fz, Z.dat_fz, Fl.of_ok, dc1, dc2, dc3, dc4, dca1, dca2, dca3, dca4, dcaO1, dcaO2, po1, po2, po3, po4, io_fz, wdat, tup0, tup1, tup2, tup3, tup4, lst0, lst1, lst3, List.set_cons_succ, List.set_cons_zero, Fl.then_nx, h4]
  have hps : ∀ p ∈ t.hm 0, p.length + q.length ≤ 900 := fun p hp => by
    rw [← hm_filter] at hp
    obtain ⟨x, hx⟩ := Option.isSome_iff_exists.mp ((pt_mem p t).mp (List.mem_filter.mp hp).1)
    have := (pt_small p t x hx).2
    omega
  obtain ⟨z13, s4⟩ := run7 hr (cf := cf) (o := o) (Uq := Uq) (Vq := Vq) (Hq := Hq) (r1 := r1) (r2 := r2) (r3 := r3) (d1 := d1) (d2 := d2) (d3 := d3) (Wd := Wd) (Pq := plD q) (Lr := enc (t.lt [one'] 0 0)) (x9 := x9) (x10 := x10) (x13 := y13) (x14 := y14) (x16 := none) t hps h5 (some (.fz (.list ((t.hm 0).map plD))))
  have s4' : S.ex cf g fuel (.for (.n 13) (.seq (.v 12)) (.cons (.asg (.n 16) (.call "step_at" (.cons (.v 16) (.cons (.bin .add (.rd 13) (.rd 8)) .nil))))
    .nil)) [some (.io o), some (.fz (enc t)), some (.fz Uq), some (.fz Vq), some (.fz Hq), some (.own (.l [.d r1, .d r2, .d r3])), some (.own (.l [.d d1, .d d2, .d d3])), some (.fz Wd), some (.fz (plD q)), x9, x10, some (.fz (enc (t.lt [one'] 0 0))), some (.own (plO (t.hm 0))), y13, y14, none, some (.fz (enc (t.lt [one] 0 0))), none, none] = .nx [some (.io o), some (.fz (enc t)), some (.fz Uq), some (.fz Vq), some (.fz Hq), some (.own (.l [.d r1, .d r2, .d r3])), some (.own (.l [.d d1, .d d2, .d d3])), some (.fz Wd), some (.fz (plD q)), x9, x10, some (.fz (enc (t.lt [one'] 0 0))), some (.fz (.list ((t.hm 0).map plD))), z13, y14, none, some (.fz (enc (t.lt [one'] 0 0))), none, none] := by
    have hit : I.ev cf g (.seq (.v 12)) [some (.io o), some (.fz (enc t)), some (.fz Uq), some (.fz Vq), some (.fz Hq), some (.own (.l [.d r1, .d r2, .d r3])), some (.own (.l [.d d1, .d d2, .d d3])), some (.fz Wd), some (.fz (plD q)), x9, x10, some (.fz (enc (t.lt [one'] 0 0))), some (.own (plO (t.hm 0))), y13, y14, none, some (.fz (enc (t.lt [one] 0 0))), none, none] = .ok ((t.hm 0).map plD) [some (.io o), some (.fz (enc t)), some (.fz Uq), some (.fz Vq), some (.fz Hq), some (.own (.l [.d r1, .d r2, .d r3])), some (.own (.l [.d d1, .d d2, .d d3])), some (.fz Wd), some (.fz (plD q)), x9, x10, some (.fz (enc (t.lt [one'] 0 0))), some (.fz (.list ((t.hm 0).map plD))), y13, y14, none, some (.fz (enc (t.lt [one] 0 0))), none, none] := by
      have ev : E.ev cf g (.v 12) [some (.io o), some (.fz (enc t)), some (.fz Uq), some (.fz Vq), some (.fz Hq), some (.own (.l [.d r1, .d r2, .d r3])), some (.own (.l [.d d1, .d d2, .d d3])), some (.fz Wd), some (.fz (plD q)), x9, x10, some (.fz (enc (t.lt [one'] 0 0))), some (.own (plO (t.hm 0))), y13, y14, none, some (.fz (enc (t.lt [one] 0 0))), none, none] = .ok (.w (.fz (.list ((t.hm 0).map plD)))) [some (.io o), some (.fz (enc t)), some (.fz Uq), some (.fz Vq), some (.fz Hq), some (.own (.l [.d r1, .d r2, .d r3])), some (.own (.l [.d d1, .d d2, .d d3])), some (.fz Wd), some (.fz (plD q)), x9, x10, some (.fz (enc (t.lt [one'] 0 0))), some (.fz (.list ((t.hm 0).map plD))), y13, y14, none, some (.fz (enc (t.lt [one] 0 0))), none, none] := by
        show R.ok (Z.w (.fz (plO (t.hm 0)).frz)) ([some (.io o), some (.fz (enc t)), some (.fz Uq), some (.fz Vq), some (.fz Hq), some (.own (.l [.d r1, .d r2, .d r3])), some (.own (.l [.d d1, .d d2, .d d3])), some (.fz Wd), some (.fz (plD q)), x9, x10, some (.fz (enc (t.lt [one'] 0 0))), some (.own (plO (t.hm 0))), y13, y14, none, some (.fz (enc (t.lt [one] 0 0))), none, none].set 12 (some (.fz (plO (t.hm 0)).frz))) = _
        rw [plO_frz]
        rfl
      rw [it_seq, ev]
      rfl
    rw [ex_for, hit]
    exact s4
  have s5 : S.ex cf g fuel (.ife (.nt (.val (.call "_law_same" (.cons (.v 16) (.cons (.v 11) .nil))))) (.cons (.ret (.k (.bool false))) .nil) .nil) [some (.io o), some (.fz (enc t)), some (.fz Uq), some (.fz Vq), some (.fz Hq), some (.own (.l [.d r1, .d r2, .d r3])), some (.own (.l [.d d1, .d d2, .d d3])), some (.fz Wd), some (.fz (plD q)), x9, x10, some (.fz (enc (t.lt [one'] 0 0))), some (.fz (.list ((t.hm 0).map plD))), z13, y14, none, some (.fz (enc (t.lt [one'] 0 0))), none, none] = .nx [some (.io o), some (.fz (enc t)), some (.fz Uq), some (.fz Vq), some (.fz Hq), some (.own (.l [.d r1, .d r2, .d r3])), some (.own (.l [.d d1, .d d2, .d d3])), some (.fz Wd), some (.fz (plD q)), x9, x10, some (.fz (enc (t.lt [one'] 0 0))), some (.fz (.list ((t.hm 0).map plD))), z13, y14, none, some (.fz (enc (t.lt [one'] 0 0))), none, none] := by
    simp only [ev_v, ev_rd, ev_g, ev_k, ev_bin, ev_cmp, ev_chain, ev_andE, ev_orE, ev_nt, ev_ife, ev_tup, ev_lst, ev_ix, ev_sl, ev_call, ev_callk, ev_own, ev_b1, ev_b2, ev_isi, ev_gin, ev_gix, ss_nil, ss_cons, ex_asg, ex_par, ex_ife, ex_ret, setTg_n, Es.ev, T.tst, I.ev, two_none, two_some, isRd, rdZ, vZ, List.getElem?_cons_zero, List.getElem?_cons_succ, R.bind_ok, ixF_fz, ixT, at0, at1, at2, ofD_some, liftO_some, nonBw_w, cmpT_fz, Z.dat_fz, Fl.of_ok, dc1, dc2, dc3, dc4, dca1, dca2, dca3, dca4, dcaO1, dcaO2, po1, po2, po3, po4, io_fz, wdat, tup0, tup1, tup2, tup3, tup4, lst0, lst1, lst3, List.set_cons_succ, List.set_cons_zero, Fl.then_nx, h6, truD, Bool.not_true, Bool.false_eq_true, if_false]
  exact ⟨_, _, _, _, _, ss_step s0 (ss_step s1 (ss_step s2 (ss_step s3 (ss_step s4' (ss_step s5 rfl)))))⟩
theorem st7 {cf : CF} {o : O} {Uq Vq Hq r1 r2 r3 d1 d2 d3 Wd : D} {z8 x9 x10  : Option W} (t one : Tm) (K : Nat) (hz : t.sz ≤ 900000) (hh : t.ht ≤ 400) (hU : Uq = enc one) (h0 : cf "step_places" [.fz Uq] = .ret (.own (plO one.spots)) [])
    (hb : ∀ q ∈ one.spots, ∀ x11 x12 x13 x14 x16, ∃ y11 y12 y13 y14 y16, Ss.ex cf g fuel (.cons (.asg (.n 11) (.call "let_in" (.cons (.v 1) (.cons (.call "step_at" (.cons (.v 2) (.cons (.v 8) .nil))) .nil))))
    (.cons (.asg (.n 12) (.lst .nil))
    (.cons (.for (.n 13) (.seq (.call "_law_places" (.cons (.v 1) .nil))) (.cons (.asg (.n 14) (.b1 .len (.lc [("k", 15)] (.n 15) (.rng1 (.b1 .len (.rd 13))) (.cmp .eq (.ix (.call "_law_part" (.cons (.v 1) (.cons (.sl (.rd 13) (.k .none) (.rd 15)) .nil))) (.k (.int 0))) (.k (.str "fun"))) (.v 15))))
    (.cons (.ife (.and (.cmp .eq (.ix (.call "_law_part" (.cons (.v 1) (.cons (.v 13) .nil))) (.k (.int 0))) (.k (.str "var"))) (.cmp .eq (.ix (.call "_law_part" (.cons (.v 1) (.cons (.v 13) .nil))) (.k (.int 1))) (.rd 14))) (.cons (.app 12 (.v 13))
    .nil) .nil)
    .nil)))
    (.cons (.asg (.n 16) (.call "let_in" (.cons (.v 1) (.cons (.v 2) .nil))))
    (.cons (.for (.n 13) (.seq (.v 12)) (.cons (.asg (.n 16) (.call "step_at" (.cons (.v 16) (.cons (.bin .add (.rd 13) (.rd 8)) .nil))))
    .nil))
    (.cons (.ife (.nt (.val (.call "_law_same" (.cons (.v 16) (.cons (.v 11) .nil))))) (.cons (.ret (.k (.bool false)))
    .nil) .nil)
    .nil)))))) [some (.io o), some (.fz (enc t)), some (.fz Uq), some (.fz Vq), some (.fz Hq), some (.own (.l [.d r1, .d r2, .d r3])), some (.own (.l [.d d1, .d d2, .d d3])), some (.fz Wd), some (.fz (plD q)), x9, x10, x11, x12, x13, x14, none, x16, none, none] = .nx [some (.io o), some (.fz (enc t)), some (.fz Uq), some (.fz Vq), some (.fz Hq), some (.own (.l [.d r1, .d r2, .d r3])), some (.own (.l [.d d1, .d d2, .d d3])), some (.fz Wd), some (.fz (plD q)), x9, x10, y11, y12, y13, y14, none, y16, none, none]) :
    ∃ x8 x11 x12 x13 x14 x16, S.ex cf g fuel riS7 [some (.io o), some (.fz (enc t)), some (.fz Uq), some (.fz Vq), some (.fz Hq), some (.own (.l [.d r1, .d r2, .d r3])), some (.own (.l [.d d1, .d d2, .d d3])), some (.fz Wd), z8, x9, x10, none, none, none, none, none, none, none, none] = .nx [some (.io o), some (.fz (enc t)), some (.fz Uq), some (.fz Vq), some (.fz Hq), some (.own (.l [.d r1, .d r2, .d r3])), some (.own (.l [.d d1, .d d2, .d d3])), some (.fz Wd), x8, x9, x10, x11, x12, x13, x14, none, x16, none, none] := by
  have hit : I.ev cf g (.seq (.sl (.call "step_places" (.cons (.v 2) .nil)) (.k .none) (.k (.int 2)))) [some (.io o), some (.fz (enc t)), some (.fz Uq), some (.fz Vq), some (.fz Hq), some (.own (.l [.d r1, .d r2, .d r3])), some (.own (.l [.d d1, .d d2, .d d3])), some (.fz Wd), z8, x9, x10, none, none, none, none, none, none, none, none] = .ok ((one.spots.take 2).map plD) [some (.io o), some (.fz (enc t)), some (.fz Uq), some (.fz Vq), some (.fz Hq), some (.own (.l [.d r1, .d r2, .d r3])), some (.own (.l [.d d1, .d d2, .d d3])), some (.fz Wd), z8, x9, x10, none, none, none, none, none, none, none, none] := by
    have e1 : E.ev cf g (.call "step_places" (.cons (.v 2) .nil)) [some (.io o), some (.fz (enc t)), some (.fz Uq), some (.fz Vq), some (.fz Hq), some (.own (.l [.d r1, .d r2, .d r3])), some (.own (.l [.d d1, .d d2, .d d3])), some (.fz Wd), z8, x9, x10, none, none, none, none, none, none, none, none] = .ok (.w (.own (plO one.spots))) [some (.io o), some (.fz (enc t)), some (.fz Uq), some (.fz Vq), some (.fz Hq), some (.own (.l [.d r1, .d r2, .d r3])), some (.own (.l [.d d1, .d d2, .d d3])), some (.fz Wd), z8, x9, x10, none, none, none, none, none, none, none, none] := by
      simp only [ev_v, ev_rd, ev_g, ev_k, ev_bin, ev_cmp, ev_chain, ev_andE, ev_orE, ev_nt, ev_ife, ev_tup, ev_lst, ev_ix, ev_sl, ev_call, ev_callk, ev_own, ev_b1, ev_b2, ev_isi, ev_gin, ev_gix, ss_nil, ss_cons, ex_asg, ex_par, ex_ife, ex_ret, setTg_n, Es.ev, T.tst, I.ev, two_none, two_some, isRd, rdZ, vZ, List.getElem?_cons_zero, List.getElem?_cons_succ, R.bind_ok, ixF_fz, ixT, at0, at1, at2, ofD_some, liftO_some, nonBw_w, cmpT_fz, Z.dat_fz, Fl.of_ok, dc1, dc2, dc3, dc4, dca1, dca2, dca3, dca4, dcaO1, dcaO2, po1, po2, po3, po4, io_fz, wdat, tup0, tup1, tup2, tup3, tup4, lst0, lst1, lst3, List.set_cons_succ, List.set_cons_zero, Fl.then_nx, h0] <;> rfl
    show ((((E.ev cf g (.call "step_places" (.cons (.v 2) .nil)) [some (.io o), some (.fz (enc t)), some (.fz Uq), some (.fz Vq), some (.fz Hq), some (.own (.l [.d r1, .d r2, .d r3])), some (.own (.l [.d d1, .d d2, .d d3])), some (.fz Wd), z8, x9, x10, none, none, none, none, none, none, none, none]).bind fun za ρ1 => (nonBw za ρ1).bind fun xa ρ2 => (bndM true _ ρ2).bind fun lo ρ3 => (bndM false (E.ev cf g (.k (.int 2))) ρ3).bind fun hi ρ4 => slF (.w xa) lo hi ρ4)).bind _) = _
    rw [e1]
    show (slF (.w (.own (plO one.spots))) none (some 2) [some (.io o), some (.fz (enc t)), some (.fz Uq), some (.fz Vq), some (.fz Hq), some (.own (.l [.d r1, .d r2, .d r3])), some (.own (.l [.d d1, .d d2, .d d3])), some (.fz Wd), z8, x9, x10, none, none, none, none, none, none, none, none]).bind _ = _
    have e2 : (Z.w (.own (plO one.spots))).el = some (.list (one.spots.map plD)) := by
      show (plainO (one.spots.map fun p => O.d (plD p))).map PyData.list = _
      rw [show (one.spots.map fun p => O.d (plD p)) = (one.spots.map plD).map .d by rw [List.map_map]; rfl, plain_map]; rfl
    have e3 : cutA (one.spots.map plD) none (some 2) = (one.spots.take 2).map plD := by
      unfold cutA
      rw [HT.sIx_none]
      have : HT.sIx (one.spots.map plD).length (one.spots.map plD).length (some 2) = min 2 (one.spots.map plD).length := HT.sIx_nat _ _ 2
      rw [this, List.drop_zero, Nat.sub_zero, ← List.take_eq_take_min, List.map_take]
    unfold slF
    rw [e2]
    show (ofO (some (W.own (.l ((cutA (one.spots.map plD) none (some 2)).map .d)))) _).bind _ = _
    rw [e3]
    show (liftO (seqI (.list (O.frzs (((one.spots.take 2).map plD).map .d)))) _) = _
    rw [frz_map]
    rfl
  obtain ⟨ρ', e1, x8', x11, x12, x13, x14, x16, rfl⟩ := for_inv (body := fun d ρ => match setTg (.n 8) d ρ with
      | some ρ' => Ss.ex cf g fuel (.cons (.asg (.n 11) (.call "let_in" (.cons (.v 1) (.cons (.call "step_at" (.cons (.v 2) (.cons (.v 8) .nil))) .nil))))
    (.cons (.asg (.n 12) (.lst .nil))
    (.cons (.for (.n 13) (.seq (.call "_law_places" (.cons (.v 1) .nil))) (.cons (.asg (.n 14) (.b1 .len (.lc [("k", 15)] (.n 15) (.rng1 (.b1 .len (.rd 13))) (.cmp .eq (.ix (.call "_law_part" (.cons (.v 1) (.cons (.sl (.rd 13) (.k .none) (.rd 15)) .nil))) (.k (.int 0))) (.k (.str "fun"))) (.v 15))))
    (.cons (.ife (.and (.cmp .eq (.ix (.call "_law_part" (.cons (.v 1) (.cons (.v 13) .nil))) (.k (.int 0))) (.k (.str "var"))) (.cmp .eq (.ix (.call "_law_part" (.cons (.v 1) (.cons (.v 13) .nil))) (.k (.int 1))) (.rd 14))) (.cons (.app 12 (.v 13))
    .nil) .nil)
    .nil)))
    (.cons (.asg (.n 16) (.call "let_in" (.cons (.v 1) (.cons (.v 2) .nil))))
    (.cons (.for (.n 13) (.seq (.v 12)) (.cons (.asg (.n 16) (.call "step_at" (.cons (.v 16) (.cons (.bin .add (.rd 13) (.rd 8)) .nil))))
    .nil))
    (.cons (.ife (.nt (.val (.call "_law_same" (.cons (.v 16) (.cons (.v 11) .nil))))) (.cons (.ret (.k (.bool false)))
    .nil) .nil)
    .nil)))))) ρ'
      | none => .bad) (Iv := fun i ρ => ∃ x8 x11 x12 x13 x14 x16, ρ = [some (.io o), some (.fz (enc t)), some (.fz Uq), some (.fz Vq), some (.fz Hq), some (.own (.l [.d r1, .d r2, .d r3])), some (.own (.l [.d d1, .d d2, .d d3])), some (.fz Wd), x8, x9, x10, x11, x12, x13, x14, none, x16, none, none]) ((one.spots.take 2).map plD) 0 [some (.io o), some (.fz (enc t)), some (.fz Uq), some (.fz Vq), some (.fz Hq), some (.own (.l [.d r1, .d r2, .d r3])), some (.own (.l [.d d1, .d d2, .d d3])), some (.fz Wd), z8, x9, x10, none, none, none, none, none, none, none, none] ⟨z8, none, none, none, none, none, rfl⟩ (by
    rintro i d ρ hd ⟨x8, x11, x12, x13, x14, x16, rfl⟩
    rw [List.getElem?_map] at hd
    cases qq : (one.spots.take 2)[i]? with
    | none => rw [qq] at hd; cases hd
    | some p =>
      rw [qq] at hd
      cases hd
      obtain ⟨y11, y12, y13, y14, y16, h⟩ := hb p (List.mem_of_mem_take (List.mem_of_getElem? qq)) x11 x12 x13 x14 x16
      exact ⟨_, h, _, _, _, _, _, _, rfl⟩)
  refine ⟨x8', x11, x12, x13, x14, x16, ?_⟩
  unfold riS7
  rw [ex_for, hit]
  exact e1
end K04

set_option Elab.async false
set_option linter.all false
set_option maxRecDepth 100000
set_option maxHeartbeats 8000000
namespace K04
open PySem Co
def decO : D → O
  | .int i => .d (.int (i - 1))
  | d => .d d
def lowA (ns : List Nat) : List Nat := (ns.filter fun k => decide (0 < k)).map fun k => k - 1
theorem low_map (ns : List Nat) : ((iD ns).filter (intP fun k => decide (0 < k))).map decO = (iD (lowA ns)).map .d := by
  unfold iD lowA
  rw [filter_int, List.map_map, List.map_map, List.map_map]
  apply List.map_congr_left
  intro k hk
  have hk := of_decide_eq_true (List.mem_filter.mp hk).2
  show O.d (.int ((k : Int) - 1)) = O.d (.int ((k - 1 : Nat) : Int))
  congr 2
  omega
def lows (f1 f2 : List Nat) : List Nat := lowA f1 ++ (if 0 ∈ f1 then f2 else [])
theorem add_lO (ns : List Nat) (b : Z) (ms : List Nat) (hb : b.el = some (.list (iD ms))) (hl : ns.length + ms.length ≤ 100000) (ρ : Co.Env) : binF .add (.w (.own (lO ns))) b ρ = .ok (.w (.own (lO (ns ++ ms)))) ρ := by
  show (match (plainO ((iD ns).map .d)).map PyData.list, b.el with
    | some x, some y => ofO (binD .add x y) ρ
    | _, _ => .bad) = _
  rw [plain_map, hb]
  show ofO (if okLen ((iD ns).length + (iD ms).length) then some (W.own (.l ((iD ns ++ iD ms).map .d))) else none) ρ = _
  have : okLen ((iD ns).length + (iD ms).length) = true := decide_eq_true (by rw [sizeLine_eq]; unfold iD; rw [List.length_map, List.length_map]; omega)
  rw [if_pos this]
  have e : iD (ns ++ ms) = iD ns ++ iD ms := by unfold iD; rw [List.map_append]
  unfold lO
  rw [e]
  rfl
theorem st8 {cf : CF} {o : O} {Tq Uq Vq Hq r1 r2 r3 d1 d2 d3 Wd : D} {x8 x9 x10 x11 x12 x13 x14 x16 : Option W} {w1 w2 : W} (f1 f2 : List Nat) (h1 : cf "_law_free" [.fz Tq, .fz (.int 0)] = .ret w1 []) (a1 : w1.dat = .list (iD f1)) (b1 : w1.isIo = false) (h2 : cf "_law_free" [.fz Uq, .fz (.int 0)] = .ret w2 []) (b2 : w2.isIo = false) (e2 : (Z.w w2).el = some (.list (iD f2))) (l1 : f1.length ≤ 40000) (l2 : f2.length ≤ 40000) :
    S.ex cf g fuel riS8 [some (.io o), some (.fz Tq), some (.fz Uq), some (.fz Vq), some (.fz Hq), some (.own (.l [.d r1, .d r2, .d r3])), some (.own (.l [.d d1, .d d2, .d d3])), some (.fz Wd), x8, x9, x10, x11, x12, x13, x14, none, x16, none, none] = .nx [some (.io o), some (.fz Tq), some (.fz Uq), some (.fz Vq), some (.fz Hq), some (.own (.l [.d r1, .d r2, .d r3])), some (.own (.l [.d d1, .d d2, .d d3])), some (.fz Wd), x8, x9, x10, x11, x12, x13, x14, none, x16, some (.own (lO (lows f1 f2))), none] := by
  have c1 : E.ev cf g (.call "_law_free" (.cons (.v 1) (.cons (.k (.int 0)) .nil))) [some (.io o), some (.fz Tq), some (.fz Uq), some (.fz Vq), some (.fz Hq), some (.own (.l [.d r1, .d r2, .d r3])), some (.own (.l [.d d1, .d d2, .d d3])), some (.fz Wd), x8, x9, x10, x11, x12, x13, x14, none, x16, none, none] = .ok (.w w1) [some (.io o), some (.fz Tq), some (.fz Uq), some (.fz Vq), some (.fz Hq), some (.own (.l [.d r1, .d r2, .d r3])), some (.own (.l [.d d1, .d d2, .d d3])), some (.fz Wd), x8, x9, x10, x11, x12, x13, x14, none, x16, none, none] := by
    rw [ev_call]
    have : Es.ev cf g (.cons (.v 1) (.cons (.k (.int 0)) .nil)) [some (.io o), some (.fz Tq), some (.fz Uq), some (.fz Vq), some (.fz Hq), some (.own (.l [.d r1, .d r2, .d r3])), some (.own (.l [.d d1, .d d2, .d d3])), some (.fz Wd), x8, x9, x10, x11, x12, x13, x14, none, x16, none, none] = .ok [.a (.fz Tq), .a (.fz (.int 0))] [some (.io o), some (.fz Tq), some (.fz Uq), some (.fz Vq), some (.fz Hq), some (.own (.l [.d r1, .d r2, .d r3])), some (.own (.l [.d d1, .d d2, .d d3])), some (.fz Wd), x8, x9, x10, x11, x12, x13, x14, none, x16, none, none] := rfl
    rw [this, R.bind_ok, doCall_eq cf "_law_free" [.a (.fz Tq), .a (.fz (.int 0))] _ _ [.fz Tq, .fz (.int 0)] rfl rfl, h1]
    exact dcA_nil _ _ _ _ b1 rfl
  have c2 : E.ev cf g (.call "_law_free" (.cons (.v 2) (.cons (.k (.int 0)) .nil))) [some (.io o), some (.fz Tq), some (.fz Uq), some (.fz Vq), some (.fz Hq), some (.own (.l [.d r1, .d r2, .d r3])), some (.own (.l [.d d1, .d d2, .d d3])), some (.fz Wd), x8, x9, x10, x11, x12, x13, x14, none, x16, none, none] = .ok (.w w2) [some (.io o), some (.fz Tq), some (.fz Uq), some (.fz Vq), some (.fz Hq), some (.own (.l [.d r1, .d r2, .d r3])), some (.own (.l [.d d1, .d d2, .d d3])), some (.fz Wd), x8, x9, x10, x11, x12, x13, x14, none, x16, none, none] := by
    rw [ev_call]
    have : Es.ev cf g (.cons (.v 2) (.cons (.k (.int 0)) .nil)) [some (.io o), some (.fz Tq), some (.fz Uq), some (.fz Vq), some (.fz Hq), some (.own (.l [.d r1, .d r2, .d r3])), some (.own (.l [.d d1, .d d2, .d d3])), some (.fz Wd), x8, x9, x10, x11, x12, x13, x14, none, x16, none, none] = .ok [.a (.fz Uq), .a (.fz (.int 0))] [some (.io o), some (.fz Tq), some (.fz Uq), some (.fz Vq), some (.fz Hq), some (.own (.l [.d r1, .d r2, .d r3])), some (.own (.l [.d d1, .d d2, .d d3])), some (.fz Wd), x8, x9, x10, x11, x12, x13, x14, none, x16, none, none] := rfl
    rw [this, R.bind_ok, doCall_eq cf "_law_free" [.a (.fz Uq), .a (.fz (.int 0))] _ _ [.fz Uq, .fz (.int 0)] rfl rfl, h2]
    exact dcA_nil _ _ _ _ b2 rfl
  have hit : I.ev cf g (.seq (.call "_law_free" (.cons (.v 1) (.cons (.k (.int 0)) .nil)))) [some (.io o), some (.fz Tq), some (.fz Uq), some (.fz Vq), some (.fz Hq), some (.own (.l [.d r1, .d r2, .d r3])), some (.own (.l [.d d1, .d d2, .d d3])), some (.fz Wd), x8, x9, x10, x11, x12, x13, x14, none, x16, none, none] = .ok (iD f1) [some (.io o), some (.fz Tq), some (.fz Uq), some (.fz Vq), some (.fz Hq), some (.own (.l [.d r1, .d r2, .d r3])), some (.own (.l [.d d1, .d d2, .d d3])), some (.fz Wd), x8, x9, x10, x11, x12, x13, x14, none, x16, none, none] := by
    rw [it_seq, c1, R.bind_ok, nonBw_w, R.bind_ok, a1]
    rfl
  have hlc := lc_filter (cf := cf) (g := g) (i := 15) (nm := "k") (c := .cmp .gt (.rd 15) (.k (.int 0))) (e := .bin .sub (.rd 15) (.k (.int 1))) (ρ := [some (.io o), some (.fz Tq), some (.fz Uq), some (.fz Vq), some (.fz Hq), some (.own (.l [.d r1, .d r2, .d r3])), some (.own (.l [.d d1, .d d2, .d d3])), some (.fz Wd), x8, x9, x10, x11, x12, x13, x14, none, x16, none, none]) (P := intP fun k => decide (0 < k)) (f := decO) hit (by unfold iD; rw [List.length_map]; omega) (by
    intro d hd
    obtain ⟨k, hk, rfl⟩ := List.mem_map.mp hd
    have e : decide ((0 : Int) < (k : Int)) = decide (0 < k) := by
      by_cases c : 0 < k
      · rw [decide_eq_true c, decide_eq_true (by omega)]
      · rw [decide_eq_false c, decide_eq_false (by omega)]
    refine ⟨?_, fun _ => ⟨.fz (.int ((k : Int) - 1)), ?_, rfl⟩⟩
    · show _ = R.ok (decide (0 < (k : Int).toNat)) _
      rw [Int.toNat_natCast, ← e]
      simp only [ev_v, ev_rd, ev_g, ev_k, ev_bin, ev_cmp, ev_chain, ev_andE, ev_orE, ev_nt, ev_ife, ev_tup, ev_lst, ev_ix, ev_sl, ev_call, ev_callk, ev_own, ev_b1, ev_b2, ev_isi, ev_gin, ev_gix, ss_nil, ss_cons, ex_asg, ex_par, ex_ife, ex_ret, setTg_n, Es.ev, T.tst, I.ev, two_none, two_some, isRd, rdZ, vZ, List.getElem?_cons_zero, List.getElem?_cons_succ, R.bind_ok, ixF_fz, ixT, at0, at1, at2, ofD_some, liftO_some, nonBw_w, cmpT_fz, Z.dat_fz, Fl.of_ok, dc1, dc2, dc3, dc4, dca1, dca2, dca3, dca4, dcaO1, dcaO2, po1, po2, po3, po4, io_fz, wdat, tup0, tup1, tup2, tup3, tup4, lst0, lst1, lst3, List.set_cons_succ, List.set_cons_zero, Fl.then_nx, cmp_gt]
    · simp only [ev_v, ev_rd, ev_g, ev_k, ev_bin, ev_cmp, ev_chain, ev_andE, ev_orE, ev_nt, ev_ife, ev_tup, ev_lst, ev_ix, ev_sl, ev_call, ev_callk, ev_own, ev_b1, ev_b2, ev_isi, ev_gin, ev_gix, ss_nil, ss_cons, ex_asg, ex_par, ex_ife, ex_ret, setTg_n, Es.ev, T.tst, I.ev, two_none, two_some, isRd, rdZ, vZ, List.getElem?_cons_zero, List.getElem?_cons_succ, R.bind_ok, ixF_fz, ixT, at0, at1, at2, ofD_some, liftO_some, nonBw_w, cmpT_fz, Z.dat_fz, Fl.of_ok, dc1, dc2, dc3, dc4, dca1, dca2, dca3, dca4, dcaO1, dcaO2, po1, po2, po3, po4, io_fz, wdat, tup0, tup1, tup2, tup3, tup4, lst0, lst1, lst3, List.set_cons_succ, List.set_cons_zero, Fl.then_nx, binF_fz, subI, ofO_some])
  rw [low_map] at hlc
  have hz : ∀ b : Bool, decide (0 ∈ f1) = b → E.ev cf g (.ife (.cmp .isin (.k (.int 0)) (.call "_law_free" (.cons (.v 1) (.cons (.k (.int 0)) .nil)))) (.call "_law_free" (.cons (.v 2) (.cons (.k (.int 0)) .nil))) (.lst .nil)) [some (.io o), some (.fz Tq), some (.fz Uq), some (.fz Vq), some (.fz Hq), some (.own (.l [.d r1, .d r2, .d r3])), some (.own (.l [.d d1, .d d2, .d d3])), some (.fz Wd), x8, x9, x10, x11, x12, x13, x14, none, x16, none, none] = if b then .ok (.w w2) [some (.io o), some (.fz Tq), some (.fz Uq), some (.fz Vq), some (.fz Hq), some (.own (.l [.d r1, .d r2, .d r3])), some (.own (.l [.d d1, .d d2, .d d3])), some (.fz Wd), x8, x9, x10, x11, x12, x13, x14, none, x16, none, none] else .ok (.w (.own (.l []))) [some (.io o), some (.fz Tq), some (.fz Uq), some (.fz Vq), some (.fz Hq), some (.own (.l [.d r1, .d r2, .d r3])), some (.own (.l [.d d1, .d d2, .d d3])), some (.fz Wd), x8, x9, x10, x11, x12, x13, x14, none, x16, none, none] := by
    intro b hb
    have ht : T.tst cf g (.cmp .isin (.k (.int 0)) (.call "_law_free" (.cons (.v 1) (.cons (.k (.int 0)) .nil)))) [some (.io o), some (.fz Tq), some (.fz Uq), some (.fz Vq), some (.fz Hq), some (.own (.l [.d r1, .d r2, .d r3])), some (.own (.l [.d d1, .d d2, .d d3])), some (.fz Wd), x8, x9, x10, x11, x12, x13, x14, none, x16, none, none] = .ok b [some (.io o), some (.fz Tq), some (.fz Uq), some (.fz Vq), some (.fz Hq), some (.own (.l [.d r1, .d r2, .d r3])), some (.own (.l [.d d1, .d d2, .d d3])), some (.fz Wd), x8, x9, x10, x11, x12, x13, x14, none, x16, none, none] := by
      show two none _ _ _ _ = _
      rw [two_none]
      show ((E.ev cf g (.call "_law_free" (.cons (.v 1) (.cons (.k (.int 0)) .nil))) [some (.io o), some (.fz Tq), some (.fz Uq), some (.fz Vq), some (.fz Hq), some (.own (.l [.d r1, .d r2, .d r3])), some (.own (.l [.d d1, .d d2, .d d3])), some (.fz Wd), x8, x9, x10, x11, x12, x13, x14, none, x16, none, none]).bind _) = _
      rw [c1, R.bind_ok]
      show liftO (cmpD .isin (.int 0) w1.dat) _ = _
      rw [a1, isin_0, hb]
      rfl
    rw [ev_ife, ht, R.bind_ok]
    cases b with
    | true => exact c2
    | false => rfl
  have fin : E.ev cf g (.bin .add (.lc [("k", 15)] (.n 15) (.seq (.call "_law_free" (.cons (.v 1) (.cons (.k (.int 0)) .nil)))) (.cmp .gt (.rd 15) (.k (.int 0))) (.bin .sub (.rd 15) (.k (.int 1)))) (.ife (.cmp .isin (.k (.int 0)) (.call "_law_free" (.cons (.v 1) (.cons (.k (.int 0)) .nil)))) (.call "_law_free" (.cons (.v 2) (.cons (.k (.int 0)) .nil))) (.lst .nil))) [some (.io o), some (.fz Tq), some (.fz Uq), some (.fz Vq), some (.fz Hq), some (.own (.l [.d r1, .d r2, .d r3])), some (.own (.l [.d d1, .d d2, .d d3])), some (.fz Wd), x8, x9, x10, x11, x12, x13, x14, none, x16, none, none] = .ok (.w (.own (lO (lows f1 f2)))) [some (.io o), some (.fz Tq), some (.fz Uq), some (.fz Vq), some (.fz Hq), some (.own (.l [.d r1, .d r2, .d r3])), some (.own (.l [.d d1, .d d2, .d d3])), some (.fz Wd), x8, x9, x10, x11, x12, x13, x14, none, x16, none, none] := by
    have ll : (lowA f1).length ≤ f1.length := by
      unfold lowA
      rw [List.length_map]
      exact List.length_filter_le _ _
    rw [ev_bin]
    show two none _ _ _ _ = _
    rw [two_none, hlc, R.bind_ok, nonBw_w, R.bind_ok]
    show ((E.ev cf g (.ife (.cmp .isin (.k (.int 0)) (.call "_law_free" (.cons (.v 1) (.cons (.k (.int 0)) .nil)))) (.call "_law_free" (.cons (.v 2) (.cons (.k (.int 0)) .nil))) (.lst .nil)) [some (.io o), some (.fz Tq), some (.fz Uq), some (.fz Vq), some (.fz Hq), some (.own (.l [.d r1, .d r2, .d r3])), some (.own (.l [.d d1, .d d2, .d d3])), some (.fz Wd), x8, x9, x10, x11, x12, x13, x14, none, x16, none, none]).bind _) = _
    by_cases c : 0 ∈ f1
    · rw [hz true (decide_eq_true c)]
      have := add_lO (lowA f1) (.w w2) f2 e2 (by omega) [some (.io o), some (.fz Tq), some (.fz Uq), some (.fz Vq), some (.fz Hq), some (.own (.l [.d r1, .d r2, .d r3])), some (.own (.l [.d d1, .d d2, .d d3])), some (.fz Wd), x8, x9, x10, x11, x12, x13, x14, none, x16, none, none]
      unfold lows
      rw [if_pos c, ← this]
      rfl
    · rw [hz false (decide_eq_false c)]
      have := add_lO (lowA f1) (.w (.own (.l []))) [] rfl (by simp; omega) [some (.io o), some (.fz Tq), some (.fz Uq), some (.fz Vq), some (.fz Hq), some (.own (.l [.d r1, .d r2, .d r3])), some (.own (.l [.d d1, .d d2, .d d3])), some (.fz Wd), x8, x9, x10, x11, x12, x13, x14, none, x16, none, none]
      unfold lows
      rw [if_neg c, ← this]
      rfl
  unfold riS8
  rw [ex_asg, fin]
  rfl
theorem st9 {cf : CF} {o : O} {Tq Uq Vq Hq r1 r2 r3 d1 d2 d3 Wd : D} {x8 x9 x10 x11 x12 x13 x14 x16 : Option W} {Sd : D} {lw : List Nat} (h1 : cf "closed_up" [.fz Tq] = .ret (.fz Sd) []) : S.ex cf g fuel riS9 [some (.io o), some (.fz Tq), some (.fz Uq), some (.fz Vq), some (.fz Hq), some (.own (.l [.d r1, .d r2, .d r3])), some (.own (.l [.d d1, .d d2, .d d3])), some (.fz Wd), x8, x9, x10, x11, x12, x13, x14, none, x16, some (.own (lO lw)), none] = .nx [some (.io o), some (.fz Tq), some (.fz Uq), some (.fz Vq), some (.fz Hq), some (.own (.l [.d r1, .d r2, .d r3])), some (.own (.l [.d d1, .d d2, .d d3])), some (.fz Wd), x8, x9, x10, x11, x12, x13, x14, none, x16, some (.own (lO lw)), some (.fz Sd)] := by
  simp only [riS9, ev_v, ev_rd, ev_g, ev_k, ev_bin, ev_cmp, ev_chain, ev_andE, ev_orE, ev_nt, ev_ife, ev_tup, ev_lst, ev_ix, ev_sl, ev_call, ev_callk, ev_own, ev_b1, ev_b2, ev_isi, ev_gin, ev_gix, ss_nil, ss_cons, ex_asg, ex_par, ex_ife, ex_ret, setTg_n, Es.ev, T.tst, I.ev, two_none, two_some, isRd, rdZ, vZ, List.getElem?_cons_zero, List.getElem?_cons_succ, R.bind_ok, ixF_fz, ixT, at0, at1, at2, ofD_some, liftO_some, nonBw_w, cmpT_fz, Z.dat_fz, Fl.of_ok, dc1, dc2, dc3, dc4, dca1, dca2, dca3, dca4, dcaO1, dcaO2, po1, po2, po3, po4, io_fz, wdat, tup0, tup1, tup2, tup3, tup4, lst0, lst1, lst3, List.set_cons_succ, List.set_cons_zero, Fl.then_nx, h1]
theorem st10 {cf : CF} {o : O} {Tq Uq Vq Hq r1 r2 r3 d1 d2 d3 Wd : D} {x8 x9 x10 x11 x12 x13 x14 x16 : Option W} {Sd a1 l1 l2 l3 s1 f1 f2 : D} {lw : List Nat} (h1 : cf "let_in" [.fz Tq, .fz Uq] = .ret (.fz a1) []) (h2 : cf "free_letters" [.fz a1] = .ret (.fz l1) []) (h3 : cf "let_in" [.fz Sd, .fz Uq] = .ret (.fz l2) []) (h4 : cf "raised" [.fz Sd, .fz (.int 4), .fz (.int 0)] = .ret (.fz l3) []) (h5 : cf "lets_in" [.fz Sd, .fz (.tuple [Uq, Vq])] = .ret (.fz s1) []) (h6 : cf "is_closed" [.fz s1] = .ret (.fz (.bool true)) []) (h7 : cf "let_in" [.fz (.tuple [.str "fun", Tq]), .fz Uq] = .ret (.fz f1) []) (h8 : cf "part_at" [.fz f1, .fz (.tuple [])] = .ret (.fz f2) []) (h9 : ixD f2 (.int 0) = some (.str "fun")) :
    S.ex cf g fuel riS10 [some (.io o), some (.fz Tq), some (.fz Uq), some (.fz Vq), some (.fz Hq), some (.own (.l [.d r1, .d r2, .d r3])), some (.own (.l [.d d1, .d d2, .d d3])), some (.fz Wd), x8, x9, x10, x11, x12, x13, x14, none, x16, some (.own (lO lw)), some (.fz Sd)] = .nx [some (.io o), some (.fz Tq), some (.fz Uq), some (.fz Vq), some (.fz Hq), some (.own (.l [.d l1, .d l2, .d l3, .d (.bool true), .d (.str "fun")])), some (.own (.l [.d d1, .d d2, .d d3])), some (.fz Wd), x8, x9, x10, x11, x12, x13, x14, none, x16, some (.own (lO lw)), some (.fz Sd)] := by
  simp only [riS10, ev_v, ev_rd, ev_g, ev_k, ev_bin, ev_cmp, ev_chain, ev_andE, ev_orE, ev_nt, ev_ife, ev_tup, ev_lst, ev_ix, ev_sl, ev_call, ev_callk, ev_own, ev_b1, ev_b2, ev_isi, ev_gin, ev_gix, ss_nil, ss_cons, ex_asg, ex_par, ex_ife, ex_ret, setTg_n, Es.ev, T.tst, I.ev, two_none, two_some, isRd, rdZ, vZ, List.getElem?_cons_zero, List.getElem?_cons_succ, R.bind_ok, ixF_fz, ixT, at0, at1, at2, ofD_some, liftO_some, nonBw_w, cmpT_fz, Z.dat_fz, Fl.of_ok, dc1, dc2, dc3, dc4, dca1, dca2, dca3, dca4, dcaO1, dcaO2, po1, po2, po3, po4, io_fz, wdat, tup0, tup1, tup2, tup3, tup4, lst0, lst1, lst3, List.set_cons_succ, List.set_cons_zero, Fl.then_nx, h1, h2, h3, h4, h5, h6, h7, h8, h9, lst5] <;> rfl
theorem st11 {cf : CF} {o : O} {Tq Uq Vq Hq r1 r2 r3 d1 d2 d3 Wd : D} {x8 x9 x10 x11 x12 x13 x14 x16 : Option W} {Sd l1 l2 l3 l4 : D} {lw : List Nat} (h1 : cf "_law_set" [.fz (.list (iD lw))] = .ret (.fz l4) []) (h2 : cf "_law_same" [.fz (.list [l1, l2, l3, .bool true, .str "fun"]), .fz (.list [l4, Sd, Sd, .bool true, .str "fun"])] = .ret (.fz (.bool true)) []) :
    S.ex cf g fuel riS11 [some (.io o), some (.fz Tq), some (.fz Uq), some (.fz Vq), some (.fz Hq), some (.own (.l [.d l1, .d l2, .d l3, .d (.bool true), .d (.str "fun")])), some (.own (.l [.d d1, .d d2, .d d3])), some (.fz Wd), x8, x9, x10, x11, x12, x13, x14, none, x16, some (.own (lO lw)), some (.fz Sd)] = .rt (.fz (.bool true)) [some (.io o), some (.fz Tq), some (.fz Uq), some (.fz Vq), some (.fz Hq), some (.fz (.list [l1, l2, l3, .bool true, .str "fun"])), some (.own (.l [.d d1, .d d2, .d d3])), some (.fz Wd), x8, x9, x10, x11, x12, x13, x14, none, x16, some (.fz (.list (iD lw))), some (.fz Sd)] := by
  have f1 : O.frz (.l [.d l1, .d l2, .d l3, .d (.bool true), .d (.str "fun")]) = (.list [l1, l2, l3, .bool true, .str "fun"]) := rfl
  have f2 : O.frz (lO lw) = .list (iD lw) := lO_dat lw
  have q : ∀ ρ, doCall cf "_law_same" [.a (.fz (.list [l1, l2, l3, .bool true, .str "fun"])), .a (.own (.l [.d l4, .d Sd, .d Sd, .d (.bool true), .d (.str "fun")]))] ρ = .ok (.w (.fz (.bool true))) ρ := fun ρ => dcFO h2
  simp only [riS11, ev_v, ev_rd, ev_g, ev_k, ev_bin, ev_cmp, ev_chain, ev_andE, ev_orE, ev_nt, ev_ife, ev_tup, ev_lst, ev_ix, ev_sl, ev_call, ev_callk, ev_own, ev_b1, ev_b2, ev_isi, ev_gin, ev_gix, ss_nil, ss_cons, ex_asg, ex_par, ex_ife, ex_ret, setTg_n, Es.ev, T.tst, I.ev, two_none, two_some, isRd, rdZ, vZ, List.getElem?_cons_zero, List.getElem?_cons_succ, R.bind_ok, ixF_fz, ixT, at0, at1, at2, ofD_some, liftO_some, nonBw_w, cmpT_fz, Z.dat_fz, Fl.of_ok, dc1, dc2, dc3, dc4, dca1, dca2, dca3, dca4, dcaO1, dcaO2, po1, po2, po3, po4, io_fz, wdat, tup0, tup1, tup2, tup3, tup4, lst0, lst1, lst3, List.set_cons_succ, List.set_cons_zero, Fl.then_nx, f1, f2, h1, lst5, q]
theorem sset_ext (xs ys : List Nat) (h : ∀ x, x ∈ xs ↔ x ∈ ys) : setD xs = setD ys := by
  unfold setD
  congr 2
  refine pw_ext _ _ (sset_pw _) (sset_pw _) fun z => ?_
  rw [sset_mem, sset_mem]
  unfold zI
  constructor
  · intro hz
    obtain ⟨x, hx, rfl⟩ := List.mem_map.mp hz
    exact List.mem_map.mpr ⟨x, (h x).mp hx, rfl⟩
  · intro hz
    obtain ⟨x, hx, rfl⟩ := List.mem_map.mp hz
    exact List.mem_map.mpr ⟨x, (h x).mpr hx, rfl⟩
theorem lows_mem (t o : Tm) (x : Nat) : x ∈ lows (t.fr 0) (o.fr 0) ↔ x ∈ (t.lt [o] 0 0).fr 0 := by
  rw [fr_lt o x t 0]
  unfold lows lowA
  rw [List.mem_append]
  constructor
  · rintro (h | h)
    · obtain ⟨k, hk, rfl⟩ := List.mem_map.mp h
      obtain ⟨h1, h2⟩ := List.mem_filter.mp hk
      have h2 := of_decide_eq_true h2
      left
      rw [show k - 1 + 1 = k by omega]
      exact h1
    · split at h
      · exact .inr ⟨‹_›, h⟩
      · cases h
  · rintro (h | ⟨h1, h2⟩)
    · left
      exact List.mem_map.mpr ⟨x + 1, List.mem_filter.mpr ⟨h, decide_eq_true (by omega)⟩, by omega⟩
    · right
      rw [if_pos h1]
      exact h2
end K04

set_option Elab.async false
set_option linter.all false
set_option maxRecDepth 100000
set_option maxHeartbeats 8000000
namespace K04
open PySem Co
theorem one1 (u : Tm) (B : Nat) (h : u.ht ≤ B) : ∀ x ∈ [u], x.ht ≤ B := fun x hx => by rw [List.mem_singleton.mp hx]; exact h
theorem tup_row {n b0 : Nat} (row : List Tm) (hR : ∀ t ∈ row, t.ht ≤ b0) (hl : row.length ≤ 900) (hn : b0 + 2 ≤ n) : callN tab g fuel n "tupled" [.fz (rowD row)] = .ret (.fz (rowD row)) [] := by
  obtain ⟨n, rfl⟩ : ∃ m, n = m + 1 := ⟨n - 1, by omega⟩
  refine tup_step _ (row.map enc) (row.map enc) (.inl rfl) (by rw [List.length_map]; exact hl) rfl fun x r hm => ?_
  obtain ⟨t, h1, rfl, rfl⟩ := zipm2 enc enc row x r hm
  exact tupled_ok t n (by have := hR t h1; omega)
theorem right_body (m : Nat) (a b : Int) (hm : 150 ≤ m) : ∃ o' ρ', Ss.ex (callN tab g fuel (m + 2)) g fuel d__law_right.body [some (.io (tinO a b 0)), none, none, none, none, none, none, none, none, none, none, none, none, none, none, none, none, none, none] = .rt (.fz (.bool true)) (some (.io o') :: ρ') := by
  obtain ⟨t, a1, c1, p1, p2, ht, hz, hv, e1⟩ := any_ok 5 0 (m + 2) a b 0 (by omega) (by omega) (by omega) (by omega)
  obtain ⟨u, a2, c2, p3, p4, hu, hzu, hvu, e2⟩ := any_ok 3 0 (m + 2) a1 b c1 (by omega) (by omega) (by omega) (by omega)
  obtain ⟨w, a3, c3, p5, p6, hw, hzw, hvw, e3⟩ := any_ok 3 0 (m + 2) a2 b c2 (by omega) (by omega) (by omega) (by omega)
  obtain ⟨h, a4, c4, p7, p8, hh, hzh, hvh, e4⟩ := any_ok 2 0 (m + 2) a3 b c3 (by omega) (by omega) (by omega) (by omega)
  -- putting in
  have TU : ∀ x : Tm, x.ht ≤ 60 → callN tab g fuel m "tupled" [.fz (enc x)] = .ret (.fz (enc x)) [] := fun x hx => tupled_ok x m (by omega)
  have LI : ∀ x y : Tm, x.ht ≤ 60 → y.ht ≤ 60 → callN tab g fuel (m + 2) "let_in" [.fz (enc x), .fz (enc y)] = .ret (.fz (enc (x.lt [y] 0 0))) [] := fun x y hx hy => let_in_top (enc x) (enc y) x y (TU x hx) (TU y hy) (by omega)
  have LS : ∀ (x : Tm) (row : List Tm), x.ht ≤ 60 → (∀ y ∈ row, y.ht ≤ 60) → row.length ≤ 900 → callN tab g fuel (m + 2) "lets_in" [.fz (enc x), .fz (rowD row)] = .ret (.fz (enc (x.lt row 0 0))) [] := fun x row hx hr hl => lets_in_top (enc x) (rowD row) x row 60 hr hl (TU x hx) (tup_row row hr hl (by omega)) (by omega)
  have LL : ∀ (x y : Tm), x.ht ≤ 60 → y.ht ≤ 60 → callN tab g fuel (m + 2) "_law_let" [.fz (enc x), .fz (rowD [y]), .fz (.int 0), .fz (.int 0)] = .ret (.fz (enc (x.lt [y] 0 0))) [] := fun x y hx hy => let_ok [y] 60 (one1 y 60 hy) x 0 (m + 2) (by omega)
  have SM : ∀ x : Tm, x.ht ≤ 60 → callN tab g fuel (m + 2) "_law_same" [.fz (enc x), .fz (enc x)] = .ret (.fz (.bool true)) [] := fun x hx => same_tm x (m + 2) (by omega)
  have H1 : ∀ (x y : Tm), (x.lt [y] 0 0).ht ≤ x.ht + y.ht := fun x y => ht_lt [y] y.ht (one1 y y.ht (Nat.le_refl _)) x 0
  have hA1 := H1 t u
  have hUw := H1 u w
  have hHw := H1 h w
  have hA2 := H1 (t.lt [u] 0 0) w
  have hA3 : (t.lt [u, h] 0 0).ht ≤ t.ht + 7 := ht_lt [u, h] 7 (fun x hx => by
    simp only [List.mem_cons, List.not_mem_nil, or_false] at hx
    rcases hx with rfl | rfl <;> omega) t 0
  have hA4 := H1 (t.lt [u, h] 0 0) w
  -- at once
  have r2 : t.lt [u.lt [w] 0 0, w] 0 0 = (t.lt [u] 0 0).lt [w] 0 0 := (lt_row1 [u] w t 0).symm
  have r3 : t.lt [u.lt [w] 0 0, h.lt [w] 0 0, w] 0 0 = (t.lt [u, h] 0 0).lt [w] 0 0 := (lt_row1 [u, h] w t 0).symm
  have g1 := LI t u (by omega) (by omega)
  have g2 := LI (t.lt [u] 0 0) w (by omega) (by omega)
  have g3 := LI u w (by omega) (by omega)
  have g4 := LS t [u.lt [w] 0 0, w] (by omega) (fun x hx => by
    simp only [List.mem_cons, List.not_mem_nil, or_false] at hx
    rcases hx with rfl | rfl <;> omega) (by simp)
  rw [r2] at g4
  have g5 := LS t [u, h] (by omega) (fun x hx => by
    simp only [List.mem_cons, List.not_mem_nil, or_false] at hx
    rcases hx with rfl | rfl <;> omega) (by simp)
  have g6 := LS (t.lt [u, h] 0 0) [w] (by omega) (one1 w 60 (by omega)) (by simp)
  have l1 := LL t u (by omega) (by omega)
  have l2 := LL (t.lt [u] 0 0) w (by omega) (by omega)
  have g7 := LI h w (by omega) (by omega)
  have g8 := LS t [u.lt [w] 0 0, h.lt [w] 0 0, w] (by omega) (fun x hx => by
    simp only [List.mem_cons, List.not_mem_nil, or_false] at hx
    rcases hx with rfl | rfl | rfl <;> omega) (by simp)
  rw [r3] at g8
  have v1 := same_row (n := m + 1) [(t.lt [u] 0 0).lt [w] 0 0, (t.lt [u, h] 0 0).lt [w] 0 0] 40 (by
    intro x hx
    simp only [List.mem_cons, List.not_mem_nil, or_false] at hx
    rcases hx with rfl | rfl <;> omega) (by simp) (by omega)
  have v2 := SM ((t.lt [u] 0 0).lt [w] 0 0) (by omega)
  -- within a function
  have l3 := LL (.fn t) w (by simp only [Tm.ht]; omega) (by omega)
  have hW : (t.lt [w] 0 1).ht ≤ t.ht + w.ht := ht_lt [w] w.ht (one1 w w.ht (Nat.le_refl _)) t 1
  have z1 := size_ok ((Tm.fn t).lt [w] 0 0) (m + 2) (by show (t.lt [w] 0 1).ht + 1 + 1 ≤ m + 2; omega)
  have z2 := deep_ok (m + 2) ((Tm.fn t).lt [w] 0 0) (by show (t.lt [w] 0 1).ht + 1 + 1 ≤ m + 2; omega)
  have ixw : ixD (enc ((Tm.fn t).lt [w] 0 0)) (.int 1) = some (enc (t.lt [w] 0 1)) := by show L2.atI _ _ = _; exact at1
  have g9 := LI (t.lt [w] 0 1) (u.lt [w] 0 0) (by omega) (by omega)
  have r4 : (t.lt [w] 0 1).lt [u.lt [w] 0 0] 0 0 = (t.lt [u] 0 0).lt [w] 0 0 := (lt_lt [w] u 0 t 0).symm
  rw [r4] at g9
  -- steps
  have sT := step_places_ok (n := m + 2) t (by omega) (by omega) (by omega)
  have szA : (t.lt [u] 0 0).sz ≤ 1296 := by
    have h1 := sz_lt u t 0
    have h2 : t.sz * u.sz ≤ 36 * 36 := Nat.mul_le_mul hz hzu
    omega
  have sA := step_places_ok (n := m + 2) (t.lt [u] 0 0) (by omega) (by omega) (by omega)
  have sb : ∀ (nr : Tm), nr.ht ≤ 60 → callN tab g fuel (m + 2) "_law_same" [.fz (.list [enc nr, .bool true]), .fz (.list [enc nr, .bool true])] = .ret (.fz (.bool true)) [] := fun nr hn => by
    refine same_list (n := m + 1) [enc nr, .bool true] (by simp) fun x hx => ?_
    simp only [List.mem_cons, List.not_mem_nil, or_false] at hx
    rcases hx with rfl | rfl
    · exact same_tm nr (m + 1) (by omega)
    · exact same_bool true (by omega)
  obtain ⟨x8, x9, x10, s6⟩ := st6 (cf := callN tab g fuel (m + 2)) (o := tinO a4 b c4) (Tq := enc t) (Uq := enc u) (Vq := enc w) (Hq := enc h) (r1 := enc ((t.lt [u] 0 0).lt [w] 0 0)) (r2 := enc ((t.lt [u] 0 0).lt [w] 0 0)) (r3 := enc ((t.lt [u, h] 0 0).lt [w] 0 0)) (d1 := enc ((t.lt [u] 0 0).lt [w] 0 0)) (d2 := enc ((t.lt [u] 0 0).lt [w] 0 0)) (d3 := enc ((t.lt [u, h] 0 0).lt [w] 0 0)) (Wd := enc ((Tm.fn t).lt [w] 0 0)) t.spots sT (fun p hp x9 x10 => by
    obtain ⟨v, hv⟩ := spots_sa t p hp
    have hvh := sa_ht p t v hv
    have k1 := step_at_ok (n := m + 2) t v p hv (by omega) (by omega)
    have k2 := LI v u (by omega) (by omega)
    have hA := sa_lt [u] p t v 0 hv
    have k4 := step_at_ok (n := m + 2) (t.lt [u] 0 0) (v.lt [u] 0 0) p hA (by omega) (by omega)
    have k6 := isin_pl p (t.lt [u] 0 0).spots (sa_spots _ _ p hA)
    have k7 := sb (v.lt [u] 0 0) (by have := H1 v u; omega)
    exact ⟨_, _, bd6 k1 k2 g1 k4 sA k6 k7⟩)
  -- home by home
  have sU := step_places_ok (n := m + 2) u (by omega) (by omega) (by omega)
  have hlp := lp_ok (m + 2) t (by omega) (by omega) (by omega)
  have hpart := fun p x hx => lq_ok (n := m + 2) t x p hx (by omega)
  obtain ⟨y8, y11, y12, y13, y14, y16, s7⟩ := st7 (cf := callN tab g fuel (m + 2)) (o := tinO a4 b c4) (Uq := enc u) (Vq := enc w) (Hq := enc h) (r1 := enc ((t.lt [u] 0 0).lt [w] 0 0)) (r2 := enc ((t.lt [u] 0 0).lt [w] 0 0)) (r3 := enc ((t.lt [u, h] 0 0).lt [w] 0 0)) (d1 := enc ((t.lt [u] 0 0).lt [w] 0 0)) (d2 := enc ((t.lt [u] 0 0).lt [w] 0 0)) (d3 := enc ((t.lt [u, h] 0 0).lt [w] 0 0)) (Wd := enc ((Tm.fn t).lt [w] 0 0)) (z8 := x8) (x9 := x9) (x10 := x10) t u 60 (by omega) (by omega) rfl sU (fun q hq x11 x12 x13 x14 x16 => by
    obtain ⟨v, hv⟩ := spots_sa u q hq
    have hvh := sa_ht q u v hv
    obtain ⟨xx, yy, hx, _⟩ := sa_pt q u v hv
    have hql := pt_ht u xx q hx
    have hr := (run_ok u v q 14 hv (by omega) (by omega) t 0).mono (K' := 30) (by omega)
    have k2 := step_at_ok (n := m + 2) u v q hv (by omega) (by omega)
    have k3 := LI t v (by omega) (by omega)
    have k6 := SM (t.lt [v] 0 0) (by have := H1 t v; omega)
    exact bd7w (Lr := enc t) t u v q 30 (by omega) (by omega) (by omega) rfl hr hlp hpart k2 k3 g1 (fun v u p hv hs => step_at_ok (n := m + 2) v u p hs (by omega) (by omega)) k6)
  -- letters
  obtain ⟨w1, f1, f2, f3, f4⟩ := free_ok t 0 (m + 2) (by omega) (by omega)
  obtain ⟨w2, i1, i2, i3, i4⟩ := free_ok u 0 (m + 2) (by omega) (by omega)
  rw [i2] at i4
  have fl1 := fr_len t 0
  have fl2 := fr_len u 0
  have s8 := st8 (cf := callN tab g fuel (m + 2)) (o := tinO a4 b c4) (Tq := enc t) (Uq := enc u) (Vq := enc w) (Hq := enc h) (r1 := enc ((t.lt [u] 0 0).lt [w] 0 0)) (r2 := enc ((t.lt [u] 0 0).lt [w] 0 0)) (r3 := enc ((t.lt [u, h] 0 0).lt [w] 0 0)) (d1 := enc ((t.lt [u] 0 0).lt [w] 0 0)) (d2 := enc ((t.lt [u] 0 0).lt [w] 0 0)) (d3 := enc ((t.lt [u, h] 0 0).lt [w] 0 0)) (Wd := enc ((Tm.fn t).lt [w] 0 0)) (x8 := y8) (x9 := x9) (x10 := x10) (x11 := y11) (x12 := y12) (x13 := y13) (x14 := y14) (x16 := y16) (t.fr 0) (u.fr 0) f1 f2 f3 i1 i3 i4 (by omega) (by omega)
  have hc : cl (t.fr 0) ≤ 8 := Nat.le_trans (cl_mv t 0) (by omega)
  have g20 := closed_top (n := m) (enc t) t (TU t (by omega)) (by omega) (by omega) (by omega)
  generalize hC : cl (t.fr 0) = C at *
  have hcl : (t.wrap C).fr 0 = [] := by rw [← hC]; exact closed t
  have hwr := ht_wrap t C
  have hws := sz_wrap t C
  have g21 := LI (t.wrap C) u (by omega) (by omega)
  rw [closed_lt [u] _ 0 hcl] at g21
  have g22 := raised_top (n := m) (enc (t.wrap C)) (t.wrap C) 4 0 (by omega) (by omega) (TU _ (by omega)) (by omega)
  rw [closed_rs 4 _ 0 hcl] at g22
  have g23 := LS (t.wrap C) [u, w] (by omega) (fun x hx => by
    simp only [List.mem_cons, List.not_mem_nil, or_false] at hx
    rcases hx with rfl | rfl <;> omega) (by simp)
  rw [closed_lt [u, w] _ 0 hcl] at g23
  have g24 := is_closed_ok (n := m + 2) (t.wrap C) hcl (by omega) (by omega)
  have g25 := LI (.fn t) u (by simp only [Tm.ht]; omega) (by omega)
  have hF : ((Tm.fn t).lt [u] 0 0).ht ≤ 20 := by have := H1 (.fn t) u; simp only [Tm.ht] at this; omega
  have g26 := part_at_ok (n := m + 2) ((Tm.fn t).lt [u] 0 0) (by omega) (by omega)
  have g27 : ixD (enc ((Tm.fn t).lt [u] 0 0)) (.int 0) = some (.str "fun") := by show L2.atI _ _ = _; exact at0
  have hA8 : ∀ x ∈ (t.lt [u] 0 0).fr 0, x + 1 ≤ 8 := fun x hx => by
    rcases (fr_lt u x t 0).mp hx with q | ⟨_, q⟩
    · have := fr_mv t 0 _ q; omega
    · have := fr_mv u 0 _ q; omega
  have hL8 : ∀ x ∈ lows (t.fr 0) (u.fr 0), x + 1 ≤ 8 := fun x hx => hA8 x ((lows_mem t u x).mp hx)
  have g28 := free_letters_ok (n := m + 2) (t.lt [u] 0 0) 8 hA8 (by omega) (by omega) (by omega)
  have ll : (lows (t.fr 0) (u.fr 0)).length ≤ 2000 := by
    unfold lows lowA
    rw [List.length_append, List.length_map]
    have h1 := List.length_filter_le (fun k => decide (0 < k)) (t.fr 0)
    split
    · omega
    · simp only [List.length_nil]; omega
  have g29 := set_ok (n := m + 2) (lows (t.fr 0) (u.fr 0)) 8 hL8 (by omega) ll (by omega)
  rw [sset_ext _ _ (lows_mem t u)] at g29
  have v9 : callN tab g fuel (m + 2) "_law_same" [.fz (.list [setD ((t.lt [u] 0 0).fr 0), enc (t.wrap C), enc (t.wrap C), .bool true, .str "fun"]), .fz (.list [setD ((t.lt [u] 0 0).fr 0), enc (t.wrap C), enc (t.wrap C), .bool true, .str "fun"])] = .ret (.fz (.bool true)) [] := by
    refine same_list (n := m + 1) _ (by simp) fun x hx => ?_
    simp only [List.mem_cons, List.not_mem_nil, or_false] at hx
    rcases hx with rfl | rfl | rfl | rfl | rfl
    · refine same_ints (ssetI (zI ((t.lt [u] 0 0).fr 0))) ?_ (by omega)
      have := sset_small _ 8 hA8
      omega
    · exact same_tm _ (m + 1) (by omega)
    · exact same_tm _ (m + 1) (by omega)
    · exact same_bool true (by omega)
    · exact same_str _ ok_fun (by omega)
  rw [riS_body]
  exact ⟨_, _, ss_step (st0 e1 e2 e3 e4) (ss_step (st1 g1 g2 g3 g4 g5 g6) (ss_step (st2 l1 l2 g3 g7 g8) (ss_step (st3 v1 v2) (ss_step (st4 l3) (ss_step (st5 z1 z2 ixw g3 g9 v2) (ss_step s6 (ss_step s7 (ss_step s8 (ss_step (st9 g20) (ss_step (st10 g1 g28 g21 g22 g23 g24 g25 g26 g27) (ss_rt (st11 (r1 := enc t) (r2 := enc t) (r3 := enc t) g29 v9))))))))))))⟩
end K04

set_option Elab.async false
set_option linter.all false
set_option maxRecDepth 100000
set_option maxHeartbeats 8000000
namespace K04
open PySem Co
theorem box_ok {n : Nat} (xs : List Int) (k : Nat) (hk : k ≤ 900) (h : 1 ≤ n) : ∃ a b : Int, callN tab g fuel n "_law_box" [.fz (.list (xs.map .int)), .fz (.int k)] = .ret (.own (tinO a b 0)) [] := by
  obtain ⟨n, rfl⟩ : ∃ m, n = m + 1 := ⟨n - 1, by omega⟩
  rw [e__law_box]
  obtain ⟨v, hv⟩ : ∃ v : Int, E.ev (callN tab g fuel n) g (.ife (.cmp .lt (.rd 1) (.b1 .len (.rd 0))) (.ix (.rd 0) (.rd 1)) (.k (.int 0))) [some (.fz (.list (xs.map .int))), some (.fz (.int k)), none] = .ok (.w (.fz (.int v))) [some (.fz (.list (xs.map .int))), some (.fz (.int k)), none] := by
    have hlen : ∀ ρ, b1F .len (.w (.fz (.list (xs.map .int)))) ρ = .ok (.w (.fz (.int (xs.map PyData.int).length))) ρ := fun _ => rfl
    by_cases hc : (k : Int) < ((xs.map PyData.int).length : Nat)
    · have hg : k < xs.length := by rw [List.length_map] at hc; omega
      refine ⟨xs[k], ?_⟩
      have hat : L2.atI (xs.map PyData.int) (k : Int) = some (.int xs[k]) := by
        rw [atN, List.getElem?_map, List.getElem?_eq_getElem hg]; rfl
      simp only [ev_v, ev_rd, ev_g, ev_k, ev_bin, ev_cmp, ev_chain, ev_andE, ev_orE, ev_nt, ev_ife, ev_tup, ev_lst, ev_ix, ev_sl, ev_call, ev_callk, ev_own, ev_b1, ev_b2, ev_isi, ev_gin, ev_gix, ss_nil, ss_cons, ex_asg, ex_par, ex_ife, ex_ret, setTg_n, Es.ev, T.tst, I.ev, two_none, two_some, isRd, rdZ, vZ, List.getElem?_cons_zero, List.getElem?_cons_succ, R.bind_ok, ixF_fz, ixT, at0, at1, at2, ofD_some, liftO_some, nonBw_w, cmpT_fz, Z.dat_fz, Fl.of_ok, dc1, dc2, dc3, dc4, dca1, dca2, dca3, dca4, dcaO1, dcaO2, po1, po2, po3, po4, io_fz, wdat, tup0, tup1, tup2, tup3, tup4, lst0, lst1, lst3, hlen, cmp_lt, decide_eq_true hc, if_true, ixLs, hat]
    · refine ⟨0, ?_⟩
      simp only [ev_v, ev_rd, ev_g, ev_k, ev_bin, ev_cmp, ev_chain, ev_andE, ev_orE, ev_nt, ev_ife, ev_tup, ev_lst, ev_ix, ev_sl, ev_call, ev_callk, ev_own, ev_b1, ev_b2, ev_isi, ev_gin, ev_gix, ss_nil, ss_cons, ex_asg, ex_par, ex_ife, ex_ret, setTg_n, Es.ev, T.tst, I.ev, two_none, two_some, isRd, rdZ, vZ, List.getElem?_cons_zero, List.getElem?_cons_succ, R.bind_ok, ixF_fz, ixT, at0, at1, at2, ofD_some, liftO_some, nonBw_w, cmpT_fz, Z.dat_fz, Fl.of_ok, dc1, dc2, dc3, dc4, dca1, dca2, dca3, dca4, dcaO1, dcaO2, po1, po2, po3, po4, io_fz, wdat, tup0, tup1, tup2, tup3, tup4, lst0, lst1, lst3, hlen, cmp_lt, decide_eq_false hc, Bool.false_eq_true, if_false]
  have hp : binD .pow (.int 10) (.int 18) = some (.fz (.int (10 ^ 18))) := by kernel_rfl
  have ha : ∀ ρ, b1F .abs (.w (.fz (.int v))) ρ = .ok (.w (.fz (.int (if v < 0 then -v else v)))) ρ := fun _ => rfl
  generalize hA : (if v < 0 then -v else v) = A at ha
  have hm1 : binD .mul (.int A) (.int (if decide ((10 : Int) ^ 18 ≤ A) then 1 else 0)) = some (.fz (.int (A * (if decide ((10 : Int) ^ 18 ≤ A) then 1 else 0)))) := mulR _ _ (by split <;> omega) (by split <;> omega)
  have hm2 : binD .mod (.int v) (.int 2305843009213693951) = some (.fz (.int (v % 2305843009213693951))) := modI _ _ (by omega)
  have hm3 : binD .mul (.int 39373) (.int k) = some (.fz (.int (39373 * (k : Int)))) := mulL _ _ (by omega) (by omega)
  refine ⟨A * (if decide ((10 : Int) ^ 18 ≤ A) then 1 else 0), v % 2305843009213693951 + 39373 * (k : Int) + 9215004, ?_⟩
  unfold tinO
  show finish [] (Ss.ex _ g fuel (.cons (.asg (.n 2) _) _) _) = _
  rw [ss_cons, ex_asg, hv]
  simp only [ev_v, ev_rd, ev_g, ev_k, ev_bin, ev_cmp, ev_chain, ev_andE, ev_orE, ev_nt, ev_ife, ev_tup, ev_lst, ev_ix, ev_sl, ev_call, ev_callk, ev_own, ev_b1, ev_b2, ev_isi, ev_gin, ev_gix, ss_nil, ss_cons, ex_asg, ex_par, ex_ife, ex_ret, setTg_n, Es.ev, T.tst, I.ev, two_none, two_some, isRd, rdZ, vZ, List.getElem?_cons_zero, List.getElem?_cons_succ, R.bind_ok, ixF_fz, ixT, at0, at1, at2, ofD_some, liftO_some, nonBw_w, cmpT_fz, Z.dat_fz, Fl.of_ok, dc1, dc2, dc3, dc4, dca1, dca2, dca3, dca4, dcaO1, dcaO2, po1, po2, po3, po4, io_fz, wdat, tup0, tup1, tup2, tup3, tup4, lst0, lst1, lst3, List.set_cons_succ, List.set_cons_zero, Fl.then_nx, ha, binF_fz, hp, ofO_some, cmpF_fz, cmp_ge, map_bool, b1_int, hm1, intI, hm2, hm3, addI] <;> rfl
def ceS0 : S := (.asg (.n 2) (.orE (.b1 .list (.sl (.rd 0) (.k .none) (.rd 1))) (.lst (.cons (.k (.int 0)) .nil))))
def ceS1 : S := (.for (.t [3, 4]) (.enum (.sl (.rd 0) (.rd 1) (.k (.int 63)))) (.cons (.asg (.n 5) (.bin .mod (.b1 .int (.rd 3)) (.rd 1)))
    (.cons (.set 2 (.rd 5) (.bin .add (.ix (.rd 2) (.rd 5)) (.bin .mul (.rd 4) (.bin .add (.rd 3) (.k (.int 2))))))
    .nil)))
def ceS2 : S := (.ret (.v 2))
theorem ceS_body : d__law_cells.body = .cons ceS0 (.cons ceS1 (.cons ceS2 (.nil))) := rfl


theorem cut_head (ns : List Int) : cutA (ns.map PyData.int) none (some 2) = (ns.take 2).map .int := by
  unfold cutA
  rw [HT.sIx_none]
  have : HT.sIx (ns.map PyData.int).length (ns.map PyData.int).length (some 2) = min 2 (ns.map PyData.int).length := HT.sIx_nat _ _ 2
  rw [this, List.drop_zero, Nat.sub_zero, List.map_take, ← List.take_eq_take_min]
theorem cut_tail (ns : List Int) (h : ns.length ≤ 63) : cutA (ns.map PyData.int) (some 2) (some 63) = (ns.drop 2).map .int := by
  unfold cutA
  have e1 : HT.sIx (ns.map PyData.int).length (ns.map PyData.int).length (some 63) = min 63 (ns.map PyData.int).length := HT.sIx_nat _ _ 63
  have e2 : HT.sIx (ns.map PyData.int).length 0 (some 2) = min 2 (ns.map PyData.int).length := HT.sIx_nat _ _ 2
  rw [e1, e2, List.map_drop, List.length_map]
  by_cases c : ns.length ≤ 2
  · rw [List.drop_eq_nil_of_le (by rw [List.length_map]; omega), List.drop_eq_nil_of_le (by rw [List.length_map]; omega), List.take_nil]
  · rw [show min 2 ns.length = 2 by omega, show min 63 ns.length = ns.length by omega, List.take_of_length_le (by rw [List.length_drop, List.length_map]; omega)]
theorem numD_get : ∀ (ds : List D) (m i : Nat), (numD m ds)[i]? = (ds[i]?).map fun d => .tuple [.int (m + i : Nat), d]
  | [], m, i => by simp [numD]
  | d :: ds, m, 0 => by simp [numD]
  | d :: ds, m, i + 1 => by
    show (numD (m + 1) ds)[i]? = _
    rw [numD_get ds (m + 1) i]
    simp only [List.getElem?_cons_succ]
    congr 1
    funext d
    congr 3
    omega
theorem cells_ok {n : Nat} (ns : List Int) (hn : ns.length ≤ 63) (h : 1 ≤ n) : ∃ xs : List Int, xs.length ≤ 2 ∧ callN tab g fuel n "_law_cells" [.fz (scrD ns), .fz (.int 2)] = .ret (.fz (.list (xs.map .int))) [] := by
  obtain ⟨n, rfl⟩ : ∃ m, n = m + 1 := ⟨n - 1, by omega⟩
  generalize hcf : callN tab g fuel n = cf
  have e0 : callN tab g fuel (n + 1) "_law_cells" [.fz (scrD ns), .fz (.int 2)] = finish [] (d__law_cells.body.ex cf g fuel [some (.fz (scrD ns)), some (.fz (.int 2)), none, none, none, none]) := by rw [← hcf]; exact e__law_cells n _ _
  rw [e0, ceS_body]
  -- the first two
  have hs1 : ∀ ρ : Co.Env, ρ[0]? = some (some (.fz (scrD ns))) → ρ[1]? = some (some (.fz (.int 2))) → E.ev cf g (.sl (.rd 0) (.k .none) (.rd 1)) ρ = .ok (.w (.own (.l (((ns.take 2).map PyData.int).map .d)))) ρ := by
    intro ρ h0 h1
    rw [ev_sl]
    have r0 : rdZ 0 ρ = .ok (.w (.fz (scrD ns))) ρ := rdZ_fz h0
    have r1 : rdZ 1 ρ = .ok (.w (.fz (.int 2))) ρ := rdZ_fz h1
    show (rdZ 0 ρ).bind _ = _
    rw [r0]
    show ((rdZ 1 ρ).bind _).bind _ = _
    rw [r1]
    show (rdZ 0 ρ).bind _ = _
    rw [r0]
    show ofO (slD (scrD ns) none (some 2)) ρ = _
    show ofO (some (W.own (.l ((cutA (ns.map PyData.int) none (some 2)).map .d)))) ρ = _
    rw [cut_head]
    rfl
  have hs2 : ∀ ρ : Co.Env, ρ[0]? = some (some (.fz (scrD ns))) → ρ[1]? = some (some (.fz (.int 2))) → I.ev cf g (.enum (.sl (.rd 0) (.rd 1) (.k (.int 63)))) ρ = .ok (numD 0 ((ns.drop 2).map .int)) ρ := by
    intro ρ h0 h1
    have r0 : rdZ 0 ρ = .ok (.w (.fz (scrD ns))) ρ := rdZ_fz h0
    have r1 : rdZ 1 ρ = .ok (.w (.fz (.int 2))) ρ := rdZ_fz h1
    have e1 : E.ev cf g (.sl (.rd 0) (.rd 1) (.k (.int 63))) ρ = .ok (.w (.own (.l (((ns.drop 2).map PyData.int).map .d)))) ρ := by
      rw [ev_sl]
      show (rdZ 0 ρ).bind _ = _
      rw [r0]
      show ((rdZ 1 ρ).bind _).bind _ = _
      rw [r1]
      show (rdZ 0 ρ).bind _ = _
      rw [r0]
      show ofO (some (W.own (.l ((cutA (ns.map PyData.int) (some 2) (some 63)).map .d)))) ρ = _
      rw [cut_tail ns hn]
      rfl
    show ((E.ev cf g (.sl (.rd 0) (.rd 1) (.k (.int 63))) ρ).bind fun z ρ1 => (nonBw z ρ1).bind fun x ρ2 => (liftO (seqD x.dat) ρ2).bind fun ds ρ3 => R.ok (numD 0 ds) ρ3) = _
    have hz : (W.own (.l (((ns.drop 2).map PyData.int).map .d))).dat = .list ((ns.drop 2).map PyData.int) := by show PyData.list (O.frzs _) = _; rw [frz_map]
    rw [e1, R.bind_ok, nonBw_w, R.bind_ok, hz]
    rfl
  have hb : ∀ (ds : List D) (ρ : Co.Env), b1F .list (.w (.own (.l (ds.map .d)))) ρ = .ok (.w (.own (.l (ds.map .d)))) ρ := fun ds ρ => by
    show (match (plainO (ds.map .d)).map PyData.list with
      | some x => ofO (b1D .list x) ρ
      | none => .bad) = _
    rw [plain_map]
    rfl
  obtain ⟨vs, hvs, hfor⟩ : ∃ vs : List Int, vs.length ≤ 2 ∧ (ns.drop 2 = [] ∨ vs.length = 2) ∧ S.ex cf g fuel ceS0 [some (.fz (scrD ns)), some (.fz (.int 2)), none, none, none, none] = .nx [some (.fz (scrD ns)), some (.fz (.int 2)), some (.own (.l ((vs.map PyData.int).map .d))), none, none, none] := by
    have o1 := hs1 [some (.fz (scrD ns)), some (.fz (.int 2)), none, none, none, none] rfl rfl
    have step : ∀ b : Bool, (!(ns.take 2).isEmpty) = b → S.ex cf g fuel ceS0 [some (.fz (scrD ns)), some (.fz (.int 2)), none, none, none, none] = if b then .nx [some (.fz (scrD ns)), some (.fz (.int 2)), some (.own (.l (((ns.take 2).map PyData.int).map .d))), none, none, none] else .nx [some (.fz (scrD ns)), some (.fz (.int 2)), some (.own (.l [.d (.int 0)])), none, none, none] := by
      intro b hb2
      unfold ceS0
      rw [ex_asg, ev_orE, ev_b1, o1]
      rw [R.bind_ok, hb, R.bind_ok, nonBw_w, R.bind_ok]
      have ht : truD (W.own (.l (((ns.take 2).map PyData.int).map .d))).dat = some b := by
        show truD (.list (O.frzs (((ns.take 2).map PyData.int).map .d))) = _
        rw [frz_map]
        show some (!((ns.take 2).map PyData.int).isEmpty) = _
        rw [← hb2]
        cases ns.take 2 <;> rfl
      rw [ht, liftO_some, R.bind_ok]
      cases b <;> rfl
    cases hq : ns with
    | nil =>
      rw [hq] at step
      exact ⟨[0], by simp, .inl rfl, (step false rfl)⟩
    | cons p r =>
      rw [hq] at step
      refine ⟨(p :: r).take 2, by simp [List.length_take]; omega, ?_, (step true (by simp))⟩
      cases r with
      | nil => exact .inl rfl
      | cons q r => exact .inr rfl
  obtain ⟨h2, hfor⟩ := hfor
  obtain ⟨ws, hws, hend⟩ : ∃ (ws : List Int), ws.length ≤ 2 ∧ ∃ x3 x4 x5, S.ex cf g fuel ceS1 [some (.fz (scrD ns)), some (.fz (.int 2)), some (.own (.l ((vs.map PyData.int).map .d))), none, none, none] = .nx [some (.fz (scrD ns)), some (.fz (.int 2)), some (.own (.l ((ws.map PyData.int).map .d))), x3, x4, x5] := by
    have hi := hs2 [some (.fz (scrD ns)), some (.fz (.int 2)), some (.own (.l ((vs.map PyData.int).map .d))), none, none, none] rfl rfl
    unfold ceS1
    rw [ex_for, hi]
    rcases h2 with h2 | h2
    · rw [h2]
      exact ⟨vs, hvs, none, none, none, rfl⟩
    · obtain ⟨u, v, rfl⟩ : ∃ u v, vs = [u, v] := by
        match vs, h2 with
        | [u, v], _ => exact ⟨u, v, rfl⟩
      obtain ⟨ρ', e1, u', v', x3, x4, x5, rfl⟩ := for_inv (body := fun d ρ => match setTg (.t [3, 4]) d ρ with
        | some ρ' => Ss.ex cf g fuel (.cons (.asg (.n 5) (.bin .mod (.b1 .int (.rd 3)) (.rd 1)))
    (.cons (.set 2 (.rd 5) (.bin .add (.ix (.rd 2) (.rd 5)) (.bin .mul (.rd 4) (.bin .add (.rd 3) (.k (.int 2))))))
    .nil)) ρ'
        | none => .bad) (Iv := fun i ρ => ∃ (u v : Int) (x3 x4 x5 : Option W), ρ = [some (.fz (scrD ns)), some (.fz (.int 2)), some (.own (.l [.d (.int u), .d (.int v)])), x3, x4, x5]) (numD 0 ((ns.drop 2).map .int)) 0 _ ⟨u, v, none, none, none, rfl⟩ (by
          rintro i d ρ hd ⟨u, v, x3, x4, x5, rfl⟩
          rw [numD_get, List.getElem?_map] at hd
          cases hq : (ns.drop 2)[i]? with
          | none => rw [hq] at hd; cases hd
          | some z =>
            rw [hq] at hd
            cases hd
            have hi63 : i < 63 := by
              have := (List.getElem?_eq_some_iff.mp hq).1
              rw [List.length_drop] at this
              omega
            rw [Nat.zero_add]
            have hst : setTg (.t [3, 4]) (.tuple [.int ((i : Nat) : Int), .int z]) [some (.fz (scrD ns)), some (.fz (.int 2)), some (.own (.l [.d (.int u), .d (.int v)])), x3, x4, x5] = some [some (.fz (scrD ns)), some (.fz (.int 2)), some (.own (.l [.d (.int u), .d (.int v)])), some (.fz (.int i)), some (.fz (.int z)), x5] := rfl
            have m1 : binD .mod (.int i) (.int 2) = some (.fz (.int ((i : Int) % 2))) := modI _ _ (by omega)
            have m2 : binD .mul (.int z) (.int ((i : Int) + 2)) = some (.fz (.int (z * ((i : Int) + 2)))) := mulR _ _ (by omega) (by omega)
            rcases (by omega : (i : Int) % 2 = 0 ∨ (i : Int) % 2 = 1) with hm | hm
            · refine ⟨[some (.fz (scrD ns)), some (.fz (.int 2)), some (.own (.l [.d (.int (u + z * ((i : Int) + 2))), .d (.int v)])), some (.fz (.int i)), some (.fz (.int z)), some (.fz (.int 0))], ?_, _, _, _, _, _, rfl⟩
              have hset : ∀ x3 x4 x5, chg 2 [some (.fz (scrD ns)), some (.fz (.int 2)), some (.own (.l [.d (.int u), .d (.int v)])), x3, x4, x5] (setF (.int 0) (.fz (.int (u + z * ((i : Int) + 2))))) = .nx [some (.fz (scrD ns)), some (.fz (.int 2)), some (.own (.l [.d (.int (u + z * ((i : Int) + 2))), .d (.int v)])), x3, x4, x5] := fun _ _ _ => rfl
              have hl : ∀ x3 x4 x5, isL 2 [some (.fz (scrD ns)), some (.fz (.int 2)), some (.own (.l [.d (.int u), .d (.int v)])), x3, x4, x5] = true := fun _ _ _ => rfl
              simp only [hst, ev_v, ev_rd, ev_g, ev_k, ev_bin, ev_cmp, ev_chain, ev_andE, ev_orE, ev_nt, ev_ife, ev_tup, ev_lst, ev_ix, ev_sl, ev_call, ev_callk, ev_own, ev_b1, ev_b2, ev_isi, ev_gin, ev_gix, ss_nil, ss_cons, ex_asg, ex_par, ex_ife, ex_ret, setTg_n, Es.ev, T.tst, I.ev, two_none, two_some, isRd, rdZ, vZ, List.getElem?_cons_zero, List.getElem?_cons_succ, R.bind_ok, ixF_fz, ixT, at0, at1, at2, ofD_some, liftO_some, nonBw_w, cmpT_fz, Z.dat_fz, Fl.of_ok, dc1, dc2, dc3, dc4, dca1, dca2, dca3, dca4, dcaO1, dcaO2, po1, po2, po3, po4, io_fz, wdat, tup0, tup1, tup2, tup3, tup4, lst0, lst1, lst3, intI, binF_fz, m1, hm, ofO_some, List.set_cons_succ, List.set_cons_zero, Fl.then_nx, ex_set, ixF_bw, addI, m2, hl, hset, if_true]
            · refine ⟨[some (.fz (scrD ns)), some (.fz (.int 2)), some (.own (.l [.d (.int u), .d (.int (v + z * ((i : Int) + 2)))])), some (.fz (.int i)), some (.fz (.int z)), some (.fz (.int 1))], ?_, _, _, _, _, _, rfl⟩
              have hset : ∀ x3 x4 x5, chg 2 [some (.fz (scrD ns)), some (.fz (.int 2)), some (.own (.l [.d (.int u), .d (.int v)])), x3, x4, x5] (setF (.int 1) (.fz (.int (v + z * ((i : Int) + 2))))) = .nx [some (.fz (scrD ns)), some (.fz (.int 2)), some (.own (.l [.d (.int u), .d (.int (v + z * ((i : Int) + 2)))])), x3, x4, x5] := fun _ _ _ => rfl
              have hl : ∀ x3 x4 x5, isL 2 [some (.fz (scrD ns)), some (.fz (.int 2)), some (.own (.l [.d (.int u), .d (.int v)])), x3, x4, x5] = true := fun _ _ _ => rfl
              simp only [hst, ev_v, ev_rd, ev_g, ev_k, ev_bin, ev_cmp, ev_chain, ev_andE, ev_orE, ev_nt, ev_ife, ev_tup, ev_lst, ev_ix, ev_sl, ev_call, ev_callk, ev_own, ev_b1, ev_b2, ev_isi, ev_gin, ev_gix, ss_nil, ss_cons, ex_asg, ex_par, ex_ife, ex_ret, setTg_n, Es.ev, T.tst, I.ev, two_none, two_some, isRd, rdZ, vZ, List.getElem?_cons_zero, List.getElem?_cons_succ, R.bind_ok, ixF_fz, ixT, at0, at1, at2, ofD_some, liftO_some, nonBw_w, cmpT_fz, Z.dat_fz, Fl.of_ok, dc1, dc2, dc3, dc4, dca1, dca2, dca3, dca4, dcaO1, dcaO2, po1, po2, po3, po4, io_fz, wdat, tup0, tup1, tup2, tup3, tup4, lst0, lst1, lst3, intI, binF_fz, m1, hm, ofO_some, List.set_cons_succ, List.set_cons_zero, Fl.then_nx, ex_set, ixF_bw, addI, m2, hl, hset, if_true])
      exact ⟨[u', v'], by simp, x3, x4, x5, e1⟩
  obtain ⟨x3, x4, x5, hend⟩ := hend
  refine ⟨ws, hws, ?_⟩
  have last : S.ex cf g fuel ceS2 [some (.fz (scrD ns)), some (.fz (.int 2)), some (.own (.l ((ws.map PyData.int).map .d))), x3, x4, x5] = .rt (.fz (.list (ws.map PyData.int))) [some (.fz (scrD ns)), some (.fz (.int 2)), some (.fz (.list (ws.map PyData.int))), x3, x4, x5] := by
    have f1 : O.frz (.l ((ws.map PyData.int).map .d)) = .list (ws.map PyData.int) := by show PyData.list (O.frzs _) = _; rw [frz_map]
    simp only [ceS2, ev_v, ev_rd, ev_g, ev_k, ev_bin, ev_cmp, ev_chain, ev_andE, ev_orE, ev_nt, ev_ife, ev_tup, ev_lst, ev_ix, ev_sl, ev_call, ev_callk, ev_own, ev_b1, ev_b2, ev_isi, ev_gin, ev_gix, ss_nil, ss_cons, ex_asg, ex_par, ex_ife, ex_ret, setTg_n, Es.ev, T.tst, I.ev, two_none, two_some, isRd, rdZ, vZ, List.getElem?_cons_zero, List.getElem?_cons_succ, R.bind_ok, ixF_fz, ixT, at0, at1, at2, ofD_some, liftO_some, nonBw_w, cmpT_fz, Z.dat_fz, Fl.of_ok, dc1, dc2, dc3, dc4, dca1, dca2, dca3, dca4, dcaO1, dcaO2, po1, po2, po3, po4, io_fz, wdat, tup0, tup1, tup2, tup3, tup4, lst0, lst1, lst3, f1, List.set_cons_succ, List.set_cons_zero]
  rw [ss_step hfor (ss_step hend (ss_rt last))]
  rfl
theorem right_top (m : Nat) (a b : Int) (hm : 150 ≤ m) : ∃ o', callN tab g fuel (m + 3) "_law_right" [.own (tinO a b 0)] = .ret (.fz (.bool true)) [o'] := by
  obtain ⟨o', ρ', e2⟩ := right_body m a b hm
  refine ⟨o', ?_⟩
  rw [eo__law_right]
  rw [e2]
  rfl
theorem rng_mem (k : Nat) (d : D) (h : d ∈ rngD 0 1 k) : ∃ i : Nat, i < k ∧ d = .int i := by
  unfold rngD at h
  obtain ⟨i, hi, rfl⟩ := List.mem_map.mp h
  have e : (0 : Int) + (i : Int) * 1 = (i : Int) := by omega
  exact ⟨i, List.mem_range.mp hi, congrArg PyData.int e⟩
theorem law_lc (cf : CF) (s : D) (xs : List Int) (hx : xs.length ≤ 2) (hR : ∀ k : Nat, k ≤ 2 → ∃ o o', cf "_law_box" [.fz (.list (xs.map .int)), .fz (.int k)] = .ret (.own o) [] ∧ cf "_law_right" [.own o] = .ret (.fz (.bool true)) [o']) :
    E.ev cf g (.lc [("k", 2)] (.n 2) (.rng1 (.b1 .len (.rd 1))) .yes (.call "_law_right" (.cons (.own (.call "_law_box" (.cons (.v 1) (.cons (.v 2) .nil)))) .nil))) [some (.fz s), some (.fz (.list (xs.map .int))), none] = .ok (.w (.own (.l ((List.replicate xs.length (.bool true)).map .d)))) [some (.fz s), some (.fz (.list (xs.map .int))), none] := by
  have hit : I.ev cf g (.rng1 (.b1 .len (.rd 1))) [some (.fz s), some (.fz (.list (xs.map .int))), none] = .ok (rngD 0 1 xs.length) [some (.fz s), some (.fz (.list (xs.map .int))), none] :=
    rng1_ev _ _ _ _ (.w (.fz (.int (xs.map PyData.int).length))) _ xs.length (by omega) rfl (by rw [List.length_map]; rfl)
  have hlen : (rngD 0 1 xs.length).length = xs.length := by simp [rngD]
  refine lc_map (ρ := [some (.fz s), some (.fz (.list (xs.map .int))), none]) hit (by rw [hlen]; omega) (fun d e hde => ?_) (by rw [hlen, List.length_map, List.length_replicate])
  have he : e = .d (.bool true) := by
    have h1 := (List.of_mem_zip hde).2
    obtain ⟨x, hx, rfl⟩ := List.mem_map.mp h1
    rw [List.eq_of_mem_replicate hx]
  obtain ⟨k, hk, rfl⟩ := rng_mem _ _ (List.of_mem_zip hde).1
  subst he
  obtain ⟨o, o', e1, e2⟩ := hR k (by omega)
  refine ⟨.fz (.bool true), ?_, rfl⟩
  have hr : ∀ ρ, doCall cf "_law_right" [.o (.own o)] ρ = .ok (.w (.fz (.bool true))) ρ := fun ρ => by
    rw [doCall_eq cf "_law_right" [.o (.own o)] ρ ρ [.own o] rfl rfl, e2]
    rfl
  have hes : ∀ (es : E) (ρ : Co.Env), Es.ev cf g (.cons (.own es) .nil) ρ = (es.ev cf g ρ).bind fun z ρ1 => (nonBw z ρ1).bind fun x ρ2 => R.ok [Arg.o x] ρ2 := fun _ _ => rfl
  simp only [ev_call, hes, ev_v, ev_rd, ev_g, ev_k, ev_bin, ev_cmp, ev_chain, ev_andE, ev_orE, ev_nt, ev_ife, ev_tup, ev_lst, ev_ix, ev_sl, ev_call, ev_callk, ev_own, ev_b1, ev_b2, ev_isi, ev_gin, ev_gix, ss_nil, ss_cons, ex_asg, ex_par, ex_ife, ex_ret, setTg_n, Es.ev, T.tst, I.ev, two_none, two_some, isRd, rdZ, vZ, List.getElem?_cons_zero, List.getElem?_cons_succ, R.bind_ok, ixF_fz, ixT, at0, at1, at2, ofD_some, liftO_some, nonBw_w, cmpT_fz, Z.dat_fz, Fl.of_ok, dc1, dc2, dc3, dc4, dca1, dca2, dca3, dca4, dcaO1, dcaO2, po1, po2, po3, po4, io_fz, wdat, tup0, tup1, tup2, tup3, tup4, lst0, lst1, lst3, List.set_cons_succ, List.set_cons_zero, e1, hr]
def laS0 : S := (.asg (.n 1) (.call "_law_cells" (.cons (.v 0) (.cons (.k (.int 2)) .nil))))
def laS1 : S := (.ret (.b1 .all (.lc [("k", 2)] (.n 2) (.rng1 (.b1 .len (.rd 1))) .yes (.call "_law_right" (.cons (.own (.call "_law_box" (.cons (.v 1) (.cons (.v 2) .nil)))) .nil)))))
theorem laS_body : d_law.body = .cons laS0 (.cons laS1 (.nil)) := rfl


theorem law_s0 (cf : CF) (s v : D) (hc : cf "_law_cells" [.fz s, .fz (.int 2)] = .ret (.fz v) []) : S.ex cf g fuel laS0 [some (.fz s), none, none] = .nx [some (.fz s), some (.fz v), none] := by
  simp only [laS0, ev_v, ev_rd, ev_g, ev_k, ev_bin, ev_cmp, ev_chain, ev_andE, ev_orE, ev_nt, ev_ife, ev_tup, ev_lst, ev_ix, ev_sl, ev_call, ev_callk, ev_own, ev_b1, ev_b2, ev_isi, ev_gin, ev_gix, ss_nil, ss_cons, ex_asg, ex_par, ex_ife, ex_ret, setTg_n, Es.ev, T.tst, I.ev, two_none, two_some, isRd, rdZ, vZ, List.getElem?_cons_zero, List.getElem?_cons_succ, R.bind_ok, ixF_fz, ixT, at0, at1, at2, ofD_some, liftO_some, nonBw_w, cmpT_fz, Z.dat_fz, Fl.of_ok, dc1, dc2, dc3, dc4, dca1, dca2, dca3, dca4, dcaO1, dcaO2, po1, po2, po3, po4, io_fz, wdat, tup0, tup1, tup2, tup3, tup4, lst0, lst1, lst3, hc, List.set_cons_succ, List.set_cons_zero]
theorem law_s1 (cf : CF) (s : D) (xs : List Int) (hx : xs.length ≤ 2) (hR : ∀ k : Nat, k ≤ 2 → ∃ o o', cf "_law_box" [.fz (.list (xs.map .int)), .fz (.int k)] = .ret (.own o) [] ∧ cf "_law_right" [.own o] = .ret (.fz (.bool true)) [o']) :
    S.ex cf g fuel laS1 [some (.fz s), some (.fz (.list (xs.map .int))), none] = .rt (.fz (.bool true)) [some (.fz s), some (.fz (.list (xs.map .int))), none] := by
  have hlc := law_lc cf s xs hx hR
  unfold laS1
  rw [ex_ret, ev_b1, hlc, R.bind_ok, b1_all]
  rfl
theorem law_cf (cf : CF) (s : D) (xs : List Int) (hx : xs.length ≤ 2) (hc : cf "_law_cells" [.fz s, .fz (.int 2)] = .ret (.fz (.list (xs.map .int))) []) (hR : ∀ k : Nat, k ≤ 2 → ∃ o o', cf "_law_box" [.fz (.list (xs.map .int)), .fz (.int k)] = .ret (.own o) [] ∧ cf "_law_right" [.own o] = .ret (.fz (.bool true)) [o']) :
    finish [] (d_law.body.ex cf g fuel [some (.fz s), none, none]) = .ret (.fz (.bool true)) [] := by
  rw [laS_body, ss_step (law_s0 cf s _ hc) (ss_rt (law_s1 cf s xs hx hR))]
  rfl
theorem law_gen (m : Nat) (hm : 150 ≤ m) (ns : List Int) (hn : ns.length ≤ 63) : callN tab g fuel (m + 4) "law" [.fz (scrD ns)] = .ret (.fz (.bool true)) [] := by
  obtain ⟨xs, hx, hc⟩ := cells_ok (n := m + 3) ns hn (by omega)
  refine (e_law (m + 3) (scrD ns)).trans (law_cf _ _ xs hx hc fun k hk => ?_)
  obtain ⟨a, b, e1⟩ := box_ok (n := m + 3) xs k (by omega) (by omega)
  obtain ⟨o', e2⟩ := right_top m a b hm
  exact ⟨_, o', e1, e2⟩
theorem law_true (ns : List Int) (hn : ns.length ≤ 63) : callN tab g fuel 200 d_law.name [.fz (scrD ns)] = .ret (.fz (.bool true)) [] := law_gen 196 (by omega) ns hn
end K04

namespace Co
open PySem PySem.Spec PyProof.Rows L2
abbrev FnTOf {K : PySem.W.Frag} {h : Heap} (_ : K.In h) (mg : Str → Option Value) (d : Fn) (fs ds : List Str) (kc : KC) := FnT K mg d fs ds kc
abbrev MdOf {K : PySem.W.Frag} {h : Heap} (_ : K.In h) (w : World) (mg : Str → Option Value) (g : G) (ds : List Str) := Md K w mg g ds
end Co
namespace K04
open PySem PySem.Spec PyProof.Rows L2 Co
theorem b_is_number (kV doc pm : Value) (an : Option Addr) (cdv ct : Value) (us : List Value) (hl : us.length = d_is_number.ps.length) : bindArgs (PySem.W.fnOf "is_number" "is_number" (defArgs s_is_number) (defBody s_is_number) (defScope s_is_number) .none kV doc pm an cdv ct) ⟨us, []⟩ = pure (d_is_number.ps.zip us) := match us, hl with | [_], _ => rfl
theorem k_is_number (kV dc pm : Value) (an : Option Addr) (cd ct : Value) : ∀ ks perm, kc.contains ("is_number", ks, perm) = true → ∀ ws : List Value, ws.length = ks.length → bindArgs (PySem.W.fnOf "is_number" "is_number" (defArgs s_is_number) (defBody s_is_number) (defScope s_is_number) .none kV dc pm an cd ct) ⟨[], ks.zip ws⟩ = pure (d_is_number.ps.zip (permL perm ws)) := by
  intro ks perm h ws hl
  exact absurd h (by simp [kc])
theorem b_is_among (kV doc pm : Value) (an : Option Addr) (cdv ct : Value) (us : List Value) (hl : us.length = d_is_among.ps.length) : bindArgs (PySem.W.fnOf "is_among" "is_among" (defArgs s_is_among) (defBody s_is_among) (defScope s_is_among) .none kV doc pm an cdv ct) ⟨us, []⟩ = pure (d_is_among.ps.zip us) := match us, hl with | [_, _, _], _ => rfl
theorem k_is_among (kV dc pm : Value) (an : Option Addr) (cd ct : Value) : ∀ ks perm, kc.contains ("is_among", ks, perm) = true → ∀ ws : List Value, ws.length = ks.length → bindArgs (PySem.W.fnOf "is_among" "is_among" (defArgs s_is_among) (defBody s_is_among) (defScope s_is_among) .none kV dc pm an cd ct) ⟨[], ks.zip ws⟩ = pure (d_is_among.ps.zip (permL perm ws)) := by
  intro ks perm h ws hl
  exact absurd h (by simp [kc])
theorem b_is_from (kV doc pm : Value) (an : Option Addr) (cdv ct : Value) (us : List Value) (hl : us.length = d_is_from.ps.length) : bindArgs (PySem.W.fnOf "is_from" "is_from" (defArgs s_is_from) (defBody s_is_from) (defScope s_is_from) .none kV doc pm an cdv ct) ⟨us, []⟩ = pure (d_is_from.ps.zip us) := match us, hl with | [_, _], _ => rfl
theorem k_is_from (kV dc pm : Value) (an : Option Addr) (cd ct : Value) : ∀ ks perm, kc.contains ("is_from", ks, perm) = true → ∀ ws : List Value, ws.length = ks.length → bindArgs (PySem.W.fnOf "is_from" "is_from" (defArgs s_is_from) (defBody s_is_from) (defScope s_is_from) .none kV dc pm an cd ct) ⟨[], ks.zip ws⟩ = pure (d_is_from.ps.zip (permL perm ws)) := by
  intro ks perm h ws hl
  exact absurd h (by simp [kc])
theorem b_are_among (kV doc pm : Value) (an : Option Addr) (cdv ct : Value) (us : List Value) (hl : us.length = d_are_among.ps.length) : bindArgs (PySem.W.fnOf "are_among" "are_among" (defArgs s_are_among) (defBody s_are_among) (defScope s_are_among) .none kV doc pm an cdv ct) ⟨us, []⟩ = pure (d_are_among.ps.zip us) := match us, hl with | [_, _, _], _ => rfl
theorem k_are_among (kV dc pm : Value) (an : Option Addr) (cd ct : Value) : ∀ ks perm, kc.contains ("are_among", ks, perm) = true → ∀ ws : List Value, ws.length = ks.length → bindArgs (PySem.W.fnOf "are_among" "are_among" (defArgs s_are_among) (defBody s_are_among) (defScope s_are_among) .none kV dc pm an cd ct) ⟨[], ks.zip ws⟩ = pure (d_are_among.ps.zip (permL perm ws)) := by
  intro ks perm h ws hl
  exact absurd h (by simp [kc])
theorem b_tupled (kV doc pm : Value) (an : Option Addr) (cdv ct : Value) (us : List Value) (hl : us.length = d_tupled.ps.length) : bindArgs (PySem.W.fnOf "tupled" "tupled" (defArgs s_tupled) (defBody s_tupled) (defScope s_tupled) .none kV doc pm an cdv ct) ⟨us, []⟩ = pure (d_tupled.ps.zip us) := match us, hl with | [_], _ => rfl
theorem k_tupled (kV dc pm : Value) (an : Option Addr) (cd ct : Value) : ∀ ks perm, kc.contains ("tupled", ks, perm) = true → ∀ ws : List Value, ws.length = ks.length → bindArgs (PySem.W.fnOf "tupled" "tupled" (defArgs s_tupled) (defBody s_tupled) (defScope s_tupled) .none kV dc pm an cd ct) ⟨[], ks.zip ws⟩ = pure (d_tupled.ps.zip (permL perm ws)) := by
  intro ks perm h ws hl
  exact absurd h (by simp [kc])
theorem b_children (kV doc pm : Value) (an : Option Addr) (cdv ct : Value) (us : List Value) (hl : us.length = d_children.ps.length) : bindArgs (PySem.W.fnOf "children" "children" (defArgs s_children) (defBody s_children) (defScope s_children) .none kV doc pm an cdv ct) ⟨us, []⟩ = pure (d_children.ps.zip us) := match us, hl with | [_], _ => rfl
theorem k_children (kV dc pm : Value) (an : Option Addr) (cd ct : Value) : ∀ ks perm, kc.contains ("children", ks, perm) = true → ∀ ws : List Value, ws.length = ks.length → bindArgs (PySem.W.fnOf "children" "children" (defArgs s_children) (defBody s_children) (defScope s_children) .none kV dc pm an cd ct) ⟨[], ks.zip ws⟩ = pure (d_children.ps.zip (permL perm ws)) := by
  intro ks perm h ws hl
  exact absurd h (by simp [kc])
theorem b_is_term_in (kV doc pm : Value) (an : Option Addr) (cdv ct : Value) (us : List Value) (hl : us.length = d_is_term_in.ps.length) : bindArgs (PySem.W.fnOf "is_term_in" "is_term_in" (defArgs s_is_term_in) (defBody s_is_term_in) (defScope s_is_term_in) .none kV doc pm an cdv ct) ⟨us, []⟩ = pure (d_is_term_in.ps.zip us) := match us, hl with | [_], _ => rfl
theorem k_is_term_in (kV dc pm : Value) (an : Option Addr) (cd ct : Value) : ∀ ks perm, kc.contains ("is_term_in", ks, perm) = true → ∀ ws : List Value, ws.length = ks.length → bindArgs (PySem.W.fnOf "is_term_in" "is_term_in" (defArgs s_is_term_in) (defBody s_is_term_in) (defScope s_is_term_in) .none kV dc pm an cd ct) ⟨[], ks.zip ws⟩ = pure (d_is_term_in.ps.zip (permL perm ws)) := by
  intro ks perm h ws hl
  exact absurd h (by simp [kc])
theorem b_sure_term (kV doc pm : Value) (an : Option Addr) (cdv ct : Value) (us : List Value) (hl : us.length = d_sure_term.ps.length) : bindArgs (PySem.W.fnOf "sure_term" "sure_term" (defArgs s_sure_term) (defBody s_sure_term) (defScope s_sure_term) .none kV doc pm an cdv ct) ⟨us, []⟩ = pure (d_sure_term.ps.zip us) := match us, hl with | [_], _ => rfl
theorem k_sure_term (kV dc pm : Value) (an : Option Addr) (cd ct : Value) : ∀ ks perm, kc.contains ("sure_term", ks, perm) = true → ∀ ws : List Value, ws.length = ks.length → bindArgs (PySem.W.fnOf "sure_term" "sure_term" (defArgs s_sure_term) (defBody s_sure_term) (defScope s_sure_term) .none kV dc pm an cd ct) ⟨[], ks.zip ws⟩ = pure (d_sure_term.ps.zip (permL perm ws)) := by
  intro ks perm h ws hl
  exact absurd h (by simp [kc])
theorem b_places_in (kV doc pm : Value) (an : Option Addr) (cdv ct : Value) (us : List Value) (hl : us.length = d_places_in.ps.length) : bindArgs (PySem.W.fnOf "places_in" "places_in" (defArgs s_places_in) (defBody s_places_in) (defScope s_places_in) .none kV doc pm an cdv ct) ⟨us, []⟩ = pure (d_places_in.ps.zip us) := match us, hl with | [_], _ => rfl
theorem k_places_in (kV dc pm : Value) (an : Option Addr) (cd ct : Value) : ∀ ks perm, kc.contains ("places_in", ks, perm) = true → ∀ ws : List Value, ws.length = ks.length → bindArgs (PySem.W.fnOf "places_in" "places_in" (defArgs s_places_in) (defBody s_places_in) (defScope s_places_in) .none kV dc pm an cd ct) ⟨[], ks.zip ws⟩ = pure (d_places_in.ps.zip (permL perm ws)) := by
  intro ks perm h ws hl
  exact absurd h (by simp [kc])
theorem b_is_place_in (kV doc pm : Value) (an : Option Addr) (cdv ct : Value) (us : List Value) (hl : us.length = d_is_place_in.ps.length) : bindArgs (PySem.W.fnOf "is_place_in" "is_place_in" (defArgs s_is_place_in) (defBody s_is_place_in) (defScope s_is_place_in) .none kV doc pm an cdv ct) ⟨us, []⟩ = pure (d_is_place_in.ps.zip us) := match us, hl with | [_, _], _ => rfl
theorem k_is_place_in (kV dc pm : Value) (an : Option Addr) (cd ct : Value) : ∀ ks perm, kc.contains ("is_place_in", ks, perm) = true → ∀ ws : List Value, ws.length = ks.length → bindArgs (PySem.W.fnOf "is_place_in" "is_place_in" (defArgs s_is_place_in) (defBody s_is_place_in) (defScope s_is_place_in) .none kV dc pm an cd ct) ⟨[], ks.zip ws⟩ = pure (d_is_place_in.ps.zip (permL perm ws)) := by
  intro ks perm h ws hl
  exact absurd h (by simp [kc])
theorem b_part_in (kV doc pm : Value) (an : Option Addr) (cdv ct : Value) (us : List Value) (hl : us.length = d_part_in.ps.length) : bindArgs (PySem.W.fnOf "part_in" "part_in" (defArgs s_part_in) (defBody s_part_in) (defScope s_part_in) .none kV doc pm an cdv ct) ⟨us, []⟩ = pure (d_part_in.ps.zip us) := match us, hl with | [_, _], _ => rfl
theorem k_part_in (kV dc pm : Value) (an : Option Addr) (cd ct : Value) : ∀ ks perm, kc.contains ("part_in", ks, perm) = true → ∀ ws : List Value, ws.length = ks.length → bindArgs (PySem.W.fnOf "part_in" "part_in" (defArgs s_part_in) (defBody s_part_in) (defScope s_part_in) .none kV dc pm an cd ct) ⟨[], ks.zip ws⟩ = pure (d_part_in.ps.zip (permL perm ws)) := by
  intro ks perm h ws hl
  exact absurd h (by simp [kc])
theorem b_put_in (kV doc pm : Value) (an : Option Addr) (cdv ct : Value) (us : List Value) (hl : us.length = d_put_in.ps.length) : bindArgs (PySem.W.fnOf "put_in" "put_in" (defArgs s_put_in) (defBody s_put_in) (defScope s_put_in) .none kV doc pm an cdv ct) ⟨us, []⟩ = pure (d_put_in.ps.zip us) := match us, hl with | [_, _, _], _ => rfl
theorem k_put_in (kV dc pm : Value) (an : Option Addr) (cd ct : Value) : ∀ ks perm, kc.contains ("put_in", ks, perm) = true → ∀ ws : List Value, ws.length = ks.length → bindArgs (PySem.W.fnOf "put_in" "put_in" (defArgs s_put_in) (defBody s_put_in) (defScope s_put_in) .none kV dc pm an cd ct) ⟨[], ks.zip ws⟩ = pure (d_put_in.ps.zip (permL perm ws)) := by
  intro ks perm h ws hl
  exact absurd h (by simp [kc])
theorem b_letters_in (kV doc pm : Value) (an : Option Addr) (cdv ct : Value) (us : List Value) (hl : us.length = d_letters_in.ps.length) : bindArgs (PySem.W.fnOf "letters_in" "letters_in" (defArgs s_letters_in) (defBody s_letters_in) (defScope s_letters_in) .none kV doc pm an cdv ct) ⟨us, []⟩ = pure (d_letters_in.ps.zip us) := match us, hl with | [_, _], _ => rfl
theorem k_letters_in (kV dc pm : Value) (an : Option Addr) (cd ct : Value) : ∀ ks perm, kc.contains ("letters_in", ks, perm) = true → ∀ ws : List Value, ws.length = ks.length → bindArgs (PySem.W.fnOf "letters_in" "letters_in" (defArgs s_letters_in) (defBody s_letters_in) (defScope s_letters_in) .none kV dc pm an cd ct) ⟨[], ks.zip ws⟩ = pure (d_letters_in.ps.zip (permL perm ws)) := by
  intro ks perm h ws hl
  exact absurd h (by simp [kc])
theorem b_sure_place (kV doc pm : Value) (an : Option Addr) (cdv ct : Value) (us : List Value) (hl : us.length = d_sure_place.ps.length) : bindArgs (PySem.W.fnOf "sure_place" "sure_place" (defArgs s_sure_place) (defBody s_sure_place) (defScope s_sure_place) .none kV doc pm an cdv ct) ⟨us, []⟩ = pure (d_sure_place.ps.zip us) := match us, hl with | [_, _], _ => rfl
theorem k_sure_place (kV dc pm : Value) (an : Option Addr) (cd ct : Value) : ∀ ks perm, kc.contains ("sure_place", ks, perm) = true → ∀ ws : List Value, ws.length = ks.length → bindArgs (PySem.W.fnOf "sure_place" "sure_place" (defArgs s_sure_place) (defBody s_sure_place) (defScope s_sure_place) .none kV dc pm an cd ct) ⟨[], ks.zip ws⟩ = pure (d_sure_place.ps.zip (permL perm ws)) := by
  intro ks perm h ws hl
  exact absurd h (by simp [kc])
theorem b_part_at (kV doc pm : Value) (an : Option Addr) (cdv ct : Value) (us : List Value) (hl : us.length = d_part_at.ps.length) : bindArgs (PySem.W.fnOf "part_at" "part_at" (defArgs s_part_at) (defBody s_part_at) (defScope s_part_at) .none kV doc pm an cdv ct) ⟨us, []⟩ = pure (d_part_at.ps.zip us) := match us, hl with | [_, _], _ => rfl
theorem k_part_at (kV dc pm : Value) (an : Option Addr) (cd ct : Value) : ∀ ks perm, kc.contains ("part_at", ks, perm) = true → ∀ ws : List Value, ws.length = ks.length → bindArgs (PySem.W.fnOf "part_at" "part_at" (defArgs s_part_at) (defBody s_part_at) (defScope s_part_at) .none kV dc pm an cd ct) ⟨[], ks.zip ws⟩ = pure (d_part_at.ps.zip (permL perm ws)) := by
  intro ks perm h ws hl
  exact absurd h (by simp [kc])
theorem b_free_letters (kV doc pm : Value) (an : Option Addr) (cdv ct : Value) (us : List Value) (hl : us.length = d_free_letters.ps.length) : bindArgs (PySem.W.fnOf "free_letters" "free_letters" (defArgs s_free_letters) (defBody s_free_letters) (defScope s_free_letters) .none kV doc pm an cdv ct) ⟨us, []⟩ = pure (d_free_letters.ps.zip us) := match us, hl with | [_], _ => rfl
theorem k_free_letters (kV dc pm : Value) (an : Option Addr) (cd ct : Value) : ∀ ks perm, kc.contains ("free_letters", ks, perm) = true → ∀ ws : List Value, ws.length = ks.length → bindArgs (PySem.W.fnOf "free_letters" "free_letters" (defArgs s_free_letters) (defBody s_free_letters) (defScope s_free_letters) .none kV dc pm an cd ct) ⟨[], ks.zip ws⟩ = pure (d_free_letters.ps.zip (permL perm ws)) := by
  intro ks perm h ws hl
  exact absurd h (by simp [kc])
theorem b_is_closed (kV doc pm : Value) (an : Option Addr) (cdv ct : Value) (us : List Value) (hl : us.length = d_is_closed.ps.length) : bindArgs (PySem.W.fnOf "is_closed" "is_closed" (defArgs s_is_closed) (defBody s_is_closed) (defScope s_is_closed) .none kV doc pm an cdv ct) ⟨us, []⟩ = pure (d_is_closed.ps.zip us) := match us, hl with | [_], _ => rfl
theorem k_is_closed (kV dc pm : Value) (an : Option Addr) (cd ct : Value) : ∀ ks perm, kc.contains ("is_closed", ks, perm) = true → ∀ ws : List Value, ws.length = ks.length → bindArgs (PySem.W.fnOf "is_closed" "is_closed" (defArgs s_is_closed) (defBody s_is_closed) (defScope s_is_closed) .none kV dc pm an cd ct) ⟨[], ks.zip ws⟩ = pure (d_is_closed.ps.zip (permL perm ws)) := by
  intro ks perm h ws hl
  exact absurd h (by simp [kc])
theorem b_raised_in (kV doc pm : Value) (an : Option Addr) (cdv ct : Value) (us : List Value) (hl : us.length = d_raised_in.ps.length) : bindArgs (PySem.W.fnOf "raised_in" "raised_in" (defArgs s_raised_in) (defBody s_raised_in) (defScope s_raised_in) .none kV doc pm an cdv ct) ⟨us, []⟩ = pure (d_raised_in.ps.zip us) := match us, hl with | [_, _, _], _ => rfl
theorem k_raised_in (kV dc pm : Value) (an : Option Addr) (cd ct : Value) : ∀ ks perm, kc.contains ("raised_in", ks, perm) = true → ∀ ws : List Value, ws.length = ks.length → bindArgs (PySem.W.fnOf "raised_in" "raised_in" (defArgs s_raised_in) (defBody s_raised_in) (defScope s_raised_in) .none kV dc pm an cd ct) ⟨[], ks.zip ws⟩ = pure (d_raised_in.ps.zip (permL perm ws)) := by
  intro ks perm h ws hl
  exact absurd h (by simp [kc])
theorem b_lets_at (kV doc pm : Value) (an : Option Addr) (cdv ct : Value) (us : List Value) (hl : us.length = d_lets_at.ps.length) : bindArgs (PySem.W.fnOf "lets_at" "lets_at" (defArgs s_lets_at) (defBody s_lets_at) (defScope s_lets_at) .none kV doc pm an cdv ct) ⟨us, []⟩ = pure (d_lets_at.ps.zip us) := match us, hl with | [_, _, _], _ => rfl
theorem k_lets_at (kV dc pm : Value) (an : Option Addr) (cd ct : Value) : ∀ ks perm, kc.contains ("lets_at", ks, perm) = true → ∀ ws : List Value, ws.length = ks.length → bindArgs (PySem.W.fnOf "lets_at" "lets_at" (defArgs s_lets_at) (defBody s_lets_at) (defScope s_lets_at) .none kV dc pm an cd ct) ⟨[], ks.zip ws⟩ = pure (d_lets_at.ps.zip (permL perm ws)) := by
  intro ks perm h ws hl
  exact absurd h (by simp [kc])
theorem b_funs_on (kV doc pm : Value) (an : Option Addr) (cdv ct : Value) (us : List Value) (hl : us.length = d_funs_on.ps.length) : bindArgs (PySem.W.fnOf "funs_on" "funs_on" (defArgs s_funs_on) (defBody s_funs_on) (defScope s_funs_on) .none kV doc pm an cdv ct) ⟨us, []⟩ = pure (d_funs_on.ps.zip us) := match us, hl with | [_, _], _ => rfl
theorem k_funs_on (kV dc pm : Value) (an : Option Addr) (cd ct : Value) : ∀ ks perm, kc.contains ("funs_on", ks, perm) = true → ∀ ws : List Value, ws.length = ks.length → bindArgs (PySem.W.fnOf "funs_on" "funs_on" (defArgs s_funs_on) (defBody s_funs_on) (defScope s_funs_on) .none kV dc pm an cd ct) ⟨[], ks.zip ws⟩ = pure (d_funs_on.ps.zip (permL perm ws)) := by
  intro ks perm h ws hl
  exact absurd h (by simp [kc])
theorem b_sure_count (kV doc pm : Value) (an : Option Addr) (cdv ct : Value) (us : List Value) (hl : us.length = d_sure_count.ps.length) : bindArgs (PySem.W.fnOf "sure_count" "sure_count" (defArgs s_sure_count) (defBody s_sure_count) (defScope s_sure_count) .none kV doc pm an cdv ct) ⟨us, []⟩ = pure (d_sure_count.ps.zip us) := match us, hl with | [_, _], _ => rfl
theorem k_sure_count (kV dc pm : Value) (an : Option Addr) (cd ct : Value) : ∀ ks perm, kc.contains ("sure_count", ks, perm) = true → ∀ ws : List Value, ws.length = ks.length → bindArgs (PySem.W.fnOf "sure_count" "sure_count" (defArgs s_sure_count) (defBody s_sure_count) (defScope s_sure_count) .none kV dc pm an cd ct) ⟨[], ks.zip ws⟩ = pure (d_sure_count.ps.zip (permL perm ws)) := by
  intro ks perm h ws hl
  exact absurd h (by simp [kc])
theorem b_sure_terms (kV doc pm : Value) (an : Option Addr) (cdv ct : Value) (us : List Value) (hl : us.length = d_sure_terms.ps.length) : bindArgs (PySem.W.fnOf "sure_terms" "sure_terms" (defArgs s_sure_terms) (defBody s_sure_terms) (defScope s_sure_terms) .none kV doc pm an cdv ct) ⟨us, []⟩ = pure (d_sure_terms.ps.zip us) := match us, hl with | [_], _ => rfl
theorem k_sure_terms (kV dc pm : Value) (an : Option Addr) (cd ct : Value) : ∀ ks perm, kc.contains ("sure_terms", ks, perm) = true → ∀ ws : List Value, ws.length = ks.length → bindArgs (PySem.W.fnOf "sure_terms" "sure_terms" (defArgs s_sure_terms) (defBody s_sure_terms) (defScope s_sure_terms) .none kV dc pm an cd ct) ⟨[], ks.zip ws⟩ = pure (d_sure_terms.ps.zip (permL perm ws)) := by
  intro ks perm h ws hl
  exact absurd h (by simp [kc])
theorem b_raised (kV doc pm : Value) (an : Option Addr) (cdv ct : Value) (us : List Value) (hl : us.length = d_raised.ps.length) : bindArgs (PySem.W.fnOf "raised" "raised" (defArgs s_raised) (defBody s_raised) (defScope s_raised) .none kV doc pm an cdv ct) ⟨us, []⟩ = pure (d_raised.ps.zip us) := match us, hl with | [_, _, _], _ => rfl
theorem k_raised (kV dc pm : Value) (an : Option Addr) (cd ct : Value) : ∀ ks perm, kc.contains ("raised", ks, perm) = true → ∀ ws : List Value, ws.length = ks.length → bindArgs (PySem.W.fnOf "raised" "raised" (defArgs s_raised) (defBody s_raised) (defScope s_raised) .none kV dc pm an cd ct) ⟨[], ks.zip ws⟩ = pure (d_raised.ps.zip (permL perm ws)) := by
  intro ks perm h ws hl
  exact absurd h (by simp [kc])
theorem b_let_in (kV doc pm : Value) (an : Option Addr) (cdv ct : Value) (us : List Value) (hl : us.length = d_let_in.ps.length) : bindArgs (PySem.W.fnOf "let_in" "let_in" (defArgs s_let_in) (defBody s_let_in) (defScope s_let_in) .none kV doc pm an cdv ct) ⟨us, []⟩ = pure (d_let_in.ps.zip us) := match us, hl with | [_, _], _ => rfl
theorem k_let_in (kV dc pm : Value) (an : Option Addr) (cd ct : Value) : ∀ ks perm, kc.contains ("let_in", ks, perm) = true → ∀ ws : List Value, ws.length = ks.length → bindArgs (PySem.W.fnOf "let_in" "let_in" (defArgs s_let_in) (defBody s_let_in) (defScope s_let_in) .none kV dc pm an cd ct) ⟨[], ks.zip ws⟩ = pure (d_let_in.ps.zip (permL perm ws)) := by
  intro ks perm h ws hl
  exact absurd h (by simp [kc])
theorem b_lets_in (kV doc pm : Value) (an : Option Addr) (cdv ct : Value) (us : List Value) (hl : us.length = d_lets_in.ps.length) : bindArgs (PySem.W.fnOf "lets_in" "lets_in" (defArgs s_lets_in) (defBody s_lets_in) (defScope s_lets_in) .none kV doc pm an cdv ct) ⟨us, []⟩ = pure (d_lets_in.ps.zip us) := match us, hl with | [_, _], _ => rfl
theorem k_lets_in (kV dc pm : Value) (an : Option Addr) (cd ct : Value) : ∀ ks perm, kc.contains ("lets_in", ks, perm) = true → ∀ ws : List Value, ws.length = ks.length → bindArgs (PySem.W.fnOf "lets_in" "lets_in" (defArgs s_lets_in) (defBody s_lets_in) (defScope s_lets_in) .none kV dc pm an cd ct) ⟨[], ks.zip ws⟩ = pure (d_lets_in.ps.zip (permL perm ws)) := by
  intro ks perm h ws hl
  exact absurd h (by simp [kc])
theorem b_closed_up (kV doc pm : Value) (an : Option Addr) (cdv ct : Value) (us : List Value) (hl : us.length = d_closed_up.ps.length) : bindArgs (PySem.W.fnOf "closed_up" "closed_up" (defArgs s_closed_up) (defBody s_closed_up) (defScope s_closed_up) .none kV doc pm an cdv ct) ⟨us, []⟩ = pure (d_closed_up.ps.zip us) := match us, hl with | [_], _ => rfl
theorem k_closed_up (kV dc pm : Value) (an : Option Addr) (cd ct : Value) : ∀ ks perm, kc.contains ("closed_up", ks, perm) = true → ∀ ws : List Value, ws.length = ks.length → bindArgs (PySem.W.fnOf "closed_up" "closed_up" (defArgs s_closed_up) (defBody s_closed_up) (defScope s_closed_up) .none kV dc pm an cd ct) ⟨[], ks.zip ws⟩ = pure (d_closed_up.ps.zip (permL perm ws)) := by
  intro ks perm h ws hl
  exact absurd h (by simp [kc])
theorem b_stepped (kV doc pm : Value) (an : Option Addr) (cdv ct : Value) (us : List Value) (hl : us.length = d_stepped.ps.length) : bindArgs (PySem.W.fnOf "stepped" "stepped" (defArgs s_stepped) (defBody s_stepped) (defScope s_stepped) .none kV doc pm an cdv ct) ⟨us, []⟩ = pure (d_stepped.ps.zip us) := match us, hl with | [_], _ => rfl
theorem k_stepped (kV dc pm : Value) (an : Option Addr) (cd ct : Value) : ∀ ks perm, kc.contains ("stepped", ks, perm) = true → ∀ ws : List Value, ws.length = ks.length → bindArgs (PySem.W.fnOf "stepped" "stepped" (defArgs s_stepped) (defBody s_stepped) (defScope s_stepped) .none kV dc pm an cd ct) ⟨[], ks.zip ws⟩ = pure (d_stepped.ps.zip (permL perm ws)) := by
  intro ks perm h ws hl
  exact absurd h (by simp [kc])
theorem b_spots_in (kV doc pm : Value) (an : Option Addr) (cdv ct : Value) (us : List Value) (hl : us.length = d_spots_in.ps.length) : bindArgs (PySem.W.fnOf "spots_in" "spots_in" (defArgs s_spots_in) (defBody s_spots_in) (defScope s_spots_in) .none kV doc pm an cdv ct) ⟨us, []⟩ = pure (d_spots_in.ps.zip us) := match us, hl with | [_], _ => rfl
theorem k_spots_in (kV dc pm : Value) (an : Option Addr) (cd ct : Value) : ∀ ks perm, kc.contains ("spots_in", ks, perm) = true → ∀ ws : List Value, ws.length = ks.length → bindArgs (PySem.W.fnOf "spots_in" "spots_in" (defArgs s_spots_in) (defBody s_spots_in) (defScope s_spots_in) .none kV dc pm an cd ct) ⟨[], ks.zip ws⟩ = pure (d_spots_in.ps.zip (permL perm ws)) := by
  intro ks perm h ws hl
  exact absurd h (by simp [kc])
theorem b_step_in (kV doc pm : Value) (an : Option Addr) (cdv ct : Value) (us : List Value) (hl : us.length = d_step_in.ps.length) : bindArgs (PySem.W.fnOf "step_in" "step_in" (defArgs s_step_in) (defBody s_step_in) (defScope s_step_in) .none kV doc pm an cdv ct) ⟨us, []⟩ = pure (d_step_in.ps.zip us) := match us, hl with | [_, _], _ => rfl
theorem k_step_in (kV dc pm : Value) (an : Option Addr) (cd ct : Value) : ∀ ks perm, kc.contains ("step_in", ks, perm) = true → ∀ ws : List Value, ws.length = ks.length → bindArgs (PySem.W.fnOf "step_in" "step_in" (defArgs s_step_in) (defBody s_step_in) (defScope s_step_in) .none kV dc pm an cd ct) ⟨[], ks.zip ws⟩ = pure (d_step_in.ps.zip (permL perm ws)) := by
  intro ks perm h ws hl
  exact absurd h (by simp [kc])
theorem b_step_places (kV doc pm : Value) (an : Option Addr) (cdv ct : Value) (us : List Value) (hl : us.length = d_step_places.ps.length) : bindArgs (PySem.W.fnOf "step_places" "step_places" (defArgs s_step_places) (defBody s_step_places) (defScope s_step_places) .none kV doc pm an cdv ct) ⟨us, []⟩ = pure (d_step_places.ps.zip us) := match us, hl with | [_], _ => rfl
theorem k_step_places (kV dc pm : Value) (an : Option Addr) (cd ct : Value) : ∀ ks perm, kc.contains ("step_places", ks, perm) = true → ∀ ws : List Value, ws.length = ks.length → bindArgs (PySem.W.fnOf "step_places" "step_places" (defArgs s_step_places) (defBody s_step_places) (defScope s_step_places) .none kV dc pm an cd ct) ⟨[], ks.zip ws⟩ = pure (d_step_places.ps.zip (permL perm ws)) := by
  intro ks perm h ws hl
  exact absurd h (by simp [kc])
theorem b_step_at (kV doc pm : Value) (an : Option Addr) (cdv ct : Value) (us : List Value) (hl : us.length = d_step_at.ps.length) : bindArgs (PySem.W.fnOf "step_at" "step_at" (defArgs s_step_at) (defBody s_step_at) (defScope s_step_at) .none kV doc pm an cdv ct) ⟨us, []⟩ = pure (d_step_at.ps.zip us) := match us, hl with | [_, _], _ => rfl
theorem k_step_at (kV dc pm : Value) (an : Option Addr) (cd ct : Value) : ∀ ks perm, kc.contains ("step_at", ks, perm) = true → ∀ ws : List Value, ws.length = ks.length → bindArgs (PySem.W.fnOf "step_at" "step_at" (defArgs s_step_at) (defBody s_step_at) (defScope s_step_at) .none kV dc pm an cd ct) ⟨[], ks.zip ws⟩ = pure (d_step_at.ps.zip (permL perm ws)) := by
  intro ks perm h ws hl
  exact absurd h (by simp [kc])
theorem b__law_box (kV doc pm : Value) (an : Option Addr) (cdv ct : Value) (us : List Value) (hl : us.length = d__law_box.ps.length) : bindArgs (PySem.W.fnOf "_law_box" "_law_box" (defArgs s__law_box) (defBody s__law_box) (defScope s__law_box) .none kV doc pm an cdv ct) ⟨us, []⟩ = pure (d__law_box.ps.zip us) := match us, hl with | [_, _], _ => rfl
theorem k__law_box (kV dc pm : Value) (an : Option Addr) (cd ct : Value) : ∀ ks perm, kc.contains ("_law_box", ks, perm) = true → ∀ ws : List Value, ws.length = ks.length → bindArgs (PySem.W.fnOf "_law_box" "_law_box" (defArgs s__law_box) (defBody s__law_box) (defScope s__law_box) .none kV dc pm an cd ct) ⟨[], ks.zip ws⟩ = pure (d__law_box.ps.zip (permL perm ws)) := by
  intro ks perm h ws hl
  exact absurd h (by simp [kc])
theorem b__law_take (kV doc pm : Value) (an : Option Addr) (cdv ct : Value) (us : List Value) (hl : us.length = d__law_take.ps.length) : bindArgs (PySem.W.fnOf "_law_take" "_law_take" (defArgs s__law_take) (defBody s__law_take) (defScope s__law_take) .none kV doc pm an cdv ct) ⟨us, []⟩ = pure (d__law_take.ps.zip us) := match us, hl with | [_, _], _ => rfl
theorem k__law_take (kV dc pm : Value) (an : Option Addr) (cd ct : Value) : ∀ ks perm, kc.contains ("_law_take", ks, perm) = true → ∀ ws : List Value, ws.length = ks.length → bindArgs (PySem.W.fnOf "_law_take" "_law_take" (defArgs s__law_take) (defBody s__law_take) (defScope s__law_take) .none kV dc pm an cd ct) ⟨[], ks.zip ws⟩ = pure (d__law_take.ps.zip (permL perm ws)) := by
  intro ks perm h ws hl
  exact absurd h (by simp [kc])
theorem b__law_cells (kV doc pm : Value) (an : Option Addr) (cdv ct : Value) (us : List Value) (hl : us.length = d__law_cells.ps.length) : bindArgs (PySem.W.fnOf "_law_cells" "_law_cells" (defArgs s__law_cells) (defBody s__law_cells) (defScope s__law_cells) .none kV doc pm an cdv ct) ⟨us, []⟩ = pure (d__law_cells.ps.zip us) := match us, hl with | [_, _], _ => rfl
theorem k__law_cells (kV dc pm : Value) (an : Option Addr) (cd ct : Value) : ∀ ks perm, kc.contains ("_law_cells", ks, perm) = true → ∀ ws : List Value, ws.length = ks.length → bindArgs (PySem.W.fnOf "_law_cells" "_law_cells" (defArgs s__law_cells) (defBody s__law_cells) (defScope s__law_cells) .none kV dc pm an cd ct) ⟨[], ks.zip ws⟩ = pure (d__law_cells.ps.zip (permL perm ws)) := by
  intro ks perm h ws hl
  exact absurd h (by simp [kc])
theorem b__law_same (kV doc pm : Value) (an : Option Addr) (cdv ct : Value) (us : List Value) (hl : us.length = d__law_same.ps.length) : bindArgs (PySem.W.fnOf "_law_same" "_law_same" (defArgs s__law_same) (defBody s__law_same) (defScope s__law_same) .none kV doc pm an cdv ct) ⟨us, []⟩ = pure (d__law_same.ps.zip us) := match us, hl with | [_, _], _ => rfl
theorem k__law_same (kV dc pm : Value) (an : Option Addr) (cd ct : Value) : ∀ ks perm, kc.contains ("_law_same", ks, perm) = true → ∀ ws : List Value, ws.length = ks.length → bindArgs (PySem.W.fnOf "_law_same" "_law_same" (defArgs s__law_same) (defBody s__law_same) (defScope s__law_same) .none kV dc pm an cd ct) ⟨[], ks.zip ws⟩ = pure (d__law_same.ps.zip (permL perm ws)) := by
  intro ks perm h ws hl
  exact absurd h (by simp [kc])
theorem b__law_set (kV doc pm : Value) (an : Option Addr) (cdv ct : Value) (us : List Value) (hl : us.length = d__law_set.ps.length) : bindArgs (PySem.W.fnOf "_law_set" "_law_set" (defArgs s__law_set) (defBody s__law_set) (defScope s__law_set) .none kV doc pm an cdv ct) ⟨us, []⟩ = pure (d__law_set.ps.zip us) := match us, hl with | [_], _ => rfl
theorem k__law_set (kV dc pm : Value) (an : Option Addr) (cd ct : Value) : ∀ ks perm, kc.contains ("_law_set", ks, perm) = true → ∀ ws : List Value, ws.length = ks.length → bindArgs (PySem.W.fnOf "_law_set" "_law_set" (defArgs s__law_set) (defBody s__law_set) (defScope s__law_set) .none kV dc pm an cd ct) ⟨[], ks.zip ws⟩ = pure (d__law_set.ps.zip (permL perm ws)) := by
  intro ks perm h ws hl
  exact absurd h (by simp [kc])
theorem b__law_kids (kV doc pm : Value) (an : Option Addr) (cdv ct : Value) (us : List Value) (hl : us.length = d__law_kids.ps.length) : bindArgs (PySem.W.fnOf "_law_kids" "_law_kids" (defArgs s__law_kids) (defBody s__law_kids) (defScope s__law_kids) .none kV doc pm an cdv ct) ⟨us, []⟩ = pure (d__law_kids.ps.zip us) := match us, hl with | [_], _ => rfl
theorem k__law_kids (kV dc pm : Value) (an : Option Addr) (cd ct : Value) : ∀ ks perm, kc.contains ("_law_kids", ks, perm) = true → ∀ ws : List Value, ws.length = ks.length → bindArgs (PySem.W.fnOf "_law_kids" "_law_kids" (defArgs s__law_kids) (defBody s__law_kids) (defScope s__law_kids) .none kV dc pm an cd ct) ⟨[], ks.zip ws⟩ = pure (d__law_kids.ps.zip (permL perm ws)) := by
  intro ks perm h ws hl
  exact absurd h (by simp [kc])
theorem b__law_size (kV doc pm : Value) (an : Option Addr) (cdv ct : Value) (us : List Value) (hl : us.length = d__law_size.ps.length) : bindArgs (PySem.W.fnOf "_law_size" "_law_size" (defArgs s__law_size) (defBody s__law_size) (defScope s__law_size) .none kV doc pm an cdv ct) ⟨us, []⟩ = pure (d__law_size.ps.zip us) := match us, hl with | [_], _ => rfl
theorem k__law_size (kV dc pm : Value) (an : Option Addr) (cd ct : Value) : ∀ ks perm, kc.contains ("_law_size", ks, perm) = true → ∀ ws : List Value, ws.length = ks.length → bindArgs (PySem.W.fnOf "_law_size" "_law_size" (defArgs s__law_size) (defBody s__law_size) (defScope s__law_size) .none kV dc pm an cd ct) ⟨[], ks.zip ws⟩ = pure (d__law_size.ps.zip (permL perm ws)) := by
  intro ks perm h ws hl
  exact absurd h (by simp [kc])
theorem b__law_deep (kV doc pm : Value) (an : Option Addr) (cdv ct : Value) (us : List Value) (hl : us.length = d__law_deep.ps.length) : bindArgs (PySem.W.fnOf "_law_deep" "_law_deep" (defArgs s__law_deep) (defBody s__law_deep) (defScope s__law_deep) .none kV doc pm an cdv ct) ⟨us, []⟩ = pure (d__law_deep.ps.zip us) := match us, hl with | [_], _ => rfl
theorem k__law_deep (kV dc pm : Value) (an : Option Addr) (cd ct : Value) : ∀ ks perm, kc.contains ("_law_deep", ks, perm) = true → ∀ ws : List Value, ws.length = ks.length → bindArgs (PySem.W.fnOf "_law_deep" "_law_deep" (defArgs s__law_deep) (defBody s__law_deep) (defScope s__law_deep) .none kV dc pm an cd ct) ⟨[], ks.zip ws⟩ = pure (d__law_deep.ps.zip (permL perm ws)) := by
  intro ks perm h ws hl
  exact absurd h (by simp [kc])
theorem b__law_places (kV doc pm : Value) (an : Option Addr) (cdv ct : Value) (us : List Value) (hl : us.length = d__law_places.ps.length) : bindArgs (PySem.W.fnOf "_law_places" "_law_places" (defArgs s__law_places) (defBody s__law_places) (defScope s__law_places) .none kV doc pm an cdv ct) ⟨us, []⟩ = pure (d__law_places.ps.zip us) := match us, hl with | [_], _ => rfl
theorem k__law_places (kV dc pm : Value) (an : Option Addr) (cd ct : Value) : ∀ ks perm, kc.contains ("_law_places", ks, perm) = true → ∀ ws : List Value, ws.length = ks.length → bindArgs (PySem.W.fnOf "_law_places" "_law_places" (defArgs s__law_places) (defBody s__law_places) (defScope s__law_places) .none kV dc pm an cd ct) ⟨[], ks.zip ws⟩ = pure (d__law_places.ps.zip (permL perm ws)) := by
  intro ks perm h ws hl
  exact absurd h (by simp [kc])
theorem b__law_part (kV doc pm : Value) (an : Option Addr) (cdv ct : Value) (us : List Value) (hl : us.length = d__law_part.ps.length) : bindArgs (PySem.W.fnOf "_law_part" "_law_part" (defArgs s__law_part) (defBody s__law_part) (defScope s__law_part) .none kV doc pm an cdv ct) ⟨us, []⟩ = pure (d__law_part.ps.zip us) := match us, hl with | [_, _], _ => rfl
theorem k__law_part (kV dc pm : Value) (an : Option Addr) (cd ct : Value) : ∀ ks perm, kc.contains ("_law_part", ks, perm) = true → ∀ ws : List Value, ws.length = ks.length → bindArgs (PySem.W.fnOf "_law_part" "_law_part" (defArgs s__law_part) (defBody s__law_part) (defScope s__law_part) .none kV dc pm an cd ct) ⟨[], ks.zip ws⟩ = pure (d__law_part.ps.zip (permL perm ws)) := by
  intro ks perm h ws hl
  exact absurd h (by simp [kc])
theorem b__law_free (kV doc pm : Value) (an : Option Addr) (cdv ct : Value) (us : List Value) (hl : us.length = d__law_free.ps.length) : bindArgs (PySem.W.fnOf "_law_free" "_law_free" (defArgs s__law_free) (defBody s__law_free) (defScope s__law_free) .none kV doc pm an cdv ct) ⟨us, []⟩ = pure (d__law_free.ps.zip us) := match us, hl with | [_, _], _ => rfl
theorem k__law_free (kV dc pm : Value) (an : Option Addr) (cd ct : Value) : ∀ ks perm, kc.contains ("_law_free", ks, perm) = true → ∀ ws : List Value, ws.length = ks.length → bindArgs (PySem.W.fnOf "_law_free" "_law_free" (defArgs s__law_free) (defBody s__law_free) (defScope s__law_free) .none kV dc pm an cd ct) ⟨[], ks.zip ws⟩ = pure (d__law_free.ps.zip (permL perm ws)) := by
  intro ks perm h ws hl
  exact absurd h (by simp [kc])
theorem b__law_let (kV doc pm : Value) (an : Option Addr) (cdv ct : Value) (us : List Value) (hl : us.length = d__law_let.ps.length) : bindArgs (PySem.W.fnOf "_law_let" "_law_let" (defArgs s__law_let) (defBody s__law_let) (defScope s__law_let) .none kV doc pm an cdv ct) ⟨us, []⟩ = pure (d__law_let.ps.zip us) := match us, hl with | [_, _, _, _], _ => rfl
theorem k__law_let (kV dc pm : Value) (an : Option Addr) (cd ct : Value) : ∀ ks perm, kc.contains ("_law_let", ks, perm) = true → ∀ ws : List Value, ws.length = ks.length → bindArgs (PySem.W.fnOf "_law_let" "_law_let" (defArgs s__law_let) (defBody s__law_let) (defScope s__law_let) .none kV dc pm an cd ct) ⟨[], ks.zip ws⟩ = pure (d__law_let.ps.zip (permL perm ws)) := by
  intro ks perm h ws hl
  exact absurd h (by simp [kc])
theorem b__law_any (kV doc pm : Value) (an : Option Addr) (cdv ct : Value) (us : List Value) (hl : us.length = d__law_any.ps.length) : bindArgs (PySem.W.fnOf "_law_any" "_law_any" (defArgs s__law_any) (defBody s__law_any) (defScope s__law_any) .none kV doc pm an cdv ct) ⟨us, []⟩ = pure (d__law_any.ps.zip us) := match us, hl with | [_, _, _], _ => rfl
theorem k__law_any (kV dc pm : Value) (an : Option Addr) (cd ct : Value) : ∀ ks perm, kc.contains ("_law_any", ks, perm) = true → ∀ ws : List Value, ws.length = ks.length → bindArgs (PySem.W.fnOf "_law_any" "_law_any" (defArgs s__law_any) (defBody s__law_any) (defScope s__law_any) .none kV dc pm an cd ct) ⟨[], ks.zip ws⟩ = pure (d__law_any.ps.zip (permL perm ws)) := by
  intro ks perm h ws hl
  exact absurd h (by simp [kc])
theorem b__law_drawn (kV doc pm : Value) (an : Option Addr) (cdv ct : Value) (us : List Value) (hl : us.length = d__law_drawn.ps.length) : bindArgs (PySem.W.fnOf "_law_drawn" "_law_drawn" (defArgs s__law_drawn) (defBody s__law_drawn) (defScope s__law_drawn) .none kV doc pm an cdv ct) ⟨us, []⟩ = pure (d__law_drawn.ps.zip us) := match us, hl with | [_, _, _], _ => rfl
theorem k__law_drawn (kV dc pm : Value) (an : Option Addr) (cd ct : Value) : ∀ ks perm, kc.contains ("_law_drawn", ks, perm) = true → ∀ ws : List Value, ws.length = ks.length → bindArgs (PySem.W.fnOf "_law_drawn" "_law_drawn" (defArgs s__law_drawn) (defBody s__law_drawn) (defScope s__law_drawn) .none kV dc pm an cd ct) ⟨[], ks.zip ws⟩ = pure (d__law_drawn.ps.zip (permL perm ws)) := by
  intro ks perm h ws hl
  exact absurd h (by simp [kc])
theorem b__law_right (kV doc pm : Value) (an : Option Addr) (cdv ct : Value) (us : List Value) (hl : us.length = d__law_right.ps.length) : bindArgs (PySem.W.fnOf "_law_right" "_law_right" (defArgs s__law_right) (defBody s__law_right) (defScope s__law_right) .none kV doc pm an cdv ct) ⟨us, []⟩ = pure (d__law_right.ps.zip us) := match us, hl with | [_], _ => rfl
theorem k__law_right (kV dc pm : Value) (an : Option Addr) (cd ct : Value) : ∀ ks perm, kc.contains ("_law_right", ks, perm) = true → ∀ ws : List Value, ws.length = ks.length → bindArgs (PySem.W.fnOf "_law_right" "_law_right" (defArgs s__law_right) (defBody s__law_right) (defScope s__law_right) .none kV dc pm an cd ct) ⟨[], ks.zip ws⟩ = pure (d__law_right.ps.zip (permL perm ws)) := by
  intro ks perm h ws hl
  exact absurd h (by simp [kc])
theorem b_law (kV doc pm : Value) (an : Option Addr) (cdv ct : Value) (us : List Value) (hl : us.length = d_law.ps.length) : bindArgs (PySem.W.fnOf "law" "law" (defArgs s_law) (defBody s_law) (defScope s_law) .none kV doc pm an cdv ct) ⟨us, []⟩ = pure (d_law.ps.zip us) := match us, hl with | [_], _ => rfl
theorem k_law (kV dc pm : Value) (an : Option Addr) (cd ct : Value) : ∀ ks perm, kc.contains ("law", ks, perm) = true → ∀ ws : List Value, ws.length = ks.length → bindArgs (PySem.W.fnOf "law" "law" (defArgs s_law) (defBody s_law) (defScope s_law) .none kV dc pm an cd ct) ⟨[], ks.zip ws⟩ = pure (d_law.ps.zip (permL perm ws)) := by
  intro ks perm h ws hl
  exact absurd h (by simp [kc])
end K04
open PySem PySem.W PyProof.Rows
set_option maxHeartbeats 0 in
theorem PySem.Challenge.cw_tiedterms_k04_main_put_in_one_behind_the_holds : PySem.Challenge.rw_tiedterms_k04_main_put_in_one_behind_the.Holds := by
  w_on; o_law; k_head; (case hw => w_witness2)
  k_fill
  refine L2.walk_of (l := PySem.Challenge.rw_tiedterms_k04_main_put_in_one_behind_the) (n := 63) (k := 200) (x := "script") (CX := fun w => L2.CX PySem.Challenge.rw_tiedterms_k04_main_put_in_one_behind_the.prog w) (sp := fun w => Co.spLaw _) rfl (by decide) rfl ⟨rfl, by decide, by decide⟩ (fun w h Y => PySem.W.kIn_of Y) ?F (fun _ _ a ns hl _ hS => ⟨a, ns, rfl, hS, hl, fun _ _ h => h⟩) (fun w H s e s' h => ?hcx)
  case hcx =>
    obtain ⟨_, _, _, _, _, _, _, _, _, _, _, _, z⟩ := h
    exact z
  case F =>
    intro w mg fa h KX G hmg
    have T_is_number : Co.FnTOf KX mg K04.d_is_number K04.fs K04.ds K04.kc := by
      refine' Co.mkT KX G (d := K04.d_is_number) (nm := "is_number") rfl (st := K04.s_is_number) ?a ?l ?c ?k K04.b_is_number K04.sc_is_number K04.c_is_number (by decide) (by decide) K04.k_is_number
      (case a => k_is); (case l => k_is); (case c => k_is); (case k => k_is)
    have T_is_among : Co.FnTOf KX mg K04.d_is_among K04.fs K04.ds K04.kc := by
      refine' Co.mkT KX G (d := K04.d_is_among) (nm := "is_among") rfl (st := K04.s_is_among) ?a ?l ?c ?k K04.b_is_among K04.sc_is_among K04.c_is_among (by decide) (by decide) K04.k_is_among
      (case a => k_is); (case l => k_is); (case c => k_is); (case k => k_is)
    have T_is_from : Co.FnTOf KX mg K04.d_is_from K04.fs K04.ds K04.kc := by
      refine' Co.mkT KX G (d := K04.d_is_from) (nm := "is_from") rfl (st := K04.s_is_from) ?a ?l ?c ?k K04.b_is_from K04.sc_is_from K04.c_is_from (by decide) (by decide) K04.k_is_from
      (case a => k_is); (case l => k_is); (case c => k_is); (case k => k_is)
    have T_are_among : Co.FnTOf KX mg K04.d_are_among K04.fs K04.ds K04.kc := by
      refine' Co.mkT KX G (d := K04.d_are_among) (nm := "are_among") rfl (st := K04.s_are_among) ?a ?l ?c ?k K04.b_are_among K04.sc_are_among K04.c_are_among (by decide) (by decide) K04.k_are_among
      (case a => k_is); (case l => k_is); (case c => k_is); (case k => k_is)
    have T_tupled : Co.FnTOf KX mg K04.d_tupled K04.fs K04.ds K04.kc := by
      refine' Co.mkT KX G (d := K04.d_tupled) (nm := "tupled") rfl (st := K04.s_tupled) ?a ?l ?c ?k K04.b_tupled K04.sc_tupled K04.c_tupled (by decide) (by decide) K04.k_tupled
      (case a => k_is); (case l => k_is); (case c => k_is); (case k => k_is)
    have T_children : Co.FnTOf KX mg K04.d_children K04.fs K04.ds K04.kc := by
      refine' Co.mkT KX G (d := K04.d_children) (nm := "children") rfl (st := K04.s_children) ?a ?l ?c ?k K04.b_children K04.sc_children K04.c_children (by decide) (by decide) K04.k_children
      (case a => k_is); (case l => k_is); (case c => k_is); (case k => k_is)
    have T_is_term_in : Co.FnTOf KX mg K04.d_is_term_in K04.fs K04.ds K04.kc := by
      refine' Co.mkT KX G (d := K04.d_is_term_in) (nm := "is_term_in") rfl (st := K04.s_is_term_in) ?a ?l ?c ?k K04.b_is_term_in K04.sc_is_term_in K04.c_is_term_in (by decide) (by decide) K04.k_is_term_in
      (case a => k_is); (case l => k_is); (case c => k_is); (case k => k_is)
    have T_sure_term : Co.FnTOf KX mg K04.d_sure_term K04.fs K04.ds K04.kc := by
      refine' Co.mkT KX G (d := K04.d_sure_term) (nm := "sure_term") rfl (st := K04.s_sure_term) ?a ?l ?c ?k K04.b_sure_term K04.sc_sure_term K04.c_sure_term (by decide) (by decide) K04.k_sure_term
      (case a => k_is); (case l => k_is); (case c => k_is); (case k => k_is)
    have T_places_in : Co.FnTOf KX mg K04.d_places_in K04.fs K04.ds K04.kc := by
      refine' Co.mkT KX G (d := K04.d_places_in) (nm := "places_in") rfl (st := K04.s_places_in) ?a ?l ?c ?k K04.b_places_in K04.sc_places_in K04.c_places_in (by decide) (by decide) K04.k_places_in
      (case a => k_is); (case l => k_is); (case c => k_is); (case k => k_is)
    have T_is_place_in : Co.FnTOf KX mg K04.d_is_place_in K04.fs K04.ds K04.kc := by
      refine' Co.mkT KX G (d := K04.d_is_place_in) (nm := "is_place_in") rfl (st := K04.s_is_place_in) ?a ?l ?c ?k K04.b_is_place_in K04.sc_is_place_in K04.c_is_place_in (by decide) (by decide) K04.k_is_place_in
      (case a => k_is); (case l => k_is); (case c => k_is); (case k => k_is)
    have T_part_in : Co.FnTOf KX mg K04.d_part_in K04.fs K04.ds K04.kc := by
      refine' Co.mkT KX G (d := K04.d_part_in) (nm := "part_in") rfl (st := K04.s_part_in) ?a ?l ?c ?k K04.b_part_in K04.sc_part_in K04.c_part_in (by decide) (by decide) K04.k_part_in
      (case a => k_is); (case l => k_is); (case c => k_is); (case k => k_is)
    have T_put_in : Co.FnTOf KX mg K04.d_put_in K04.fs K04.ds K04.kc := by
      refine' Co.mkT KX G (d := K04.d_put_in) (nm := "put_in") rfl (st := K04.s_put_in) ?a ?l ?c ?k K04.b_put_in K04.sc_put_in K04.c_put_in (by decide) (by decide) K04.k_put_in
      (case a => k_is); (case l => k_is); (case c => k_is); (case k => k_is)
    have T_letters_in : Co.FnTOf KX mg K04.d_letters_in K04.fs K04.ds K04.kc := by
      refine' Co.mkT KX G (d := K04.d_letters_in) (nm := "letters_in") rfl (st := K04.s_letters_in) ?a ?l ?c ?k K04.b_letters_in K04.sc_letters_in K04.c_letters_in (by decide) (by decide) K04.k_letters_in
      (case a => k_is); (case l => k_is); (case c => k_is); (case k => k_is)
    have T_sure_place : Co.FnTOf KX mg K04.d_sure_place K04.fs K04.ds K04.kc := by
      refine' Co.mkT KX G (d := K04.d_sure_place) (nm := "sure_place") rfl (st := K04.s_sure_place) ?a ?l ?c ?k K04.b_sure_place K04.sc_sure_place K04.c_sure_place (by decide) (by decide) K04.k_sure_place
      (case a => k_is); (case l => k_is); (case c => k_is); (case k => k_is)
    have T_part_at : Co.FnTOf KX mg K04.d_part_at K04.fs K04.ds K04.kc := by
      refine' Co.mkT KX G (d := K04.d_part_at) (nm := "part_at") rfl (st := K04.s_part_at) ?a ?l ?c ?k K04.b_part_at K04.sc_part_at K04.c_part_at (by decide) (by decide) K04.k_part_at
      (case a => k_is); (case l => k_is); (case c => k_is); (case k => k_is)
    have T_free_letters : Co.FnTOf KX mg K04.d_free_letters K04.fs K04.ds K04.kc := by
      refine' Co.mkT KX G (d := K04.d_free_letters) (nm := "free_letters") rfl (st := K04.s_free_letters) ?a ?l ?c ?k K04.b_free_letters K04.sc_free_letters K04.c_free_letters (by decide) (by decide) K04.k_free_letters
      (case a => k_is); (case l => k_is); (case c => k_is); (case k => k_is)
    have T_is_closed : Co.FnTOf KX mg K04.d_is_closed K04.fs K04.ds K04.kc := by
      refine' Co.mkT KX G (d := K04.d_is_closed) (nm := "is_closed") rfl (st := K04.s_is_closed) ?a ?l ?c ?k K04.b_is_closed K04.sc_is_closed K04.c_is_closed (by decide) (by decide) K04.k_is_closed
      (case a => k_is); (case l => k_is); (case c => k_is); (case k => k_is)
    have T_raised_in : Co.FnTOf KX mg K04.d_raised_in K04.fs K04.ds K04.kc := by
      refine' Co.mkT KX G (d := K04.d_raised_in) (nm := "raised_in") rfl (st := K04.s_raised_in) ?a ?l ?c ?k K04.b_raised_in K04.sc_raised_in K04.c_raised_in (by decide) (by decide) K04.k_raised_in
      (case a => k_is); (case l => k_is); (case c => k_is); (case k => k_is)
    have T_lets_at : Co.FnTOf KX mg K04.d_lets_at K04.fs K04.ds K04.kc := by
      refine' Co.mkT KX G (d := K04.d_lets_at) (nm := "lets_at") rfl (st := K04.s_lets_at) ?a ?l ?c ?k K04.b_lets_at K04.sc_lets_at K04.c_lets_at (by decide) (by decide) K04.k_lets_at
      (case a => k_is); (case l => k_is); (case c => k_is); (case k => k_is)
    have T_funs_on : Co.FnTOf KX mg K04.d_funs_on K04.fs K04.ds K04.kc := by
      refine' Co.mkT KX G (d := K04.d_funs_on) (nm := "funs_on") rfl (st := K04.s_funs_on) ?a ?l ?c ?k K04.b_funs_on K04.sc_funs_on K04.c_funs_on (by decide) (by decide) K04.k_funs_on
      (case a => k_is); (case l => k_is); (case c => k_is); (case k => k_is)
    have T_sure_count : Co.FnTOf KX mg K04.d_sure_count K04.fs K04.ds K04.kc := by
      refine' Co.mkT KX G (d := K04.d_sure_count) (nm := "sure_count") rfl (st := K04.s_sure_count) ?a ?l ?c ?k K04.b_sure_count K04.sc_sure_count K04.c_sure_count (by decide) (by decide) K04.k_sure_count
      (case a => k_is); (case l => k_is); (case c => k_is); (case k => k_is)
    have T_sure_terms : Co.FnTOf KX mg K04.d_sure_terms K04.fs K04.ds K04.kc := by
      refine' Co.mkT KX G (d := K04.d_sure_terms) (nm := "sure_terms") rfl (st := K04.s_sure_terms) ?a ?l ?c ?k K04.b_sure_terms K04.sc_sure_terms K04.c_sure_terms (by decide) (by decide) K04.k_sure_terms
      (case a => k_is); (case l => k_is); (case c => k_is); (case k => k_is)
    have T_raised : Co.FnTOf KX mg K04.d_raised K04.fs K04.ds K04.kc := by
      refine' Co.mkT KX G (d := K04.d_raised) (nm := "raised") rfl (st := K04.s_raised) ?a ?l ?c ?k K04.b_raised K04.sc_raised K04.c_raised (by decide) (by decide) K04.k_raised
      (case a => k_is); (case l => k_is); (case c => k_is); (case k => k_is)
    have T_let_in : Co.FnTOf KX mg K04.d_let_in K04.fs K04.ds K04.kc := by
      refine' Co.mkT KX G (d := K04.d_let_in) (nm := "let_in") rfl (st := K04.s_let_in) ?a ?l ?c ?k K04.b_let_in K04.sc_let_in K04.c_let_in (by decide) (by decide) K04.k_let_in
      (case a => k_is); (case l => k_is); (case c => k_is); (case k => k_is)
    have T_lets_in : Co.FnTOf KX mg K04.d_lets_in K04.fs K04.ds K04.kc := by
      refine' Co.mkT KX G (d := K04.d_lets_in) (nm := "lets_in") rfl (st := K04.s_lets_in) ?a ?l ?c ?k K04.b_lets_in K04.sc_lets_in K04.c_lets_in (by decide) (by decide) K04.k_lets_in
      (case a => k_is); (case l => k_is); (case c => k_is); (case k => k_is)
    have T_closed_up : Co.FnTOf KX mg K04.d_closed_up K04.fs K04.ds K04.kc := by
      refine' Co.mkT KX G (d := K04.d_closed_up) (nm := "closed_up") rfl (st := K04.s_closed_up) ?a ?l ?c ?k K04.b_closed_up K04.sc_closed_up K04.c_closed_up (by decide) (by decide) K04.k_closed_up
      (case a => k_is); (case l => k_is); (case c => k_is); (case k => k_is)
    have T_stepped : Co.FnTOf KX mg K04.d_stepped K04.fs K04.ds K04.kc := by
      refine' Co.mkT KX G (d := K04.d_stepped) (nm := "stepped") rfl (st := K04.s_stepped) ?a ?l ?c ?k K04.b_stepped K04.sc_stepped K04.c_stepped (by decide) (by decide) K04.k_stepped
      (case a => k_is); (case l => k_is); (case c => k_is); (case k => k_is)
    have T_spots_in : Co.FnTOf KX mg K04.d_spots_in K04.fs K04.ds K04.kc := by
      refine' Co.mkT KX G (d := K04.d_spots_in) (nm := "spots_in") rfl (st := K04.s_spots_in) ?a ?l ?c ?k K04.b_spots_in K04.sc_spots_in K04.c_spots_in (by decide) (by decide) K04.k_spots_in
      (case a => k_is); (case l => k_is); (case c => k_is); (case k => k_is)
    have T_step_in : Co.FnTOf KX mg K04.d_step_in K04.fs K04.ds K04.kc := by
      refine' Co.mkT KX G (d := K04.d_step_in) (nm := "step_in") rfl (st := K04.s_step_in) ?a ?l ?c ?k K04.b_step_in K04.sc_step_in K04.c_step_in (by decide) (by decide) K04.k_step_in
      (case a => k_is); (case l => k_is); (case c => k_is); (case k => k_is)
    have T_step_places : Co.FnTOf KX mg K04.d_step_places K04.fs K04.ds K04.kc := by
      refine' Co.mkT KX G (d := K04.d_step_places) (nm := "step_places") rfl (st := K04.s_step_places) ?a ?l ?c ?k K04.b_step_places K04.sc_step_places K04.c_step_places (by decide) (by decide) K04.k_step_places
      (case a => k_is); (case l => k_is); (case c => k_is); (case k => k_is)
    have T_step_at : Co.FnTOf KX mg K04.d_step_at K04.fs K04.ds K04.kc := by
      refine' Co.mkT KX G (d := K04.d_step_at) (nm := "step_at") rfl (st := K04.s_step_at) ?a ?l ?c ?k K04.b_step_at K04.sc_step_at K04.c_step_at (by decide) (by decide) K04.k_step_at
      (case a => k_is); (case l => k_is); (case c => k_is); (case k => k_is)
    have T__law_box : Co.FnTOf KX mg K04.d__law_box K04.fs K04.ds K04.kc := by
      refine' Co.mkT KX G (d := K04.d__law_box) (nm := "_law_box") rfl (st := K04.s__law_box) ?a ?l ?c ?k K04.b__law_box K04.sc__law_box K04.c__law_box (by decide) (by decide) K04.k__law_box
      (case a => k_is); (case l => k_is); (case c => k_is); (case k => k_is)
    have T__law_take : Co.FnTOf KX mg K04.d__law_take K04.fs K04.ds K04.kc := by
      refine' Co.mkT KX G (d := K04.d__law_take) (nm := "_law_take") rfl (st := K04.s__law_take) ?a ?l ?c ?k K04.b__law_take K04.sc__law_take K04.c__law_take (by decide) (by decide) K04.k__law_take
      (case a => k_is); (case l => k_is); (case c => k_is); (case k => k_is)
    have T__law_cells : Co.FnTOf KX mg K04.d__law_cells K04.fs K04.ds K04.kc := by
      refine' Co.mkT KX G (d := K04.d__law_cells) (nm := "_law_cells") rfl (st := K04.s__law_cells) ?a ?l ?c ?k K04.b__law_cells K04.sc__law_cells K04.c__law_cells (by decide) (by decide) K04.k__law_cells
      (case a => k_is); (case l => k_is); (case c => k_is); (case k => k_is)
    have T__law_same : Co.FnTOf KX mg K04.d__law_same K04.fs K04.ds K04.kc := by
      refine' Co.mkT KX G (d := K04.d__law_same) (nm := "_law_same") rfl (st := K04.s__law_same) ?a ?l ?c ?k K04.b__law_same K04.sc__law_same K04.c__law_same (by decide) (by decide) K04.k__law_same
      (case a => k_is); (case l => k_is); (case c => k_is); (case k => k_is)
    have T__law_set : Co.FnTOf KX mg K04.d__law_set K04.fs K04.ds K04.kc := by
      refine' Co.mkT KX G (d := K04.d__law_set) (nm := "_law_set") rfl (st := K04.s__law_set) ?a ?l ?c ?k K04.b__law_set K04.sc__law_set K04.c__law_set (by decide) (by decide) K04.k__law_set
      (case a => k_is); (case l => k_is); (case c => k_is); (case k => k_is)
    have T__law_kids : Co.FnTOf KX mg K04.d__law_kids K04.fs K04.ds K04.kc := by
      refine' Co.mkT KX G (d := K04.d__law_kids) (nm := "_law_kids") rfl (st := K04.s__law_kids) ?a ?l ?c ?k K04.b__law_kids K04.sc__law_kids K04.c__law_kids (by decide) (by decide) K04.k__law_kids
      (case a => k_is); (case l => k_is); (case c => k_is); (case k => k_is)
    have T__law_size : Co.FnTOf KX mg K04.d__law_size K04.fs K04.ds K04.kc := by
      refine' Co.mkT KX G (d := K04.d__law_size) (nm := "_law_size") rfl (st := K04.s__law_size) ?a ?l ?c ?k K04.b__law_size K04.sc__law_size K04.c__law_size (by decide) (by decide) K04.k__law_size
      (case a => k_is); (case l => k_is); (case c => k_is); (case k => k_is)
    have T__law_deep : Co.FnTOf KX mg K04.d__law_deep K04.fs K04.ds K04.kc := by
      refine' Co.mkT KX G (d := K04.d__law_deep) (nm := "_law_deep") rfl (st := K04.s__law_deep) ?a ?l ?c ?k K04.b__law_deep K04.sc__law_deep K04.c__law_deep (by decide) (by decide) K04.k__law_deep
      (case a => k_is); (case l => k_is); (case c => k_is); (case k => k_is)
    have T__law_places : Co.FnTOf KX mg K04.d__law_places K04.fs K04.ds K04.kc := by
      refine' Co.mkT KX G (d := K04.d__law_places) (nm := "_law_places") rfl (st := K04.s__law_places) ?a ?l ?c ?k K04.b__law_places K04.sc__law_places K04.c__law_places (by decide) (by decide) K04.k__law_places
      (case a => k_is); (case l => k_is); (case c => k_is); (case k => k_is)
    have T__law_part : Co.FnTOf KX mg K04.d__law_part K04.fs K04.ds K04.kc := by
      refine' Co.mkT KX G (d := K04.d__law_part) (nm := "_law_part") rfl (st := K04.s__law_part) ?a ?l ?c ?k K04.b__law_part K04.sc__law_part K04.c__law_part (by decide) (by decide) K04.k__law_part
      (case a => k_is); (case l => k_is); (case c => k_is); (case k => k_is)
    have T__law_free : Co.FnTOf KX mg K04.d__law_free K04.fs K04.ds K04.kc := by
      refine' Co.mkT KX G (d := K04.d__law_free) (nm := "_law_free") rfl (st := K04.s__law_free) ?a ?l ?c ?k K04.b__law_free K04.sc__law_free K04.c__law_free (by decide) (by decide) K04.k__law_free
      (case a => k_is); (case l => k_is); (case c => k_is); (case k => k_is)
    have T__law_let : Co.FnTOf KX mg K04.d__law_let K04.fs K04.ds K04.kc := by
      refine' Co.mkT KX G (d := K04.d__law_let) (nm := "_law_let") rfl (st := K04.s__law_let) ?a ?l ?c ?k K04.b__law_let K04.sc__law_let K04.c__law_let (by decide) (by decide) K04.k__law_let
      (case a => k_is); (case l => k_is); (case c => k_is); (case k => k_is)
    have T__law_any : Co.FnTOf KX mg K04.d__law_any K04.fs K04.ds K04.kc := by
      refine' Co.mkT KX G (d := K04.d__law_any) (nm := "_law_any") rfl (st := K04.s__law_any) ?a ?l ?c ?k K04.b__law_any K04.sc__law_any K04.c__law_any (by decide) (by decide) K04.k__law_any
      (case a => k_is); (case l => k_is); (case c => k_is); (case k => k_is)
    have T__law_drawn : Co.FnTOf KX mg K04.d__law_drawn K04.fs K04.ds K04.kc := by
      refine' Co.mkT KX G (d := K04.d__law_drawn) (nm := "_law_drawn") rfl (st := K04.s__law_drawn) ?a ?l ?c ?k K04.b__law_drawn K04.sc__law_drawn K04.c__law_drawn (by decide) (by decide) K04.k__law_drawn
      (case a => k_is); (case l => k_is); (case c => k_is); (case k => k_is)
    have T__law_right : Co.FnTOf KX mg K04.d__law_right K04.fs K04.ds K04.kc := by
      refine' Co.mkT KX G (d := K04.d__law_right) (nm := "_law_right") rfl (st := K04.s__law_right) ?a ?l ?c ?k K04.b__law_right K04.sc__law_right K04.c__law_right (by decide) (by decide) K04.k__law_right
      (case a => k_is); (case l => k_is); (case c => k_is); (case k => k_is)
    have T_law : Co.FnTOf KX mg K04.d_law K04.fs K04.ds K04.kc := by
      refine' Co.mkT KX G (d := K04.d_law) (nm := "law") rfl (st := K04.s_law) ?a ?l ?c ?k K04.b_law K04.sc_law K04.c_law (by decide) (by decide) K04.k_law
      (case a => k_is); (case l => k_is); (case c => k_is); (case k => k_is)
    have M : Co.MdOf KX w mg K04.g K04.ds := by
      refine Co.md_of KX G ?mc ?md ?mb
      case mc =>
        intro p hp
        rcases List.mem_cons.mp hp with hp | hp
        · subst hp
          first
            | (refine' Co.con_int ?a; (case a => k_is))
            | (refine' Co.con_str ?a; (case a => k_is))
        cases hp
      case md =>
        intro x hx
        rcases List.mem_cons.mp hx with hx | hx
        · subst hx
          refine' ⟨_, _, _, _, rfl, ?a, ⟨?l, ?t, ?s⟩, ?d⟩
          (case a => k_is); (case l => k_is)
          (case t => exact (by repeat (first | exact True.intro | refine' ⟨⟨_, _, rfl, rfl⟩, ?_⟩)))
          (case s => first | rfl | decide)
          (case d => exact (by repeat (first | exact .nil | refine' .int rfl rfl ?_ | refine' .str rfl rfl ?_)))
        cases hx
      case mb =>
        intro x hx
        unfold Co.blts at hx
        simp only [List.mem_cons, List.not_mem_nil, or_false] at hx
        rcases hx with rfl | rfl | rfl | rfl | rfl | rfl | rfl | rfl | rfl | rfl | rfl | rfl | rfl | rfl | rfl | rfl | rfl | rfl <;> k_is
    have hT : ∀ f, K04.fs.contains f = true → ∃ d, K04.tab f = some d ∧ d.name = f ∧ Co.FnTOf KX mg d K04.fs K04.ds K04.kc := by
      intro f hf
      have hf := List.contains_iff_mem.mp hf
      unfold K04.fs K04.fns at hf
      simp only [List.map_cons, List.map_nil] at hf
      rcases List.mem_cons.mp hf with hf | hf
      · exact ⟨K04.d_is_number, by rw [hf]; rfl, hf.symm, T_is_number⟩
      rcases List.mem_cons.mp hf with hf | hf
      · exact ⟨K04.d_is_among, by rw [hf]; rfl, hf.symm, T_is_among⟩
      rcases List.mem_cons.mp hf with hf | hf
      · exact ⟨K04.d_is_from, by rw [hf]; rfl, hf.symm, T_is_from⟩
      rcases List.mem_cons.mp hf with hf | hf
      · exact ⟨K04.d_are_among, by rw [hf]; rfl, hf.symm, T_are_among⟩
      rcases List.mem_cons.mp hf with hf | hf
      · exact ⟨K04.d_tupled, by rw [hf]; rfl, hf.symm, T_tupled⟩
      rcases List.mem_cons.mp hf with hf | hf
      · exact ⟨K04.d_children, by rw [hf]; rfl, hf.symm, T_children⟩
      rcases List.mem_cons.mp hf with hf | hf
      · exact ⟨K04.d_is_term_in, by rw [hf]; rfl, hf.symm, T_is_term_in⟩
      rcases List.mem_cons.mp hf with hf | hf
      · exact ⟨K04.d_sure_term, by rw [hf]; rfl, hf.symm, T_sure_term⟩
      rcases List.mem_cons.mp hf with hf | hf
      · exact ⟨K04.d_places_in, by rw [hf]; rfl, hf.symm, T_places_in⟩
      rcases List.mem_cons.mp hf with hf | hf
      · exact ⟨K04.d_is_place_in, by rw [hf]; rfl, hf.symm, T_is_place_in⟩
      rcases List.mem_cons.mp hf with hf | hf
      · exact ⟨K04.d_part_in, by rw [hf]; rfl, hf.symm, T_part_in⟩
      rcases List.mem_cons.mp hf with hf | hf
      · exact ⟨K04.d_put_in, by rw [hf]; rfl, hf.symm, T_put_in⟩
      rcases List.mem_cons.mp hf with hf | hf
      · exact ⟨K04.d_letters_in, by rw [hf]; rfl, hf.symm, T_letters_in⟩
      rcases List.mem_cons.mp hf with hf | hf
      · exact ⟨K04.d_sure_place, by rw [hf]; rfl, hf.symm, T_sure_place⟩
      rcases List.mem_cons.mp hf with hf | hf
      · exact ⟨K04.d_part_at, by rw [hf]; rfl, hf.symm, T_part_at⟩
      rcases List.mem_cons.mp hf with hf | hf
      · exact ⟨K04.d_free_letters, by rw [hf]; rfl, hf.symm, T_free_letters⟩
      rcases List.mem_cons.mp hf with hf | hf
      · exact ⟨K04.d_is_closed, by rw [hf]; rfl, hf.symm, T_is_closed⟩
      rcases List.mem_cons.mp hf with hf | hf
      · exact ⟨K04.d_raised_in, by rw [hf]; rfl, hf.symm, T_raised_in⟩
      rcases List.mem_cons.mp hf with hf | hf
      · exact ⟨K04.d_lets_at, by rw [hf]; rfl, hf.symm, T_lets_at⟩
      rcases List.mem_cons.mp hf with hf | hf
      · exact ⟨K04.d_funs_on, by rw [hf]; rfl, hf.symm, T_funs_on⟩
      rcases List.mem_cons.mp hf with hf | hf
      · exact ⟨K04.d_sure_count, by rw [hf]; rfl, hf.symm, T_sure_count⟩
      rcases List.mem_cons.mp hf with hf | hf
      · exact ⟨K04.d_sure_terms, by rw [hf]; rfl, hf.symm, T_sure_terms⟩
      rcases List.mem_cons.mp hf with hf | hf
      · exact ⟨K04.d_raised, by rw [hf]; rfl, hf.symm, T_raised⟩
      rcases List.mem_cons.mp hf with hf | hf
      · exact ⟨K04.d_let_in, by rw [hf]; rfl, hf.symm, T_let_in⟩
      rcases List.mem_cons.mp hf with hf | hf
      · exact ⟨K04.d_lets_in, by rw [hf]; rfl, hf.symm, T_lets_in⟩
      rcases List.mem_cons.mp hf with hf | hf
      · exact ⟨K04.d_closed_up, by rw [hf]; rfl, hf.symm, T_closed_up⟩
      rcases List.mem_cons.mp hf with hf | hf
      · exact ⟨K04.d_stepped, by rw [hf]; rfl, hf.symm, T_stepped⟩
      rcases List.mem_cons.mp hf with hf | hf
      · exact ⟨K04.d_spots_in, by rw [hf]; rfl, hf.symm, T_spots_in⟩
      rcases List.mem_cons.mp hf with hf | hf
      · exact ⟨K04.d_step_in, by rw [hf]; rfl, hf.symm, T_step_in⟩
      rcases List.mem_cons.mp hf with hf | hf
      · exact ⟨K04.d_step_places, by rw [hf]; rfl, hf.symm, T_step_places⟩
      rcases List.mem_cons.mp hf with hf | hf
      · exact ⟨K04.d_step_at, by rw [hf]; rfl, hf.symm, T_step_at⟩
      rcases List.mem_cons.mp hf with hf | hf
      · exact ⟨K04.d__law_box, by rw [hf]; rfl, hf.symm, T__law_box⟩
      rcases List.mem_cons.mp hf with hf | hf
      · exact ⟨K04.d__law_take, by rw [hf]; rfl, hf.symm, T__law_take⟩
      rcases List.mem_cons.mp hf with hf | hf
      · exact ⟨K04.d__law_cells, by rw [hf]; rfl, hf.symm, T__law_cells⟩
      rcases List.mem_cons.mp hf with hf | hf
      · exact ⟨K04.d__law_same, by rw [hf]; rfl, hf.symm, T__law_same⟩
      rcases List.mem_cons.mp hf with hf | hf
      · exact ⟨K04.d__law_set, by rw [hf]; rfl, hf.symm, T__law_set⟩
      rcases List.mem_cons.mp hf with hf | hf
      · exact ⟨K04.d__law_kids, by rw [hf]; rfl, hf.symm, T__law_kids⟩
      rcases List.mem_cons.mp hf with hf | hf
      · exact ⟨K04.d__law_size, by rw [hf]; rfl, hf.symm, T__law_size⟩
      rcases List.mem_cons.mp hf with hf | hf
      · exact ⟨K04.d__law_deep, by rw [hf]; rfl, hf.symm, T__law_deep⟩
      rcases List.mem_cons.mp hf with hf | hf
      · exact ⟨K04.d__law_places, by rw [hf]; rfl, hf.symm, T__law_places⟩
      rcases List.mem_cons.mp hf with hf | hf
      · exact ⟨K04.d__law_part, by rw [hf]; rfl, hf.symm, T__law_part⟩
      rcases List.mem_cons.mp hf with hf | hf
      · exact ⟨K04.d__law_free, by rw [hf]; rfl, hf.symm, T__law_free⟩
      rcases List.mem_cons.mp hf with hf | hf
      · exact ⟨K04.d__law_let, by rw [hf]; rfl, hf.symm, T__law_let⟩
      rcases List.mem_cons.mp hf with hf | hf
      · exact ⟨K04.d__law_any, by rw [hf]; rfl, hf.symm, T__law_any⟩
      rcases List.mem_cons.mp hf with hf | hf
      · exact ⟨K04.d__law_drawn, by rw [hf]; rfl, hf.symm, T__law_drawn⟩
      rcases List.mem_cons.mp hf with hf | hf
      · exact ⟨K04.d__law_right, by rw [hf]; rfl, hf.symm, T__law_right⟩
      rcases List.mem_cons.mp hf with hf | hf
      · exact ⟨K04.d_law, by rw [hf]; rfl, hf.symm, T_law⟩
      cases hf
    refine' Co.law_end (n := 199) (fuel := K04.fuel) (d := K04.d_law) (nm := "law") (st := K04.s_law) KX G M hT rfl hmg rfl rfl rfl ?a ?l ?c ?k (fun _ _ _ _ _ _ s v => .of_eq rfl) K04.sc_law K04.c_law K04.law_true
    (case a => k_is); (case l => k_is); (case c => k_is); (case k => k_is)
